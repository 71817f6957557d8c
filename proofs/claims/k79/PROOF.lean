import PyProof.Rows.All
import Wide.All
import OpenK.AllK
import Wide.FinOn
import HandS.ForMost
import HandS.Evl
import HandS.TupAny
import HandS.Star
import HandS.Deep
import HandS.Wide
import HandS.Gcd
import HandS.IsInst
import HandS.Defaults
import KE.KMathG
import Flt.RightSqrt
import KE.GoesMore
import PyProof.Draws
import PySem.Challenge.RW_drawarms_k79_whole_no_arm_beats_the_fewe
import HandS.Words
import KE.KStateDown
import Lean
import HandS.Exc
import HandS.More
import HandS.WordsExc
import HandS.Head0
import HandS.Head1
import HandS.Head2
import HandS.Head3
import HandS.HeadEnd
import HandS.HeadHook1
import HandS.HeadHook2
section
set_option linter.all false
namespace K79
/-! Gaussian whole numbers as a commutative ring. -/
@[ext] structure GI where
  re : Int
  im : Int
deriving DecidableEq
namespace GI
instance : Add GI := ⟨fun a b => ⟨a.re + b.re, a.im + b.im⟩⟩
instance : Sub GI := ⟨fun a b => ⟨a.re - b.re, a.im - b.im⟩⟩
instance : Neg GI := ⟨fun a => ⟨-a.re, -a.im⟩⟩
instance : Mul GI := ⟨fun a b => ⟨a.re * b.re - a.im * b.im, a.re * b.im + a.im * b.re⟩⟩
instance : NatCast GI := ⟨fun n => ⟨n, 0⟩⟩
instance : IntCast GI := ⟨fun n => ⟨n, 0⟩⟩
instance (n : Nat) : OfNat GI n := ⟨⟨n, 0⟩⟩
def npow (a : GI) : Nat → GI
  | 0 => ⟨1, 0⟩
  | n + 1 => npow a n * a
instance : HPow GI Nat GI := ⟨npow⟩
instance : SMul Nat GI := ⟨fun n a => (⟨n, 0⟩ : GI) * a⟩
instance : SMul Int GI := ⟨fun n a => (⟨n, 0⟩ : GI) * a⟩
theorem add_re (a b : GI) : (a + b).re = a.re + b.re := rfl
theorem add_im (a b : GI) : (a + b).im = a.im + b.im := rfl
theorem sub_re (a b : GI) : (a - b).re = a.re - b.re := rfl
theorem sub_im (a b : GI) : (a - b).im = a.im - b.im := rfl
theorem neg_re (a : GI) : (-a).re = -a.re := rfl
theorem neg_im (a : GI) : (-a).im = -a.im := rfl
theorem mul_re (a b : GI) : (a * b).re = a.re * b.re - a.im * b.im := rfl
theorem mul_im (a b : GI) : (a * b).im = a.re * b.im + a.im * b.re := rfl
theorem zero_re : (0 : GI).re = 0 := rfl
theorem zero_im : (0 : GI).im = 0 := rfl
theorem one_re : (1 : GI).re = 1 := rfl
theorem one_im : (1 : GI).im = 0 := rfl
theorem nat_re (n : Nat) : (Nat.cast n : GI).re = (n : Int) := rfl
theorem nat_im (n : Nat) : (Nat.cast n : GI).im = 0 := rfl
instance : Lean.Grind.CommRing GI where
  add_zero a := by ext <;> simp [add_re, add_im, zero_re, zero_im]
  add_comm a b := by ext <;> simp [add_re, add_im] <;> omega
  add_assoc a b c := by ext <;> simp [add_re, add_im] <;> omega
  mul_assoc a b c := by ext <;> simp only [mul_re, mul_im] <;> grind
  mul_one a := by ext <;> simp [mul_re, mul_im, one_re, one_im]
  one_mul a := by ext <;> simp [mul_re, mul_im, one_re, one_im]
  left_distrib a b c := by ext <;> simp only [mul_re, mul_im, add_re, add_im] <;> grind
  right_distrib a b c := by ext <;> simp only [mul_re, mul_im, add_re, add_im] <;> grind
  zero_mul a := by ext <;> simp [mul_re, mul_im, zero_re, zero_im]
  mul_zero a := by ext <;> simp [mul_re, mul_im, zero_re, zero_im]
  mul_comm a b := by ext <;> simp only [mul_re, mul_im] <;> grind
  pow_zero a := rfl
  pow_succ a n := rfl
  ofNat_succ n := by ext <;> rfl
  ofNat_eq_natCast n := rfl
  nsmul_eq_natCast_mul n a := rfl
  neg_add_cancel a := by ext <;> simp [add_re, add_im, neg_re, neg_im, zero_re, zero_im] <;> omega
  sub_eq_add_neg a b := by ext <;> simp [add_re, add_im, neg_re, neg_im, sub_re, sub_im] <;> omega
  neg_zsmul i a := by
    ext
    · show (-i) * a.re - 0 * a.im = -(i * a.re - 0 * a.im)
      grind
    · show (-i) * a.im + 0 * a.re = -(i * a.im + 0 * a.re)
      grind
  zsmul_natCast_eq_nsmul n a := rfl
  intCast_ofNat n := rfl
  intCast_neg i := rfl
/-- the conjugate, the norm -/
def bar (a : GI) : GI := ⟨a.re, -a.im⟩
def nrm (a : GI) : Int := a.re * a.re + a.im * a.im
theorem bar_bar (a : GI) : bar (bar a) = a := by ext <;> simp [bar]
theorem bar_mul (a b : GI) : bar (a * b) = bar a * bar b := by
  ext
  · show a.re * b.re - a.im * b.im = a.re * b.re - (-a.im) * (-b.im)
    grind
  · show -(a.re * b.im + a.im * b.re) = a.re * (-b.im) + (-a.im) * b.re
    grind
theorem bar_add (a b : GI) : bar (a + b) = bar a + bar b := by
  ext
  · rfl
  · show -(a.im + b.im) = -a.im + -b.im
    omega
theorem bar_sub (a b : GI) : bar (a - b) = bar a - bar b := by
  ext
  · rfl
  · show -(a.im - b.im) = -a.im - -b.im
    omega
theorem bar_neg (a : GI) : bar (-a) = -bar a := by ext <;> rfl
theorem bar_zero : bar 0 = 0 := rfl
theorem bar_one : bar 1 = 1 := rfl
theorem nrm_mul (a b : GI) : nrm (a * b) = nrm a * nrm b := by
  simp only [nrm, mul_re, mul_im]; grind
theorem nrm_bar (a : GI) : nrm (bar a) = nrm a := by simp [nrm, bar, Int.neg_mul_neg]
theorem mul_bar (a : GI) : a * bar a = ⟨nrm a, 0⟩ := by
  ext
  · show a.re * a.re - a.im * (-a.im) = a.re * a.re + a.im * a.im
    grind
  · show a.re * (-a.im) + a.im * a.re = 0
    grind
theorem sq_nonneg (x : Int) : 0 ≤ x * x := by
  rcases Int.le_total 0 x with h | h
  · exact Int.mul_nonneg h h
  · exact Int.mul_nonneg_of_nonpos_of_nonpos h h
theorem sq_eq_zero {x : Int} (h : x * x = 0) : x = 0 := by
  rcases Int.mul_eq_zero.mp h with h | h <;> exact h
theorem nrm_nonneg (a : GI) : 0 ≤ nrm a := by
  have h1 := sq_nonneg a.re
  have h2 := sq_nonneg a.im
  unfold nrm; omega
theorem nrm_eq_zero {a : GI} (h : nrm a = 0) : a = 0 := by
  have h1 := sq_nonneg a.re
  have h2 := sq_nonneg a.im
  unfold nrm at h
  ext
  · exact sq_eq_zero (by omega)
  · exact sq_eq_zero (by omega)
theorem nrm_zero : nrm 0 = 0 := rfl
theorem nrm_pos {a : GI} (h : a ≠ 0) : 0 < nrm a := by
  have h1 := nrm_nonneg a
  have h2 : nrm a ≠ 0 := fun e => h (nrm_eq_zero e)
  omega
theorem mul_eq_zero {a b : GI} (h : a * b = 0) : a = 0 ∨ b = 0 := by
  have e : nrm a * nrm b = 0 := by rw [← nrm_mul, h]; rfl
  rcases Int.mul_eq_zero.mp e with h | h
  · exact .inl (nrm_eq_zero h)
  · exact .inr (nrm_eq_zero h)
theorem mul_ne_zero {a b : GI} (ha : a ≠ 0) (hb : b ≠ 0) : a * b ≠ 0 := fun h => by
  rcases mul_eq_zero h with h | h
  · exact ha h
  · exact hb h
theorem mul_cancel {a b c : GI} (h : c ≠ 0) (e : c * a = c * b) : a = b := by
  have e2 : c * (a - b) = 0 := by grind
  rcases mul_eq_zero e2 with h2 | h2
  · exact absurd h2 h
  · grind
theorem bar_ne_zero {a : GI} (h : a ≠ 0) : bar a ≠ 0 := fun e => h (by rw [← bar_bar a, e]; rfl)
end GI
end K79
end
section
set_option linter.all false
namespace K79
open GI
/-! ### the nearest whole number, one step of the common divisor -/
def near (x d : Int) : Int := (2 * x + d) / (2 * d)
theorem near_ok {x d : Int} (h : 0 < d) : -d ≤ 2 * (x - near x d * d) ∧ 2 * (x - near x d * d) ≤ d := by
  unfold near
  have h2 : 0 < 2 * d := by omega
  have e := Int.mul_ediv_add_emod (2 * x + d) (2 * d)
  have r0 := Int.emod_nonneg (2 * x + d) (show 2 * d ≠ 0 by omega)
  have r1 := Int.emod_lt_of_pos (2 * x + d) h2
  generalize (2 * x + d) / (2 * d) = q at *
  generalize (2 * x + d) % (2 * d) = r at *
  have e2 : 2 * d * q = 2 * (q * d) := by grind
  rw [e2] at e
  generalize q * d = z at *
  omega
def quoG (a b : GI) : GI := ⟨near (a * bar b).re (nrm b), near (a * bar b).im (nrm b)⟩
def stp (a b : GI) : GI := a - quoG a b * b
theorem stp_bar (a b : GI) : stp a b * bar b = ⟨(a * bar b).re - near (a * bar b).re (nrm b) * nrm b, (a * bar b).im - near (a * bar b).im (nrm b) * nrm b⟩ := by
  have e : stp a b * bar b = a * bar b - quoG a b * (b * bar b) := by unfold stp; grind
  rw [e, mul_bar]
  ext
  · show (a * bar b).re - ((quoG a b).re * nrm b - (quoG a b).im * 0) = _
    simp [quoG]
  · show (a * bar b).im - ((quoG a b).re * 0 + (quoG a b).im * nrm b) = _
    simp [quoG]
theorem sq_le {x d : Int} (h1 : -d ≤ x) (h2 : x ≤ d) : x * x ≤ d * d := by
  have h3 : 0 ≤ (d - x) * (d + x) := Int.mul_nonneg (by omega) (by omega)
  grind
theorem stp_nrm (a b : GI) (h : b ≠ 0) : 2 * nrm (stp a b) ≤ nrm b := by
  have hp := nrm_pos h
  have e : nrm (stp a b) * nrm b = nrm (stp a b * bar b) := by rw [nrm_mul, nrm_bar]
  rw [stp_bar] at e
  obtain ⟨l1, u1⟩ := near_ok (x := (a * bar b).re) hp
  obtain ⟨l2, u2⟩ := near_ok (x := (a * bar b).im) hp
  have e' : nrm (stp a b) * nrm b = ((a * bar b).re - near (a * bar b).re (nrm b) * nrm b) * ((a * bar b).re - near (a * bar b).re (nrm b) * nrm b) + ((a * bar b).im - near (a * bar b).im (nrm b) * nrm b) * ((a * bar b).im - near (a * bar b).im (nrm b) * nrm b) := e
  clear e
  generalize (a * bar b).re - near (a * bar b).re (nrm b) * nrm b = x at *
  generalize (a * bar b).im - near (a * bar b).im (nrm b) * nrm b = y at *
  have q1 := sq_le l1 u1
  have q2 := sq_le l2 u2
  have f : 4 * (nrm (stp a b) * nrm b) ≤ 2 * (nrm b * nrm b) := by
    rw [e']
    have e1 : 2 * x * (2 * x) = 4 * (x * x) := by grind
    have e2 : 2 * y * (2 * y) = 4 * (y * y) := by grind
    rw [e1] at q1
    rw [e2] at q2
    omega
  have f2 : (2 * nrm (stp a b)) * nrm b ≤ nrm b * nrm b := by
    have e3 : (2 * nrm (stp a b)) * nrm b = 2 * (nrm (stp a b) * nrm b) := by grind
    rw [e3]; omega
  exact Int.le_of_mul_le_mul_right f2 hp
/-! ### the common divisor -/
def gcdF : Nat → GI → GI → GI
  | 0, a, _ => a
  | n + 1, a, b => if b = 0 then a else gcdF n b (stp a b)
theorem gcdF_zero (n : Nat) (a : GI) : gcdF n a 0 = a := by
  cases n with
  | zero => rfl
  | succ n => simp [gcdF]
def Dv (a b : GI) : Prop := ∃ c, b = c * a
theorem Dv.refl (a : GI) : Dv a a := ⟨1, by grind⟩
theorem Dv.zero (a : GI) : Dv a 0 := ⟨0, by grind⟩
theorem Dv.trans {a b c : GI} (h1 : Dv a b) (h2 : Dv b c) : Dv a c := by
  obtain ⟨x, rfl⟩ := h1
  obtain ⟨y, rfl⟩ := h2
  exact ⟨y * x, by grind⟩
theorem Dv.mul {a b : GI} (c : GI) (h : Dv a b) : Dv a (c * b) := by
  obtain ⟨x, rfl⟩ := h
  exact ⟨c * x, by grind⟩
theorem Dv.sub {a b c : GI} (h1 : Dv a b) (h2 : Dv a c) : Dv a (b - c) := by
  obtain ⟨x, rfl⟩ := h1
  obtain ⟨y, rfl⟩ := h2
  exact ⟨x - y, by grind⟩
theorem Dv.add {a b c : GI} (h1 : Dv a b) (h2 : Dv a c) : Dv a (b + c) := by
  obtain ⟨x, rfl⟩ := h1
  obtain ⟨y, rfl⟩ := h2
  exact ⟨x + y, by grind⟩
theorem pow2_succ (n : Nat) : (2 : Int) ^ (n + 1) = 2 * 2 ^ n := by rw [Int.pow_succ]; omega
theorem stp_lt {n : Nat} {a b : GI} (h : b ≠ 0) (hb : nrm b < 2 ^ (n + 1)) : nrm (stp a b) < 2 ^ n := by
  have h1 := stp_nrm a b h
  rw [pow2_succ] at hb
  omega
theorem nrm_lt_one {b : GI} (h : nrm b < 2 ^ 0) : b = 0 := by
  have h1 := nrm_nonneg b
  have e : (2 : Int) ^ 0 = 1 := rfl
  exact nrm_eq_zero (by omega)
theorem gcdF_dv : ∀ (n : Nat) (a b : GI), nrm b < 2 ^ n → Dv (gcdF n a b) a ∧ Dv (gcdF n a b) b
  | 0, a, b, h => by
    rw [nrm_lt_one h]
    exact ⟨Dv.refl a, Dv.zero a⟩
  | n + 1, a, b, h => by
    by_cases e : b = 0
    · subst e
      rw [gcdF_zero]
      exact ⟨Dv.refl a, Dv.zero a⟩
    · have ih := gcdF_dv n b (stp a b) (stp_lt e h)
      rw [gcdF, if_neg e]
      refine ⟨?_, ih.1⟩
      have e2 : a = stp a b + quoG a b * b := by unfold stp; grind
      have h3 := Dv.add ih.2 (Dv.mul (quoG a b) ih.1)
      rw [← e2] at h3
      exact h3
theorem gcdF_max {c : GI} : ∀ (n : Nat) (a b : GI), Dv c a → Dv c b → Dv c (gcdF n a b)
  | 0, a, b, h, _ => h
  | n + 1, a, b, h1, h2 => by
    by_cases e : b = 0
    · rw [gcdF, if_pos e]; exact h1
    · rw [gcdF, if_neg e]
      exact gcdF_max n b (stp a b) h2 (Dv.sub h1 (Dv.mul _ h2))
/-- more turns change nothing -/
theorem gcdF_more : ∀ (n k : Nat) (a b : GI), nrm b < 2 ^ n → gcdF (n + k) a b = gcdF n a b
  | 0, k, a, b, h => by rw [nrm_lt_one h, gcdF_zero, gcdF_zero]
  | n + 1, k, a, b, h => by
    rw [show n + 1 + k = (n + k) + 1 by omega]
    by_cases e : b = 0
    · rw [gcdF, gcdF, if_pos e, if_pos e]
    · rw [gcdF, gcdF, if_neg e, if_neg e]
      exact gcdF_more n k b (stp a b) (stp_lt e h)
theorem gcdF_nrm {m : Int} : ∀ (n : Nat) (a b : GI), nrm a ≤ m → nrm b ≤ m → nrm (gcdF n a b) ≤ m
  | 0, a, b, h, _ => h
  | n + 1, a, b, h1, h2 => by
    by_cases e : b = 0
    · rw [gcdF, if_pos e]; exact h1
    · rw [gcdF, if_neg e]
      have h3 := stp_nrm a b e
      have h4 := nrm_nonneg (stp a b)
      exact gcdF_nrm n b (stp a b) h2 (by omega)
def gcdO (a b : GI) : GI := gcdF 4000 a b
def gcdL (l : List GI) : GI := l.foldl gcdO 0
def Lo (z : GI) : Prop := nrm z < 2 ^ 4000
theorem gcdL_dv : ∀ (l : List GI) (g : GI), (∀ z ∈ l, Lo z) → Dv (l.foldl gcdO g) g ∧ ∀ z ∈ l, Dv (l.foldl gcdO g) z
  | [], g, _ => ⟨Dv.refl g, fun z h => by cases h⟩
  | x :: r, g, h => by
    obtain ⟨h1, h2⟩ := gcdL_dv r (gcdO g x) fun z hz => h z (List.mem_cons_of_mem _ hz)
    obtain ⟨d1, d2⟩ := gcdF_dv 4000 g x (h x List.mem_cons_self)
    refine ⟨h1.trans d1, fun z hz => ?_⟩
    rcases List.mem_cons.mp hz with rfl | hz
    · exact h1.trans d2
    · exact h2 z hz
theorem gcdL_max {c : GI} : ∀ (l : List GI) (g : GI), Dv c g → (∀ z ∈ l, Dv c z) → Dv c (l.foldl gcdO g)
  | [], g, h, _ => h
  | x :: r, g, h, hl => gcdL_max r (gcdO g x) (gcdF_max 4000 g x h (hl x List.mem_cons_self)) fun z hz => hl z (List.mem_cons_of_mem _ hz)
theorem gcdL_nrm {m : Int} : ∀ (l : List GI) (g : GI), nrm g ≤ m → (∀ z ∈ l, nrm z ≤ m) → nrm (l.foldl gcdO g) ≤ m
  | [], g, h, _ => h
  | x :: r, g, h, hl => gcdL_nrm r (gcdO g x) (gcdF_nrm 4000 g x h (hl x List.mem_cons_self)) fun z hz => hl z (List.mem_cons_of_mem _ hz)
/-! ### whole quotients, units -/
def quo (a b : GI) : GI := ⟨(a * bar b).re / nrm b, (a * bar b).im / nrm b⟩
theorem quo_mul (c b : GI) (h : b ≠ 0) : quo (c * b) b = c := by
  have hp := nrm_pos h
  have e : c * b * bar b = c * (b * bar b) := by grind
  unfold quo
  rw [e, mul_bar]
  ext
  · show (c.re * nrm b - c.im * 0) / nrm b = c.re
    rw [Int.mul_zero, Int.sub_zero, Int.mul_ediv_cancel _ (by omega)]
  · show (c.re * 0 + c.im * nrm b) / nrm b = c.im
    rw [Int.mul_zero, Int.zero_add, Int.mul_ediv_cancel _ (by omega)]
theorem quo_rem (c b : GI) (h : b ≠ 0) : (c * b * bar b).re % nrm b = 0 ∧ (c * b * bar b).im % nrm b = 0 := by
  have e : c * b * bar b = c * (b * bar b) := by grind
  rw [e, mul_bar]
  refine ⟨?_, ?_⟩
  · show (c.re * nrm b - c.im * 0) % nrm b = 0
    rw [Int.mul_zero, Int.sub_zero, Int.mul_emod_left]
  · show (c.re * 0 + c.im * nrm b) % nrm b = 0
    rw [Int.mul_zero, Int.zero_add, Int.mul_emod_left]
def QF (z : GI) : Prop := 0 < z.re ∧ 0 ≤ z.im
instance (z : GI) : Decidable (QF z) := inferInstanceAs (Decidable (_ ∧ _))
def ui : GI := ⟨0, 1⟩
/-- the unit that brings to the quarter form -/
def unitF (z : GI) : GI := if QF (z * 1) then 1 else if QF (z * ui) then ui else if QF (z * (-1)) then -1 else -ui
theorem one_form (z : GI) : z * 1 = z := by grind
theorem ui_re (z : GI) : (z * ui).re = -z.im := by show z.re * 0 - z.im * 1 = _; omega
theorem ui_im (z : GI) : (z * ui).im = z.re := by show z.re * 1 + z.im * 0 = _; omega
theorem neg1_mul (z : GI) : z * (-1) = -z := by grind
theorem nui_mul (z : GI) : z * (-ui) = -(z * ui) := by grind
theorem unitF_qf {z : GI} (h : z ≠ 0) : QF (z * unitF z) := by
  unfold unitF
  split
  · assumption
  · split
    · assumption
    · split
      · assumption
      · rename_i h1 h2 h3
        unfold QF at *
        rw [one_form] at h1
        rw [ui_re, ui_im] at h2
        rw [neg1_mul, neg_re, neg_im] at h3
        rw [nui_mul, neg_re, neg_im, ui_re, ui_im]
        have h4 : ¬(z.re = 0 ∧ z.im = 0) := fun ⟨a, b⟩ => h (by ext <;> assumption)
        omega
theorem unitF_ne (z : GI) : unitF z ≠ 0 := by
  unfold unitF
  split
  · decide
  · split
    · decide
    · split <;> decide
theorem unitF_nrm (z : GI) : nrm (unitF z) = 1 := by
  unfold unitF
  split
  · decide
  · split
    · decide
    · split <;> decide
theorem unit_cases {u : GI} (h : nrm u = 1) : u = 1 ∨ u = ui ∨ u = -1 ∨ u = -ui := by
  have h1 := GI.sq_nonneg u.re
  have h2 := GI.sq_nonneg u.im
  unfold nrm at h
  have a1 : -1 ≤ u.re ∧ u.re ≤ 1 := by
    refine ⟨?_, ?_⟩
    · refine Int.not_lt.mp fun hh => ?_
      have : 2 * 2 ≤ (-u.re) * (-u.re) := Int.mul_le_mul (by omega) (by omega) (by omega) (by omega)
      rw [Int.neg_mul_neg] at this; omega
    · refine Int.not_lt.mp fun hh => ?_
      have : 2 * 2 ≤ u.re * u.re := Int.mul_le_mul (by omega) (by omega) (by omega) (by omega)
      omega
  have a2 : -1 ≤ u.im ∧ u.im ≤ 1 := by
    refine ⟨?_, ?_⟩
    · refine Int.not_lt.mp fun hh => ?_
      have : 2 * 2 ≤ (-u.im) * (-u.im) := Int.mul_le_mul (by omega) (by omega) (by omega) (by omega)
      rw [Int.neg_mul_neg] at this; omega
    · refine Int.not_lt.mp fun hh => ?_
      have : 2 * 2 ≤ u.im * u.im := Int.mul_le_mul (by omega) (by omega) (by omega) (by omega)
      omega
  obtain ⟨x, y⟩ := u
  simp only at h a1 a2
  have b1 : x = -1 ∨ x = 0 ∨ x = 1 := by omega
  have b2 : y = -1 ∨ y = 0 ∨ y = 1 := by omega
  rcases b1 with rfl | rfl | rfl <;> rcases b2 with rfl | rfl | rfl <;> first | (exfalso; revert h; decide) | decide
theorem qf_unit {z u : GI} (h : QF z) (hu : nrm u = 1) (h2 : QF (z * u)) : u = 1 := by
  unfold QF at *
  rcases unit_cases hu with rfl | rfl | rfl | rfl
  · rfl
  · rw [ui_re, ui_im] at h2; omega
  · rw [neg1_mul, neg_re, neg_im] at h2; omega
  · rw [nui_mul, neg_re, neg_im, ui_re, ui_im] at h2; omega
theorem unitF_one {z : GI} (h : QF z) : unitF z = 1 := by
  unfold unitF
  rw [one_form, if_pos h]
end K79
end
section
set_option linter.all false
namespace K79
open GI
/-! ### four numbers, brought to their form -/
structure Mx where
  a : GI
  b : GI
  c : GI
  d : GI
deriving DecidableEq
namespace Mx
def det (M : Mx) : GI := M.a * M.d - M.b * M.c
def sc (k : GI) (M : Mx) : Mx := ⟨M.a * k, M.b * k, M.c * k, M.d * k⟩
def fst (M : Mx) : GI := if M.a ≠ 0 then M.a else if M.b ≠ 0 then M.b else if M.c ≠ 0 then M.c else M.d
def lst (M : Mx) : List GI := [M.a, M.b, M.c, M.d]
def Lo (M : Mx) : Prop := ∀ z ∈ M.lst, K79.Lo z
def g (M : Mx) : GI := gcdL M.lst
def qs (M : Mx) : Mx := ⟨quo M.a M.g, quo M.b M.g, quo M.c M.g, quo M.d M.g⟩
def form (M : Mx) : Mx := M.qs.sc (unitF M.qs.fst)
theorem det_sc (k : GI) (M : Mx) : (M.sc k).det = M.det * (k * k) := by simp only [det, sc]; grind
theorem sc_sc (k l : GI) (M : Mx) : (M.sc k).sc l = M.sc (k * l) := by
  simp only [sc, mk.injEq]
  refine ⟨?_, ?_, ?_, ?_⟩ <;> grind
theorem sc_one (M : Mx) : M.sc 1 = M := by
  obtain ⟨a, b, c, d⟩ := M
  simp only [sc, mk.injEq]
  refine ⟨?_, ?_, ?_, ?_⟩ <;> grind
theorem mul_z {z k : GI} (hk : k ≠ 0) : z * k ≠ 0 ↔ z ≠ 0 := ⟨fun h e => h (by rw [e]; grind), fun h => mul_ne_zero h hk⟩
theorem fst_sc {k : GI} (hk : k ≠ 0) (M : Mx) : (M.sc k).fst = M.fst * k := by
  unfold fst sc
  simp only [mul_z hk]
  split
  · rfl
  · split
    · rfl
    · split <;> rfl
theorem fst_ne {M : Mx} (h : M.det ≠ 0) : M.fst ≠ 0 := by
  unfold fst
  split
  · assumption
  · split
    · assumption
    · split
      · assumption
      · rename_i h1 h2 h3
        exfalso
        apply h
        unfold det
        grind
theorem lo_a {M : Mx} (h : M.Lo) : K79.Lo M.a := h _ (by simp [lst])
theorem g_dv {M : Mx} (h : M.Lo) : Dv M.g M.a ∧ Dv M.g M.b ∧ Dv M.g M.c ∧ Dv M.g M.d := by
  obtain ⟨_, h2⟩ := gcdL_dv M.lst 0 h
  exact ⟨h2 _ (by simp [lst]), h2 _ (by simp [lst]), h2 _ (by simp [lst]), h2 _ (by simp [lst])⟩
theorem g_max {M : Mx} {c : GI} (h1 : Dv c M.a) (h2 : Dv c M.b) (h3 : Dv c M.c) (h4 : Dv c M.d) : Dv c M.g := by
  refine gcdL_max M.lst 0 (Dv.zero c) fun z hz => ?_
  simp only [lst, List.mem_cons, List.not_mem_nil, or_false] at hz
  rcases hz with rfl | rfl | rfl | rfl <;> assumption
theorem g_ne {M : Mx} (h : M.Lo) (hd : M.det ≠ 0) : M.g ≠ 0 := fun e => by
  obtain ⟨⟨x, ha⟩, ⟨y, hb⟩, ⟨z, hc⟩, ⟨t, hd'⟩⟩ := g_dv h
  apply hd
  unfold det
  rw [ha, hb, e]
  grind
theorem qs_eq {M : Mx} (h : M.Lo) (hd : M.det ≠ 0) : M = M.qs.sc M.g := by
  have hg := g_ne h hd
  obtain ⟨⟨x, ha⟩, ⟨y, hb⟩, ⟨z, hc⟩, ⟨t, hd'⟩⟩ := g_dv h
  have f : ∀ {w v : GI}, w = v * M.g → w = quo w M.g * M.g := fun {w v} e => by
    have e2 : quo w M.g = v := by rw [e]; exact quo_mul v _ hg
    rw [e2]; exact e
  obtain ⟨a, b, c, d⟩ := M
  simp only [qs, sc, mk.injEq]
  exact ⟨f ha, f hb, f hc, f hd'⟩
theorem qs_det {M : Mx} (h : M.Lo) (hd : M.det ≠ 0) : M.qs.det ≠ 0 := fun e => by
  apply hd
  rw [qs_eq h hd, det_sc, e]
  grind
theorem unit_inv (u : GI) (h : nrm u = 1) : u * bar u = 1 := by
  rw [mul_bar, h]; rfl
/-- the numbers are their form times one number -/
theorem form_eq {M : Mx} (h : M.Lo) (hd : M.det ≠ 0) : ∃ k, k ≠ 0 ∧ M = M.form.sc k := by
  have hg := g_ne h hd
  refine ⟨bar (unitF M.qs.fst) * M.g, mul_ne_zero (bar_ne_zero (unitF_ne _)) hg, ?_⟩
  have e := unit_inv _ (unitF_nrm M.qs.fst)
  unfold form
  rw [sc_sc]
  have e2 : unitF M.qs.fst * (bar (unitF M.qs.fst) * M.g) = M.g := by grind
  rw [e2]
  exact qs_eq h hd
theorem form_det {M : Mx} (h : M.Lo) (hd : M.det ≠ 0) : M.form.det ≠ 0 := fun e => by
  obtain ⟨k, _, e2⟩ := form_eq h hd
  apply hd
  rw [e2, det_sc, e]
  grind
theorem nrm_le_mul {z k : GI} (hk : k ≠ 0) : nrm z ≤ nrm (z * k) := by
  have h1 := nrm_pos hk
  have h2 := nrm_nonneg z
  rw [nrm_mul]
  have h3 : nrm z * 1 ≤ nrm z * nrm k := Int.mul_le_mul_of_nonneg_left (by omega) h2
  omega
theorem form_nrm {M : Mx} (h : M.Lo) (hd : M.det ≠ 0) : nrm M.form.a ≤ nrm M.a ∧ nrm M.form.b ≤ nrm M.b ∧ nrm M.form.c ≤ nrm M.c ∧ nrm M.form.d ≤ nrm M.d := by
  obtain ⟨k, hk, e⟩ := form_eq h hd
  have f := fun z => nrm_le_mul (z := z) hk
  have ea : M.a = M.form.a * k := congrArg Mx.a e
  have eb : M.b = M.form.b * k := congrArg Mx.b e
  have ec : M.c = M.form.c * k := congrArg Mx.c e
  have ed : M.d = M.form.d * k := congrArg Mx.d e
  rw [ea, eb, ec, ed]
  exact ⟨by rw [← ea]; exact (ea ▸ f _), by rw [← eb]; exact (eb ▸ f _), by rw [← ec]; exact (ec ▸ f _), by rw [← ed]; exact (ed ▸ f _)⟩
theorem form_lo {M : Mx} (h : M.Lo) (hd : M.det ≠ 0) : M.form.Lo := by
  obtain ⟨h1, h2, h3, h4⟩ := form_nrm h hd
  intro z hz
  have a := h M.a (by simp [lst])
  have b := h M.b (by simp [lst])
  have c := h M.c (by simp [lst])
  have d := h M.d (by simp [lst])
  unfold K79.Lo at *
  simp only [lst, List.mem_cons, List.not_mem_nil, or_false] at hz
  rcases hz with rfl | rfl | rfl | rfl <;> omega
theorem form_fst {M : Mx} (h : M.Lo) (hd : M.det ≠ 0) : QF M.form.fst := by
  unfold form
  rw [fst_sc (unitF_ne _)]
  exact unitF_qf (fst_ne (qs_det h hd))
/-- a form: what stands there is its own form -/
structure IsForm (N : Mx) : Prop where
  det : N.det ≠ 0
  lo : N.Lo
  qf : QF N.fst
  unit : nrm N.g = 1
theorem form_isForm {M : Mx} (h : M.Lo) (hd : M.det ≠ 0) : IsForm M.form := by
  refine ⟨form_det h hd, form_lo h hd, form_fst h hd, ?_⟩
  have hl := form_lo h hd
  have hg := g_ne h hd
  obtain ⟨⟨x, ha⟩, ⟨y, hb⟩, ⟨z, hc⟩, ⟨t, hd'⟩⟩ := g_dv hl
  have e : M = M.form.sc (bar (unitF M.qs.fst) * M.g) := by
    have e := unit_inv _ (unitF_nrm M.qs.fst)
    unfold form
    rw [sc_sc]
    have e2 : unitF M.qs.fst * (bar (unitF M.qs.fst) * M.g) = M.g := by grind
    rw [e2]
    exact qs_eq h hd
  have ea : M.a = M.form.a * (bar (unitF M.qs.fst) * M.g) := congrArg Mx.a e
  have eb : M.b = M.form.b * (bar (unitF M.qs.fst) * M.g) := congrArg Mx.b e
  have ec : M.c = M.form.c * (bar (unitF M.qs.fst) * M.g) := congrArg Mx.c e
  have ed : M.d = M.form.d * (bar (unitF M.qs.fst) * M.g) := congrArg Mx.d e
  have q : Dv (M.form.g * (bar (unitF M.qs.fst) * M.g)) M.g := by
    refine g_max ⟨x, ?_⟩ ⟨y, ?_⟩ ⟨z, ?_⟩ ⟨t, ?_⟩
    · grind
    · grind
    · grind
    · grind
  obtain ⟨k, hk⟩ := q
  have e3 : M.g * 1 = M.g * (k * M.form.g * bar (unitF M.qs.fst)) := by grind
  have e4 := mul_cancel hg e3
  have e5 : nrm k * nrm M.form.g = 1 := by
    have e6 := congrArg nrm e4
    rw [nrm_mul, nrm_mul, nrm_bar, unitF_nrm] at e6
    have e7 : nrm 1 = 1 := rfl
    rw [e7] at e6
    omega
  have n1 := nrm_nonneg k
  have n2 := nrm_nonneg M.form.g
  have : nrm M.form.g ∣ 1 := ⟨nrm k, by rw [Int.mul_comm]; exact e5.symm⟩
  exact Int.eq_one_of_dvd_one n2 this
theorem IsForm.qs {N : Mx} (h : IsForm N) : N.qs = N.sc (bar N.g) := by
  have e := qs_eq h.lo h.det
  have u := unit_inv _ h.unit
  have e2 : N.sc (bar N.g) = (N.qs.sc N.g).sc (bar N.g) := by rw [← e]
  rw [e2, sc_sc, u, sc_one]
theorem IsForm.fix {N : Mx} (h : IsForm N) : N.form = N := by
  unfold form
  have u := unit_inv _ h.unit
  have hb : bar N.g ≠ 0 := fun e => by rw [e] at u; revert u; simp only [show N.g * 0 = 0 by grind]; decide
  rw [h.qs, fst_sc hb, sc_sc]
  have q := unitF_qf (z := N.fst * bar N.g) (mul_ne_zero (fst_ne h.det) hb)
  have e1 : N.fst * bar N.g * unitF (N.fst * bar N.g) = N.fst * (bar N.g * unitF (N.fst * bar N.g)) := by grind
  rw [e1] at q
  have e2 := qf_unit h.qf (by rw [nrm_mul, nrm_bar, h.unit, unitF_nrm]; rfl) q
  rw [e2, sc_one]
/-- a form that is a multiple of the one that stays is it -/
theorem IsForm.stay {N : Mx} (h : IsForm N) (hb : N.b = 0) (hc : N.c = 0) (hd : N.a = N.d) : N = ⟨1, 0, 0, 1⟩ := by
  have h1 : Dv N.a N.g := g_max (Dv.refl _) (by rw [hb]; exact Dv.zero _) (by rw [hc]; exact Dv.zero _) (by rw [hd]; exact Dv.refl _)
  obtain ⟨k, hk⟩ := h1
  have e : nrm k * nrm N.a = 1 := by rw [← nrm_mul, ← hk]; exact h.unit
  have n2 := nrm_nonneg N.a
  have e1 : nrm N.a = 1 := Int.eq_one_of_dvd_one n2 ⟨nrm k, by rw [Int.mul_comm]; exact e.symm⟩
  have hne : N.a ≠ 0 := fun z => by rw [z] at e1; revert e1; decide
  have q := h.qf
  have ef : N.fst = N.a := by unfold fst; rw [if_pos hne]
  rw [ef] at q
  have e2 : N.a = 1 := qf_unit (z := 1) (by decide) e1 (by rw [show (1 : GI) * N.a = N.a by grind]; exact q)
  obtain ⟨a, b, c, d⟩ := N
  simp only at hb hc hd e2
  subst hb hc e2
  rw [← hd]
end Mx
end K79
end
section
set_option linter.all false
namespace K79
open GI
/-! ### what a map's fewest cells hang on -/
structure Kd where
  ca : Bool
  gr : Bool
  tu : Bool
  mi : Bool
deriving DecidableEq
namespace Mx
variable (M : Mx)
def FacR : Prop := M.a * bar M.d = bar M.a * M.d
def Size1 : Prop := M.a * bar M.a = M.d * bar M.d
def Tru : Prop := ∃ m : Int, nrm M.det = m * m
def SR : Prop := (M.a + M.d) * (M.a + M.d) * bar M.det = bar (M.a + M.d) * bar (M.a + M.d) * M.det
def Line : Prop := Size1 M ∧ M.a * bar M.b + M.b * bar M.d = 0
def GH : Prop := M.a * bar M.c + bar M.d * M.c = 0
def ER : Prop := M.det * (bar M.c * bar M.c) = bar M.det * (M.c * M.c)
def Turn : Prop := GH M ∧ ER M
end Mx
open Classical in
noncomputable def fewPK (M : Mx) (K : Kd) : Option Nat :=
  if M.a = M.d then (if K.ca then some 1 else if K.gr || K.mi then some 2 else if K.tu then some 4 else none)
  else if K.gr then some 1
  else if (K.tu ∧ M.FacR) ∨ (K.mi ∧ M.Size1) then some 2
  else if K.tu ∧ M.Tru then some 4 else none
open Classical in
noncomputable def fewPM (M : Mx) (K : Kd) : Option Nat :=
  if M.Tru ∧ M.SR then some 2
  else if K.gr then some 3
  else if ¬ M.Tru then none
  else if K.ca then some 3 else some 4
open Classical in
noncomputable def fewMK (M : Mx) (K : Kd) : Option Nat :=
  if ¬ K.mi then (if ¬ K.tu then none else if M.Tru then some 3 else if K.gr then some 4 else none)
  else if M.Line then some 1
  else if K.gr then some 2
  else if M.Size1 then (if K.ca then some 2 else some 3)
  else if K.tu ∧ M.Tru then some 3 else none
open Classical in
noncomputable def fewMM (M : Mx) (K : Kd) : Option Nat :=
  if M.Turn then some 1
  else if K.gr ∨ (K.ca ∧ M.ER) then some 2
  else if M.Tru then some 3 else none
def Stays (f : Bool) (M : Mx) : Prop := f = false ∧ M.b = 0 ∧ M.c = 0 ∧ M.a = M.d
open Classical in
noncomputable def few (f : Bool) (M : Mx) (K : Kd) : Option Nat :=
  if Stays f M then some 0
  else if M.c = 0 then (if f then fewMK M K else fewPK M K)
  else if ¬ K.tu then none
  else if f then fewMM M K else fewPM M K
/-! ### one number's norm a square -/
theorem sq_div {n m k : Int} (hm : m ≠ 0) (h : n * (m * m) = k * k) : ∃ j : Int, n = j * j := by
  have h1 : m ^ 2 ∣ k ^ 2 := ⟨n, by rw [Int.pow_succ, Int.pow_succ, Int.pow_zero, Int.pow_succ, Int.pow_succ, Int.pow_zero]; grind⟩
  have h2 : m ∣ k := (Int.pow_dvd_pow_iff (by decide)).mp h1
  obtain ⟨j, rfl⟩ := h2
  refine ⟨j, ?_⟩
  have e : (m * m) * n = (m * m) * (j * j) := by grind
  exact Int.eq_of_mul_eq_mul_left (by
    intro z
    rcases Int.mul_eq_zero.mp z with z | z <;> exact hm z) e
theorem nrm_real {w : GI} (h : bar w = w) : nrm w = w.re * w.re := by
  have e : -w.im = w.im := congrArg GI.im h
  have e2 : w.im = 0 := by omega
  unfold nrm
  rw [e2]; omega
theorem nrm_eq_of {a b : GI} (h : a * bar a = b * bar b) : nrm a = nrm b := by
  rw [mul_bar, mul_bar] at h
  exact congrArg GI.re h
theorem of_nrm_eq {a b : GI} (h : nrm a = nrm b) : a * bar a = b * bar b := by rw [mul_bar, mul_bar, h]
theorem nrm_ne {a : GI} (h : a ≠ 0) : nrm a ≠ 0 := fun e => h (nrm_eq_zero e)
section
variable {M : Mx}
theorem det_up (hc : M.c = 0) : M.det = M.a * M.d := by unfold Mx.det; rw [hc]; grind
theorem tru_of_fac1 (hc : M.c = 0) (h : M.a = M.d) : M.Tru := ⟨nrm M.a, by rw [det_up hc, ← h, nrm_mul]⟩
theorem tru_of_facR (hc : M.c = 0) (h : M.FacR) : M.Tru := by
  refine ⟨(M.a * bar M.d).re, ?_⟩
  rw [det_up hc, nrm_mul, ← nrm_bar M.d, ← nrm_mul]
  apply nrm_real
  rw [bar_mul, bar_bar]; exact h.symm
theorem tru_of_size1 (hc : M.c = 0) (h : M.Size1) : M.Tru := ⟨nrm M.a, by rw [det_up hc, nrm_mul, nrm_eq_of h]⟩
theorem tru_of_ER (hc : M.c ≠ 0) (h : M.ER) : M.Tru := by
  refine sq_div (m := nrm M.c) (k := (M.det * (bar M.c * bar M.c)).re) (nrm_ne hc) ?_
  have e : nrm (M.det * (bar M.c * bar M.c)) = (M.det * (bar M.c * bar M.c)).re * (M.det * (bar M.c * bar M.c)).re := by
    apply nrm_real
    rw [bar_mul, bar_mul, bar_bar]; exact h.symm
  rw [← e, nrm_mul, nrm_mul, nrm_bar]
end
/-! ### an involution: what turnabouts and mirrors are -/
structure Invo (M : Mx) : Prop where
  s : M.a * bar M.a + M.b * bar M.c = M.c * bar M.b + M.d * bar M.d
  b : M.a * bar M.b + M.b * bar M.d = 0
  c : M.c * bar M.a + M.d * bar M.c = 0
theorem bar_eq {x y : GI} (h : x = y) : bar x = bar y := by rw [h]
theorem invo_line {M : Mx} (hc : M.c = 0) (h : M.Line) : Invo M := by
  obtain ⟨h1, h2⟩ := h
  unfold Mx.Size1 at h1
  refine ⟨?_, h2, ?_⟩
  · rw [hc, bar_zero]; grind
  · rw [hc, bar_zero]; grind
theorem turn_bc {M : Mx} (hc : M.c ≠ 0) (h : M.Turn) : M.b * bar M.c = bar M.b * M.c := by
  obtain ⟨g, e⟩ := h
  unfold Mx.GH at g
  have g2 := bar_eq g
  rw [bar_add, bar_mul, bar_mul, bar_bar, bar_bar, bar_zero] at g2
  unfold Mx.ER Mx.det at e
  rw [bar_sub, bar_mul, bar_mul] at e
  have hcb := bar_ne_zero hc
  generalize bar M.a = a' at *
  generalize bar M.b = b' at *
  generalize bar M.c = c' at *
  generalize bar M.d = d' at *
  obtain ⟨a, b, c, d⟩ := M
  simp only at *
  refine mul_cancel (c := c * c') (mul_ne_zero hc hcb) ?_
  grind
theorem invo_turn {M : Mx} (hc : M.c ≠ 0) (h : M.Turn) : Invo M := by
  have q := turn_bc hc h
  obtain ⟨g, e⟩ := h
  unfold Mx.GH at g
  have g2 := bar_eq g
  rw [bar_add, bar_mul, bar_mul, bar_bar, bar_bar, bar_zero] at g2
  have hcb := bar_ne_zero hc
  refine ⟨?_, ?_, ?_⟩
  · generalize bar M.a = a' at *
    generalize bar M.b = b' at *
    generalize bar M.c = c' at *
    generalize bar M.d = d' at *
    obtain ⟨a, b, c, d⟩ := M
    simp only at *
    refine mul_cancel (c := c * c') (mul_ne_zero hc hcb) ?_
    grind
  · generalize bar M.a = a' at *
    generalize bar M.b = b' at *
    generalize bar M.c = c' at *
    generalize bar M.d = d' at *
    obtain ⟨a, b, c, d⟩ := M
    simp only at *
    refine mul_cancel (c := c * c') (mul_ne_zero hc hcb) ?_
    grind
  · grind
end K79
end
section
set_option linter.all false
namespace K79
open GI
/-! ### products -/
namespace Mx
def bar (M : Mx) : Mx := ⟨GI.bar M.a, GI.bar M.b, GI.bar M.c, GI.bar M.d⟩
def mul (Y X : Mx) : Mx := ⟨Y.a * X.a + Y.b * X.c, Y.a * X.b + Y.b * X.d, Y.c * X.a + Y.d * X.c, Y.c * X.b + Y.d * X.d⟩
/-- X, then Y, mirrored or not -/
def thn (g : Bool) (X Y : Mx) : Mx := Y.mul (if g then X.bar else X)
theorem det_mul (Y X : Mx) : (Y.mul X).det = Y.det * X.det := by simp only [det, mul]; grind
theorem det_bar (X : Mx) : X.bar.det = GI.bar X.det := by simp only [det, bar, bar_sub, bar_mul]
theorem bar_barM (X : Mx) : X.bar.bar = X := by simp only [bar, bar_bar]
end Mx
open Mx
theorem det_thn (g : Bool) (X Y : Mx) : nrm (thn g X Y).det = nrm X.det * nrm Y.det := by
  unfold thn
  rw [det_mul, nrm_mul]
  cases g
  · show nrm Y.det * nrm X.det = _
    exact Int.mul_comm _ _
  · show nrm Y.det * nrm X.bar.det = _
    rw [det_bar, nrm_bar]; exact Int.mul_comm _ _
theorem thn_ne {g : Bool} {X Y : Mx} (hx : X.det ≠ 0) (hy : Y.det ≠ 0) : (thn g X Y).det ≠ 0 := fun e => by
  have h := det_thn g X Y
  rw [e] at h
  rcases Int.mul_eq_zero.mp h.symm with z | z
  · exact nrm_ne hx z
  · exact nrm_ne hy z
theorem tru_thn {g : Bool} {X Y : Mx} (hx : X.Tru) (hy : Y.Tru) : (thn g X Y).Tru := by
  obtain ⟨m, e1⟩ := hx
  obtain ⟨k, e2⟩ := hy
  exact ⟨m * k, by rw [det_thn, e1, e2]; grind⟩
/-! ### two involutions, one after the other -/
theorem two_cancel {x y : GI} (h : (2 : GI) * x = 2 * y) : x = y := mul_cancel (by decide) h
theorem invo_bc {M : Mx} (h : Invo M) : M.b * bar M.c = bar M.b * M.c := by
  have e := h.s
  have e2 := bar_eq e
  simp only [bar_add, bar_mul, bar_bar] at e2
  clear h
  generalize bar M.a = a' at *
  generalize bar M.b = b' at *
  generalize bar M.c = c' at *
  generalize bar M.d = d' at *
  apply two_cancel
  grind
theorem sr_end (t u D E S T : GI) (h1 : u * D = S * T * t) (h2 : t * E = S * T * u) : t * t * E = u * u * D := by grind
theorem invo_sr {X Y : Mx} (hx : Invo X) (hy : Invo Y) : (thn true X Y).SR := by
  have key : ∀ (xa xb xc xd ya yb yc yd pa pb pc pd qa qb qc qd : GI),
      xa * pa + xb * pc = xc * pb + xd * pd → xa * pb + xb * pd = 0 → xc * pa + xd * pc = 0 → pa * xb + pb * xd = 0 → pc * xa + pd * xc = 0 → pa * xa + pb * xc = pc * xb + pd * xd →
      ya * qa + yb * qc = yc * qb + yd * qd → ya * qb + yb * qd = 0 → yc * qa + yd * qc = 0 → qa * yb + qb * yd = 0 → qc * ya + qd * yc = 0 → qa * ya + qb * yc = qc * yb + qd * yd →
      (qa * xa + qb * xc + (qc * xb + qd * xd)) * ((ya * yd - yb * yc) * (pa * pd - pb * pc)) = (pa * xa + pb * xc) * (ya * qa + yb * qc) * (ya * pa + yb * pc + (yc * pb + yd * pd)) := by
    intro xa xb xc xd ya yb yc yd pa pb pc pd qa qb qc qd e1 e2 e3 e4 e5 e6 f1 f2 f3 f4 f5 f6
    have h1 : qa * (ya * yd - yb * yc) = (ya * qa + yb * qc) * yd := by grind
    have h2 : qb * (ya * yd - yb * yc) = -((ya * qa + yb * qc) * yb) := by grind
    have h3 : qc * (ya * yd - yb * yc) = -((ya * qa + yb * qc) * yc) := by grind
    have h4 : qd * (ya * yd - yb * yc) = (ya * qa + yb * qc) * ya := by grind
    have g1 : xa * (pa * pd - pb * pc) = (pa * xa + pb * xc) * pd := by grind
    have g2 : xb * (pa * pd - pb * pc) = -((pa * xa + pb * xc) * pb) := by grind
    have g3 : xc * (pa * pd - pb * pc) = -((pa * xa + pb * xc) * pc) := by grind
    have g4 : xd * (pa * pd - pb * pc) = (pa * xa + pb * xc) * pa := by grind
    clear e1 e2 e3 e4 e5 e6 f1 f2 f3 f4 f5 f6
    generalize ya * yd - yb * yc = D at *
    generalize pa * pd - pb * pc = C at *
    generalize ya * qa + yb * qc = S at *
    generalize pa * xa + pb * xc = T at *
    have k1 : qa * xa * (D * C) = (qa * D) * (xa * C) := by grind
    have k2 : qb * xc * (D * C) = (qb * D) * (xc * C) := by grind
    have k3 : qc * xb * (D * C) = (qc * D) * (xb * C) := by grind
    have k4 : qd * xd * (D * C) = (qd * D) * (xd * C) := by grind
    have : (qa * xa + qb * xc + (qc * xb + qd * xd)) * (D * C) = qa * xa * (D * C) + qb * xc * (D * C) + (qc * xb * (D * C) + qd * xd * (D * C)) := by grind
    rw [this, k1, k2, k3, k4, h1, h2, h3, h4, g1, g2, g3, g4]
    grind
  have x4 := bar_eq hx.b
  have x5 := bar_eq hx.c
  have x6 := bar_eq hx.s
  have y4 := bar_eq hy.b
  have y5 := bar_eq hy.c
  have y6 := bar_eq hy.s
  simp only [bar_add, bar_mul, bar_bar, bar_zero] at x4 x5 x6 y4 y5 y6
  have k := key X.a X.b X.c X.d Y.a Y.b Y.c Y.d _ _ _ _ _ _ _ _ hx.s hx.b hx.c x4 x5 x6 hy.s hy.b hy.c y4 y5 y6
  have e1 : bar ((thn true X Y).a + (thn true X Y).d) = bar Y.a * X.a + bar Y.b * X.c + (bar Y.c * X.b + bar Y.d * X.d) := by
    show bar (Y.a * bar X.a + Y.b * bar X.c + (Y.c * bar X.b + Y.d * bar X.d)) = _
    simp only [bar_add, bar_mul, bar_bar]
  have e2 : (thn true X Y).a + (thn true X Y).d = Y.a * bar X.a + Y.b * bar X.c + (Y.c * bar X.b + Y.d * bar X.d) := rfl
  have e3 : (thn true X Y).det = (Y.a * Y.d - Y.b * Y.c) * (bar X.a * bar X.d - bar X.b * bar X.c) := by
    show (Y.mul X.bar).det = _
    rw [det_mul]; rfl
  rw [← e1, ← e2, ← e3] at k
  have k2 := bar_eq k
  have bx := invo_bc hx
  have by' := invo_bc hy
  have s1 : bar (bar X.a * X.a + bar X.b * X.c) = bar X.a * X.a + bar X.b * X.c := by
    simp only [bar_add, bar_mul, bar_bar]
    rw [bx]
    have : X.a * bar X.a = bar X.a * X.a := by grind
    rw [this]
  have s2 : bar (Y.a * bar Y.a + Y.b * bar Y.c) = Y.a * bar Y.a + Y.b * bar Y.c := by
    simp only [bar_add, bar_mul, bar_bar]
    rw [by']
    have : Y.a * bar Y.a = bar Y.a * Y.a := by grind
    rw [this]
  rw [bar_mul, bar_mul, bar_mul, s1, s2, bar_bar] at k2
  exact sr_end _ _ _ _ _ _ k k2
/-! ### a turnabout behind a map whose stretch is real, where the far place is kept -/
theorem turn_kept {X Y : Mx} (hxc : X.c ≠ 0) (hyc : Y.c ≠ 0) (he : X.ER) (hy : Y.Turn) (hk : (thn true X Y).c = 0) : (thn true X Y).FacR := by
  have q := turn_bc hyc hy
  obtain ⟨gh, _⟩ := hy
  have hk' : Y.c * bar X.a + Y.d * bar X.c = 0 := hk
  have hk2 := bar_eq hk'
  unfold Mx.GH at gh
  have gh2 := bar_eq gh
  unfold Mx.ER Mx.det at he
  simp only [bar_add, bar_sub, bar_mul, bar_bar, bar_zero] at hk2 gh2 he
  show (Y.a * bar X.a + Y.b * bar X.c) * bar (Y.c * bar X.b + Y.d * bar X.d) = bar (Y.a * bar X.a + Y.b * bar X.c) * (Y.c * bar X.b + Y.d * bar X.d)
  simp only [bar_add, bar_mul, bar_bar]
  have key : ∀ (xa xb xc xd ya yb yc yd pa pb pc pd qa qb qc qd : GI), xc ≠ 0 → pc ≠ 0 → yc ≠ 0 → qc ≠ 0 → yb * qc = qb * yc → ya * qc + qd * yc = 0 → qa * yc + yd * qc = 0 →
      yc * pa + yd * pc = 0 → qc * xa + qd * xc = 0 → (xa * xd - xb * xc) * (pc * pc) = (pa * pd - pb * pc) * (xc * xc) →
      (ya * pa + yb * pc) * (qc * xb + qd * xd) = (qa * xa + qb * xc) * (yc * pb + yd * pd) := by
    intro xa xb xc xd ya yb yc yd pa pb pc pd qa qb qc qd n1 n2 n3 n4 e1 e2 e3 e4 e5 e6
    -- a' qc = pc (ya qa + yb qc), d' pc = - yc (pa pd - pb pc)
    have a1 : (ya * pa + yb * pc) * (yc * qc) = pc * yc * (ya * qa + yb * qc) := by grind
    have a2 : (qa * xa + qb * xc) * (yc * qc) = xc * qc * (ya * qa + yb * qc) := by grind
    have d1 : (yc * pb + yd * pd) * pc = -(yc * (pa * pd - pb * pc)) := by grind
    have d2 : (qc * xb + qd * xd) * xc = -(qc * (xa * xd - xb * xc)) := by grind
    clear e1 e2 e3 e4 e5
    generalize ya * pa + yb * pc = A at *
    generalize qa * xa + qb * xc = A' at *
    generalize yc * pb + yd * pd = E at *
    generalize qc * xb + qd * xd = E' at *
    generalize ya * qa + yb * qc = S at *
    generalize xa * xd - xb * xc = D at *
    generalize pa * pd - pb * pc = D' at *
    have b1 : yc * (A * qc) = yc * (pc * S) := by grind
    have b2 : qc * (A' * yc) = qc * (xc * S) := by grind
    have c1 := mul_cancel n3 b1
    have c2 := mul_cancel n4 b2
    refine mul_cancel (c := xc * pc) (mul_ne_zero n1 n2) ?_
    have f1 : xc * pc * (A * E') = pc * A * (E' * xc) := by grind
    have f2 : xc * pc * (A' * E) = xc * A' * (E * pc) := by grind
    rw [f1, f2, d1, d2]
    grind
  exact key X.a X.b X.c X.d Y.a Y.b Y.c Y.d (bar X.a) (bar X.b) (bar X.c) (bar X.d) (bar Y.a) (bar Y.b) (bar Y.c) (bar Y.d) hxc (bar_ne_zero hxc) hyc (bar_ne_zero hyc) q gh gh2 hk' hk2 he
theorem turn_turn {X Y : Mx} (hxc : X.c ≠ 0) (hyc : Y.c ≠ 0) (hx : X.Turn) (hy : Y.Turn) (hk : (thn true X Y).c = 0) (h1 : (thn true X Y).a = (thn true X Y).d) : (thn true X Y).b = 0 := by
  obtain ⟨gx, _⟩ := hx
  obtain ⟨gy, _⟩ := hy
  unfold Mx.GH at gx gy
  have gx2 := bar_eq gx
  have gy2 := bar_eq gy
  have hk' : Y.c * bar X.a + Y.d * bar X.c = 0 := hk
  have hk2 := bar_eq hk'
  have h1' : Y.a * bar X.a + Y.b * bar X.c = Y.c * bar X.b + Y.d * bar X.d := h1
  simp only [bar_add, bar_sub, bar_mul, bar_bar, bar_zero] at gx2 gy2 hk2
  show Y.a * bar X.b + Y.b * bar X.d = 0
  have key : ∀ (xa xb xc xd ya yb yc yd pa pb pc pd qa qb qc qd : GI), xc ≠ 0 → pc ≠ 0 → yc ≠ 0 → qc ≠ 0 → xa * pc + pd * xc = 0 → pa * xc + xd * pc = 0 → ya * qc + qd * yc = 0 → qa * yc + yd * qc = 0 →
      yc * pa + yd * pc = 0 → qc * xa + qd * xc = 0 → ya * pa + yb * pc = yc * pb + yd * pd → ya * pb + yb * pd = 0 := by
    intro xa xb xc xd ya yb yc yd pa pb pc pd qa qb qc qd n1 n2 n3 n4 e1 e2 e3 e4 e5 e6 e7
    have f : ya * xc = xa * yc := mul_cancel n4 (by grind)
    refine mul_cancel (c := yc * pc) (mul_ne_zero n3 n2) ?_
    have : yc * pc * (ya * pb + yb * pd) = ya * (yc * pb) * pc + yc * pd * (yb * pc) := by grind
    rw [this]
    have t1 : yc * pb = ya * pa + yb * pc - yd * pd := by grind
    rw [t1]
    have t2 : xc * (ya * pc + yc * pd) = 0 := by grind
    have t3 : ya * pc + yc * pd = 0 := by
      rcases mul_eq_zero t2 with z | z
      · exact absurd z n1
      · exact z
    grind
  exact key X.a X.b X.c X.d Y.a Y.b Y.c Y.d (bar X.a) (bar X.b) (bar X.c) (bar X.d) (bar Y.a) (bar Y.b) (bar Y.c) (bar Y.d) hxc (bar_ne_zero hxc) hyc (bar_ne_zero hyc) gx gx2 gy gy2 hk' hk2 h1'
end K79
end
section
set_option linter.all false
namespace K79
open GI Mx
/-! ### one cell more -/
inductive Kind where | ca | gr | tu | mi
deriving DecidableEq
def Kd.has (K : Kd) : Kind → Bool
  | .ca => K.ca
  | .gr => K.gr
  | .tu => K.tu
  | .mi => K.mi
/-- a map that one cell of the kind makes -/
structure CellL (k : Kind) (g : Bool) (Y : Mx) : Prop where
  det : Y.det ≠ 0
  is : match k with
    | .ca => g = false ∧ Y.c = 0 ∧ Y.a = Y.d
    | .gr => g = false ∧ Y.c = 0 ∧ Y.a ≠ Y.d
    | .tu => g = true ∧ Y.c ≠ 0 ∧ Y.Turn
    | .mi => g = true ∧ Y.c = 0 ∧ Y.Line
def LeS (o o' : Option Nat) : Prop := ∀ n, o = some n → ∃ m, o' = some m ∧ m ≤ n + 1
theorem diag_ne {M : Mx} (hd : M.det ≠ 0) (hc : M.c = 0) : M.a ≠ 0 ∧ M.d ≠ 0 := by
  rw [det_up hc] at hd
  exact ⟨fun e => hd (by rw [e]; grind), fun e => hd (by rw [e]; grind)⟩
theorem mul_ne {a b : GI} : a * b ≠ 0 ↔ a ≠ 0 ∧ b ≠ 0 := ⟨fun h => ⟨fun e => h (by rw [e]; grind), fun e => h (by rw [e]; grind)⟩, fun h => mul_ne_zero h.1 h.2⟩
theorem mul_z2 {a b : GI} (ha : a ≠ 0) : a * b = 0 ↔ b = 0 := ⟨fun h => (mul_eq_zero h).resolve_left ha, fun h => by rw [h]; grind⟩
theorem mul_inj {a b c : GI} (hc : c ≠ 0) : c * a = c * b ↔ a = b := ⟨fun h => mul_cancel hc h, fun h => by rw [h]⟩
section
variable {X Y : Mx} {K : Kd} {f : Bool}
theorem few_le (f : Bool) (M : Mx) (K : Kd) (n : Nat) (h : few f M K = some n) : n ≤ 4 := by
  unfold few fewPK fewPM fewMK fewMM at h
  repeat' split at h
  all_goals first | (injection h with h; omega) | (cases h)
theorem line_tru (hc : X.c = 0) (h : X.Line) : X.Tru := tru_of_size1 hc h.1
theorem turn_tru (hc : X.c ≠ 0) (h : X.Turn) : X.Tru := tru_of_ER hc h.2
/-! #### carry -/
theorem ca_entries (hY : Y.c = 0) (hY2 : Y.a = Y.d) : (thn false X Y).a = Y.a * X.a + Y.b * X.c ∧ (thn false X Y).c = Y.a * X.c ∧ (thn false X Y).d = Y.a * X.d := by
  refine ⟨rfl, ?_, ?_⟩
  · show Y.c * X.a + Y.d * X.c = _
    rw [hY, hY2]; grind
  · show Y.c * X.b + Y.d * X.d = _
    rw [hY, hY2]; grind
theorem step_ca (hX : X.det ≠ 0) (hY : CellL .ca false Y) (hk : K.ca = true) : LeS (few f X K) (few f (thn false X Y) K) := by
  obtain ⟨hd, _, y1, y2⟩ := hY
  obtain ⟨n1, n2⟩ := diag_ne hd y1
  obtain ⟨e1, e2, e3⟩ := ca_entries (X := X) y1 y2
  have hT : X.Tru → (thn false X Y).Tru := fun h => tru_thn h (tru_of_fac1 y1 y2)
  have c1 : (thn false X Y).c = 0 ↔ X.c = 0 := by rw [e2]; exact mul_z2 n1
  intro n hn
  by_cases hc : X.c = 0
  · have e1' : (thn false X Y).a = Y.a * X.a := by rw [e1, hc]; grind
    have f1 : (thn false X Y).a = (thn false X Y).d ↔ X.a = X.d := by rw [e1', e3]; exact mul_inj n1
    have f2 : X.FacR → (thn false X Y).FacR := by
      unfold Mx.FacR
      rw [e1', e3, bar_mul, bar_mul]; intro h; grind
    have f3 : X.Size1 ↔ (thn false X Y).Size1 := by
      unfold Mx.Size1
      rw [e1', e3, bar_mul, bar_mul]
      have g1 : Y.a * X.a * (bar Y.a * bar X.a) = (Y.a * bar Y.a) * (X.a * bar X.a) := by grind
      have g2 : Y.a * X.d * (bar Y.a * bar X.d) = (Y.a * bar Y.a) * (X.d * bar X.d) := by grind
      rw [g1, g2]
      exact (mul_inj (mul_ne_zero n1 (bar_ne_zero n1))).symm
    have f4 : X.Line → X.Size1 := fun h => h.1
    have f5 : (thn false X Y).Line → (thn false X Y).Size1 := fun h => h.1
    have s1 : Stays f X → X.a = X.d ∧ f = false := fun h => ⟨h.2.2.2, h.1⟩
    unfold few fewPK fewMK at hn ⊢
    rw [if_pos hc] at hn
    rw [if_pos (c1.mpr hc)]
    generalize (thn false X Y).a = A at *
    generalize (thn false X Y).d = D at *
    generalize (thn false X Y).FacR = p1 at *
    generalize (thn false X Y).Size1 = p2 at *
    generalize (thn false X Y).Line = p3 at *
    generalize (thn false X Y).Tru = p4 at *
    generalize Stays f (thn false X Y) = p5 at *
    grind
  · have hc' : ¬ (thn false X Y).c = 0 := fun z => hc (c1.mp z)
    have f1 : X.ER → (thn false X Y).ER := by
      unfold Mx.ER Mx.det
      rw [e1, e2, e3]
      have : (thn false X Y).b = Y.a * X.b + Y.b * X.d := rfl
      rw [this]
      simp only [bar_add, bar_sub, bar_mul]
      intro h
      have g1 : (Y.a * X.a + Y.b * X.c) * (Y.a * X.d) - (Y.a * X.b + Y.b * X.d) * (Y.a * X.c) = Y.a * Y.a * (X.a * X.d - X.b * X.c) := by grind
      have g2 : (bar Y.a * bar X.a + bar Y.b * bar X.c) * (bar Y.a * bar X.d) - (bar Y.a * bar X.b + bar Y.b * bar X.d) * (bar Y.a * bar X.c) = bar Y.a * bar Y.a * (bar X.a * bar X.d - bar X.b * bar X.c) := by grind
      rw [g1, g2]
      grind
    have f2 : X.Turn → X.ER := fun h => h.2
    have f3 : (thn false X Y).Turn → (thn false X Y).ER := fun h => h.2
    have f4 : X.ER → X.Tru := tru_of_ER hc
    have s1 : ¬ Stays f X := fun h => hc h.2.2.1
    have s2 : ¬ Stays f (thn false X Y) := fun h => hc' h.2.2.1
    unfold few fewPM fewMM at hn ⊢
    rw [if_neg s1, if_neg hc] at hn
    rw [if_neg s2, if_neg hc']
    generalize (thn false X Y).ER = p1 at *
    generalize (thn false X Y).Turn = p2 at *
    generalize (thn false X Y).SR = p3 at *
    generalize (thn false X Y).Tru = p4 at *
    grind
/-! #### grow -/
theorem step_gr (hX : X.det ≠ 0) (hY : CellL .gr false Y) (hk : K.gr = true) : LeS (few f X K) (few f (thn false X Y) K) := by
  obtain ⟨hd, _, y1, y2⟩ := hY
  obtain ⟨n1, n2⟩ := diag_ne hd y1
  have e2 : (thn false X Y).c = Y.d * X.c := by
    show Y.c * X.a + Y.d * X.c = _
    rw [y1]; grind
  have c1 : (thn false X Y).c = 0 ↔ X.c = 0 := by rw [e2]; exact mul_z2 n2
  intro n hn
  by_cases hc : X.c = 0
  · have s1 : Stays f X → f = false ∧ (thn false X Y).a ≠ (thn false X Y).d := fun h => ⟨h.1, by
      obtain ⟨_, hb, _, hd'⟩ := h
      show Y.a * X.a + Y.b * X.c ≠ Y.c * X.b + Y.d * X.d
      rw [hc, y1, ← hd']
      intro z
      have hx := (diag_ne hX hc).1
      exact y2 (mul_cancel hx (by grind))⟩
    unfold few fewPK fewMK at hn ⊢
    rw [if_pos hc] at hn
    rw [if_pos (c1.mpr hc)]
    generalize (thn false X Y).a = A at *
    generalize (thn false X Y).d = D at *
    generalize (thn false X Y).FacR = p1 at *
    generalize (thn false X Y).Size1 = p2 at *
    generalize (thn false X Y).Line = p3 at *
    generalize (thn false X Y).Tru = p4 at *
    generalize Stays f (thn false X Y) = p5 at *
    grind
  · have hc' : ¬ (thn false X Y).c = 0 := fun z => hc (c1.mp z)
    have s1 : ¬ Stays f X := fun h => hc h.2.2.1
    have s2 : ¬ Stays f (thn false X Y) := fun h => hc' h.2.2.1
    unfold few fewPM fewMM at hn ⊢
    rw [if_neg s1, if_neg hc] at hn
    rw [if_neg s2, if_neg hc']
    generalize (thn false X Y).ER = p1 at *
    generalize (thn false X Y).Turn = p2 at *
    generalize (thn false X Y).SR = p3 at *
    generalize (thn false X Y).Tru = p4 at *
    grind
/-! #### mirror -/
theorem step_mi (hX : X.det ≠ 0) (hY : CellL .mi true Y) (hk : K.mi = true) : LeS (few f X K) (few (!f) (thn true X Y) K) := by
  obtain ⟨hd, _, y1, y2⟩ := hY
  obtain ⟨n1, n2⟩ := diag_ne hd y1
  have iY := invo_line y1 y2
  have e1 : (thn true X Y).a = Y.a * bar X.a + Y.b * bar X.c := rfl
  have eb : (thn true X Y).b = Y.a * bar X.b + Y.b * bar X.d := rfl
  have e2 : (thn true X Y).c = Y.d * bar X.c := by
    show Y.c * bar X.a + Y.d * bar X.c = _
    rw [y1]; grind
  have e3 : (thn true X Y).d = Y.d * bar X.d := by
    show Y.c * bar X.b + Y.d * bar X.d = _
    rw [y1]; grind
  have hT : X.Tru → (thn true X Y).Tru := fun h => tru_thn h (line_tru y1 y2)
  have bz : bar X.c = 0 ↔ X.c = 0 := ⟨fun h => by rw [← bar_bar X.c, h]; rfl, fun h => by rw [h]; rfl⟩
  have c1 : (thn true X Y).c = 0 ↔ X.c = 0 := by rw [e2, mul_z2 n2]; exact bz
  intro n hn
  by_cases hc : X.c = 0
  · have e1' : (thn true X Y).a = Y.a * bar X.a := by rw [e1, bz.mpr hc]; grind
    have f3 : X.Size1 ↔ (thn true X Y).Size1 := by
      have y3 := y2.1
      unfold Mx.Size1 at *
      rw [e1', e3, bar_mul, bar_mul, bar_bar, bar_bar]
      have g1 : Y.a * bar X.a * (bar Y.a * X.a) = (Y.a * bar Y.a) * (X.a * bar X.a) := by grind
      have g2 : Y.d * bar X.d * (bar Y.d * X.d) = (Y.d * bar Y.d) * (X.d * bar X.d) := by grind
      rw [g1, g2, ← y3]
      exact (mul_inj (mul_ne_zero n1 (bar_ne_zero n1))).symm
    have f4 : X.Line → X.Size1 := fun h => h.1
    have f5 : (thn true X Y).Line → (thn true X Y).Size1 := fun h => h.1
    have f6 : X.a = X.d → X.Size1 := fun h => by unfold Mx.Size1; rw [h]
    have f7 : X.FacR → X.Tru := tru_of_facR hc
    have f8 : X.Size1 → X.Tru := tru_of_size1 hc
    have s1 : Stays f X → f = false ∧ (thn true X Y).Line := fun h => ⟨h.1, by
      obtain ⟨_, hb, _, hd'⟩ := h
      refine ⟨f3.mp (f6 hd'), ?_⟩
      have l := y2.2
      rw [e1', eb, e3, hb, ← hd']
      simp only [bar_add, bar_mul, bar_bar, bar_zero]
      grind⟩
    unfold few fewPK fewMK at hn ⊢
    rw [if_pos hc] at hn
    rw [if_pos (c1.mpr hc)]
    generalize (thn true X Y).a = A at *
    generalize (thn true X Y).d = D at *
    generalize (thn true X Y).FacR = p1 at *
    generalize (thn true X Y).Size1 = p2 at *
    generalize (thn true X Y).Line = p3 at *
    generalize (thn true X Y).Tru = p4 at *
    generalize Stays (!f) (thn true X Y) = p5 at *
    clear e1 eb e2 e3 e1' c1 bz iY y2 y1 n1 n2 hd
    cases f <;> grind
  · have hc' : ¬ (thn true X Y).c = 0 := fun z => hc (c1.mp z)
    have s1 : ¬ Stays f X := fun h => hc h.2.2.1
    have s2 : ¬ Stays (!f) (thn true X Y) := fun h => hc' h.2.2.1
    have f1 : X.Turn → (thn true X Y).SR := fun h => invo_sr (invo_turn hc h) iY
    have f2 : X.Turn → X.ER := fun h => h.2
    have f4 : X.ER → X.Tru := tru_of_ER hc
    unfold few fewPM fewMM at hn ⊢
    rw [if_neg s1, if_neg hc] at hn
    rw [if_neg s2, if_neg hc']
    generalize (thn true X Y).ER = p1 at *
    generalize (thn true X Y).Turn = p2 at *
    generalize (thn true X Y).SR = p3 at *
    generalize (thn true X Y).Tru = p4 at *
    clear e1 eb e2 e3 c1 bz iY y2 y1 n1 n2 hd
    cases f <;> grind
/-! #### turnabout -/
theorem step_tu (hX : X.det ≠ 0) (hY : CellL .tu true Y) (hk : K.tu = true) : LeS (few f X K) (few (!f) (thn true X Y) K) := by
  obtain ⟨hd, _, y1, y2⟩ := hY
  have iY := invo_turn y1 y2
  have hT : X.Tru → (thn true X Y).Tru := fun h => tru_thn h (turn_tru y1 y2)
  have bz : bar X.c = 0 ↔ X.c = 0 := ⟨fun h => by rw [← bar_bar X.c, h]; rfl, fun h => by rw [h]; rfl⟩
  have e1 : (thn true X Y).a = Y.a * bar X.a + Y.b * bar X.c := rfl
  have eb : (thn true X Y).b = Y.a * bar X.b + Y.b * bar X.d := rfl
  have e2 : (thn true X Y).c = Y.c * bar X.a + Y.d * bar X.c := rfl
  have e3 : (thn true X Y).d = Y.c * bar X.b + Y.d * bar X.d := rfl
  intro n hn
  by_cases hc : X.c = 0
  · have ha := (diag_ne hX hc).1
    have hc' : ¬ (thn true X Y).c = 0 := by
      rw [e2, bz.mpr hc]
      intro z
      have z2 : Y.c * bar X.a = 0 := by grind
      exact mul_ne_zero y1 (bar_ne_zero ha) z2
    have f4 : X.Line → X.Size1 := fun h => h.1
    have f6 : X.a = X.d → X.Tru := tru_of_fac1 hc
    have f7 : X.FacR → X.Tru := tru_of_facR hc
    have f8 : X.Size1 → X.Tru := tru_of_size1 hc
    have f9 : X.Line → (thn true X Y).SR := fun h => invo_sr (invo_line hc h) iY
    have f10 : X.a = X.d → (thn true X Y).ER := fun h => by
      have q := y2.2
      unfold Mx.ER at q ⊢
      have g1 : (thn true X Y).det = Y.det * (bar X.a * bar X.a) := by
        show (Y.mul X.bar).det = _
        rw [det_mul, det_bar, det_up hc, ← h, bar_mul]
      have g2 : (thn true X Y).c = Y.c * bar X.a := by rw [e2, bz.mpr hc]; grind
      rw [g1, g2]
      simp only [bar_mul, bar_bar]
      grind
    have s2 : ¬ Stays (!f) (thn true X Y) := fun h => hc' h.2.2.1
    have s1 : Stays f X → f = false ∧ (thn true X Y).Turn := fun h => ⟨h.1, by
      obtain ⟨_, hb, _, hd'⟩ := h
      refine ⟨?_, f10 hd'⟩
      have g := y2.1
      unfold Mx.GH at *
      rw [e1, e2, e3, hb, hc, ← hd']
      simp only [bar_add, bar_mul, bar_bar, bar_zero]
      grind⟩
    unfold few at hn ⊢
    unfold fewPK fewMK at hn
    unfold fewPM fewMM
    rw [if_pos hc] at hn
    rw [if_neg s2, if_neg hc']
    generalize (thn true X Y).ER = p1 at *
    generalize (thn true X Y).Turn = p2 at *
    generalize (thn true X Y).SR = p3 at *
    generalize (thn true X Y).Tru = p4 at *
    clear e1 eb e2 e3 bz iY y2 y1 hd hc' s2
    cases f <;> grind
  · have s1 : ¬ Stays f X := fun h => hc h.2.2.1
    have f1 : X.Turn → (thn true X Y).SR := fun h => invo_sr (invo_turn hc h) iY
    have f2 : X.Turn → X.ER := fun h => h.2
    have f4 : X.ER → X.Tru := tru_of_ER hc
    by_cases hc' : (thn true X Y).c = 0
    · have f5 : X.ER → (thn true X Y).FacR := fun h => turn_kept hc y1 h y2 hc'
      have f6 : X.Turn → (thn true X Y).a = (thn true X Y).d → (thn true X Y).b = 0 := fun h1 h2 => turn_turn hc y1 h1 y2 hc' h2
      have f7 : (thn true X Y).Line → (thn true X Y).Size1 := fun h => h.1
      have s3 : f = true → X.Turn → (thn true X Y).a = (thn true X Y).d → Stays (!f) (thn true X Y) := fun hf h1 h2 => ⟨by rw [hf]; rfl, f6 h1 h2, hc', h2⟩
      unfold few at hn ⊢
      unfold fewPM fewMM at hn
      unfold fewPK fewMK
      rw [if_neg s1, if_neg hc] at hn
      rw [if_pos hc']
      generalize (thn true X Y).a = A at *
      generalize (thn true X Y).d = D at *
      generalize (thn true X Y).FacR = p1 at *
      generalize (thn true X Y).Size1 = p2 at *
      generalize (thn true X Y).Line = p3 at *
      generalize (thn true X Y).Tru = p4 at *
      generalize (thn true X Y).SR = p6 at *
      generalize Stays (!f) (thn true X Y) = p5 at *
      clear e1 eb e2 e3 bz iY y2 y1 hd hc' s1
      cases f <;> grind
    · have s2 : ¬ Stays (!f) (thn true X Y) := fun h => hc' h.2.2.1
      unfold few fewPM fewMM at hn ⊢
      rw [if_neg s1, if_neg hc] at hn
      rw [if_neg s2, if_neg hc']
      generalize (thn true X Y).ER = p1 at *
      generalize (thn true X Y).Turn = p2 at *
      generalize (thn true X Y).SR = p3 at *
      generalize (thn true X Y).Tru = p4 at *
      clear e1 eb e2 e3 bz iY y2 y1 hd hc' s1 s2
      cases f <;> grind
end
def fl (f g : Bool) : Bool := if g then !f else f
theorem step_cell {k : Kind} {g f : Bool} {X Y : Mx} {K : Kd} (hX : X.det ≠ 0) (hY : CellL k g Y) (hk : K.has k = true) : LeS (few f X K) (few (fl f g) (thn g X Y) K) := by
  cases k with
  | ca => obtain ⟨d, rfl, h⟩ := id hY; exact step_ca hX ⟨d, rfl, h⟩ hk
  | gr => obtain ⟨d, rfl, h⟩ := id hY; exact step_gr hX ⟨d, rfl, h⟩ hk
  | tu => obtain ⟨d, rfl, h⟩ := id hY; exact step_tu hX ⟨d, rfl, h⟩ hk
  | mi => obtain ⟨d, rfl, h⟩ := id hY; exact step_mi hX ⟨d, rfl, h⟩ hk
end K79
end
section
set_option linter.all false
namespace K79
open GI Mx
/-! ### alike -/
theorem few_congr {f : Bool} {M N : Mx} {K : Kd} (h1 : Stays f M ↔ Stays f N) (h2 : M.c = 0 ↔ N.c = 0)
    (hPK : f = false → M.c = 0 → (M.a = M.d ↔ N.a = N.d) ∧ (M.FacR ↔ N.FacR) ∧ (M.Size1 ↔ N.Size1) ∧ (M.Tru ↔ N.Tru))
    (hPM : f = false → M.c ≠ 0 → (M.Tru ↔ N.Tru) ∧ (M.SR ↔ N.SR))
    (hMK : f = true → M.c = 0 → (M.Tru ↔ N.Tru) ∧ (M.Line ↔ N.Line) ∧ (M.Size1 ↔ N.Size1))
    (hMM : f = true → M.c ≠ 0 → (M.Turn ↔ N.Turn) ∧ (M.ER ↔ N.ER) ∧ (M.Tru ↔ N.Tru)) : few f M K = few f N K := by
  unfold few
  rw [propext h1]
  by_cases hc : M.c = 0
  · have hc' := h2.mp hc
    cases f
    · obtain ⟨a, b, c, d⟩ := hPK rfl hc
      simp only [hc, hc', if_true, Bool.false_eq_true, if_false]
      unfold fewPK
      simp only [a]
      rw [propext b, propext c, propext d]
    · obtain ⟨a, b, c⟩ := hMK rfl hc
      simp only [hc, hc', if_true]
      unfold fewMK
      rw [propext a, propext b, propext c]
  · have hc' : ¬ N.c = 0 := fun z => hc (h2.mpr z)
    cases f
    · obtain ⟨a, b⟩ := hPM rfl hc
      simp only [hc, hc', if_false, Bool.false_eq_true]
      unfold fewPM
      rw [propext a, propext b]
    · obtain ⟨a, b, c⟩ := hMM rfl hc
      simp only [hc, hc', if_false, if_true]
      unfold fewMM
      rw [propext a, propext b, propext c]
/-! ### multiples -/
section
variable {M X Y : Mx} {K : Kd} {f : Bool} {k : GI}
theorem z_sc {a k : GI} (hk : k ≠ 0) : a * k = 0 ↔ a = 0 := ⟨fun h => (mul_eq_zero h).resolve_right hk, fun h => by rw [h]; grind⟩
theorem i_sc {a b k : GI} (hk : k ≠ 0) : a * k = b * k ↔ a = b := ⟨fun h => mul_cancel hk (by grind), fun h => by rw [h]⟩
theorem i_by {x y a b k : GI} (hk : k ≠ 0) (h1 : x = a * k) (h2 : y = b * k) : x = y ↔ a = b := by rw [h1, h2]; exact i_sc hk
theorem tru_sc (hk : k ≠ 0) : (M.sc k).Tru ↔ M.Tru := by
  unfold Mx.Tru
  rw [det_sc, nrm_mul, nrm_mul]
  refine ⟨fun ⟨m, h⟩ => sq_div (nrm_ne hk) h, fun ⟨m, h⟩ => ⟨m * nrm k, by rw [h]; grind⟩⟩
theorem few_sc (hk : k ≠ 0) : few f (M.sc k) K = few f M K := by
  have kb := bar_ne_zero hk
  have h1 : Stays f (M.sc k) ↔ Stays f M := by
    unfold Stays
    show f = false ∧ M.b * k = 0 ∧ M.c * k = 0 ∧ M.a * k = M.d * k ↔ _
    rw [z_sc hk, z_sc hk, i_sc hk]
  have h2 : (M.sc k).c = 0 ↔ M.c = 0 := z_sc hk
  have h3 : (M.sc k).a = (M.sc k).d ↔ M.a = M.d := i_sc hk
  have h4 : (M.sc k).FacR ↔ M.FacR := by
    unfold Mx.FacR
    show M.a * k * bar (M.d * k) = bar (M.a * k) * (M.d * k) ↔ _
    rw [bar_mul, bar_mul]
    exact i_by (mul_ne_zero hk kb) (by grind) (by grind)
  have h5 : (M.sc k).Size1 ↔ M.Size1 := by
    unfold Mx.Size1
    show M.a * k * bar (M.a * k) = (M.d * k) * bar (M.d * k) ↔ _
    rw [bar_mul, bar_mul]
    exact i_by (mul_ne_zero hk kb) (by grind) (by grind)
  have h6 : (M.sc k).Tru ↔ M.Tru := tru_sc hk
  have h7 : (M.sc k).SR ↔ M.SR := by
    unfold Mx.SR
    rw [det_sc]
    show (M.a * k + M.d * k) * (M.a * k + M.d * k) * bar (M.det * (k * k)) = bar (M.a * k + M.d * k) * bar (M.a * k + M.d * k) * (M.det * (k * k)) ↔ _
    simp only [bar_mul, bar_add]
    exact i_by (mul_ne_zero (mul_ne_zero hk kb) (mul_ne_zero hk kb)) (by grind) (by grind)
  have h8 : (M.sc k).Line ↔ M.Line := by
    unfold Mx.Line
    rw [h5]
    show M.Size1 ∧ M.a * k * bar (M.b * k) + M.b * k * bar (M.d * k) = 0 ↔ _
    rw [bar_mul, bar_mul]
    rw [show M.a * k * (bar M.b * bar k) + M.b * k * (bar M.d * bar k) = (M.a * bar M.b + M.b * bar M.d) * (k * bar k) by grind]
    rw [z_sc (mul_ne_zero hk kb)]
  have h9 : (M.sc k).ER ↔ M.ER := by
    unfold Mx.ER
    rw [det_sc]
    show M.det * (k * k) * (bar (M.c * k) * bar (M.c * k)) = bar (M.det * (k * k)) * ((M.c * k) * (M.c * k)) ↔ _
    simp only [bar_mul]
    exact i_by (mul_ne_zero (mul_ne_zero hk kb) (mul_ne_zero hk kb)) (by grind) (by grind)
  have h10 : (M.sc k).Turn ↔ M.Turn := by
    unfold Mx.Turn
    rw [h9]
    unfold Mx.GH
    show M.a * k * bar (M.c * k) + bar (M.d * k) * (M.c * k) = 0 ∧ _ ↔ _
    rw [bar_mul, bar_mul]
    rw [show M.a * k * (bar M.c * bar k) + bar M.d * bar k * (M.c * k) = (M.a * bar M.c + bar M.d * M.c) * (k * bar k) by grind]
    rw [z_sc (mul_ne_zero hk kb)]
  exact few_congr h1 h2 (fun _ _ => ⟨h3, h4, h5, h6⟩) (fun _ _ => ⟨h6, h7⟩) (fun _ _ => ⟨h6, h8, h5⟩) (fun _ _ => ⟨h10, h9, h6⟩)
end
/-! ### the way back -/
namespace Mx
def adj (M : Mx) : Mx := ⟨M.d, -M.b, -M.c, M.a⟩
def inv (f : Bool) (M : Mx) : Mx := if f then M.adj.bar else M.adj
theorem det_adj (M : Mx) : M.adj.det = M.det := by simp only [det, adj]; grind
theorem det_inv {f : Bool} {M : Mx} (h : M.det ≠ 0) : (M.inv f).det ≠ 0 := by
  unfold inv
  cases f
  · show M.adj.det ≠ 0
    rw [det_adj]; exact h
  · show M.adj.bar.det ≠ 0
    rw [det_bar, det_adj]; exact bar_ne_zero h
end Mx
section
variable {M X Y : Mx} {K : Kd} {f g : Bool} {k : GI}
theorem bar_z {a : GI} : bar a = 0 ↔ a = 0 := ⟨fun h => by rw [← bar_bar a, h]; rfl, fun h => by rw [h]; rfl⟩
theorem bar_i {a b : GI} : bar a = bar b ↔ a = b := ⟨fun h => by rw [← bar_bar a, h, bar_bar], fun h => by rw [h]⟩
theorem neg_z {a : GI} : -a = 0 ↔ a = 0 := ⟨fun h => by grind, fun h => by rw [h]; grind⟩
theorem few_bar : few f M.bar K = few f M K := by
  have h1 : Stays f M.bar ↔ Stays f M := by
    unfold Stays
    show f = false ∧ bar M.b = 0 ∧ bar M.c = 0 ∧ bar M.a = bar M.d ↔ _
    rw [bar_z, bar_z, bar_i]
  have h2 : M.bar.c = 0 ↔ M.c = 0 := bar_z
  have h3 : M.bar.a = M.bar.d ↔ M.a = M.d := bar_i
  have h4 : M.bar.FacR ↔ M.FacR := by
    unfold Mx.FacR
    show bar M.a * bar (bar M.d) = bar (bar M.a) * bar M.d ↔ _
    rw [bar_bar, bar_bar]; exact eq_comm
  have h5 : M.bar.Size1 ↔ M.Size1 := by
    unfold Mx.Size1
    show bar M.a * bar (bar M.a) = bar M.d * bar (bar M.d) ↔ _
    rw [bar_bar, bar_bar]
    rw [show bar M.a * M.a = M.a * bar M.a by grind, show bar M.d * M.d = M.d * bar M.d by grind]
  have h6 : M.bar.Tru ↔ M.Tru := by
    unfold Mx.Tru
    rw [det_bar, nrm_bar]
  have h7 : M.bar.SR ↔ M.SR := by
    unfold Mx.SR
    rw [det_bar]
    show (bar M.a + bar M.d) * (bar M.a + bar M.d) * bar (bar M.det) = bar (bar M.a + bar M.d) * bar (bar M.a + bar M.d) * bar M.det ↔ _
    simp only [bar_add, bar_bar]
    exact eq_comm
  have h8 : M.bar.Line ↔ M.Line := by
    unfold Mx.Line
    rw [h5]
    show M.Size1 ∧ bar M.a * bar (bar M.b) + bar M.b * bar (bar M.d) = 0 ↔ _
    rw [← bar_mul, ← bar_mul, ← bar_add, bar_z]
  have h9 : M.bar.ER ↔ M.ER := by
    unfold Mx.ER
    rw [det_bar]
    show bar M.det * (bar (bar M.c) * bar (bar M.c)) = bar (bar M.det) * (bar M.c * bar M.c) ↔ _
    rw [bar_bar, bar_bar]; exact eq_comm
  have h10 : M.bar.Turn ↔ M.Turn := by
    unfold Mx.Turn
    rw [h9]
    unfold Mx.GH
    show bar M.a * bar (bar M.c) + bar (bar M.d) * bar M.c = 0 ∧ _ ↔ _
    rw [← bar_mul, ← bar_mul, ← bar_add, bar_z]
  exact few_congr h1 h2 (fun _ _ => ⟨h3, h4, h5, h6⟩) (fun _ _ => ⟨h6, h7⟩) (fun _ _ => ⟨h6, h8, h5⟩) (fun _ _ => ⟨h10, h9, h6⟩)
theorem few_adj : few false M.adj K = few false M K := by
  have h1 : Stays false M.adj ↔ Stays false M := by
    unfold Stays
    show false = false ∧ -M.b = 0 ∧ -M.c = 0 ∧ M.d = M.a ↔ _
    rw [neg_z, neg_z, eq_comm (a := M.d)]
  have h2 : M.adj.c = 0 ↔ M.c = 0 := neg_z
  have h3 : M.adj.a = M.adj.d ↔ M.a = M.d := eq_comm
  have h4 : M.adj.FacR ↔ M.FacR := by
    unfold Mx.FacR
    show M.d * bar M.a = bar M.d * M.a ↔ _
    rw [show M.d * bar M.a = bar M.a * M.d by grind, show bar M.d * M.a = M.a * bar M.d by grind]
    exact eq_comm
  have h5 : M.adj.Size1 ↔ M.Size1 := eq_comm
  have h6 : M.adj.Tru ↔ M.Tru := by unfold Mx.Tru; rw [det_adj]
  have h7 : M.adj.SR ↔ M.SR := by
    unfold Mx.SR
    rw [det_adj]
    show (M.d + M.a) * (M.d + M.a) * bar M.det = bar (M.d + M.a) * bar (M.d + M.a) * M.det ↔ _
    rw [show M.d + M.a = M.a + M.d by grind]
  exact few_congr h1 h2 (fun _ _ => ⟨h3, h4, h5, h6⟩) (fun _ _ => ⟨h6, h7⟩) (fun z _ => nomatch z) (fun z _ => nomatch z)
theorem few_adjm : few true M.adj.bar K = few true M K := by
  rw [few_bar]
  have h1 : Stays true M.adj ↔ Stays true M := by unfold Stays; simp
  have h2 : M.adj.c = 0 ↔ M.c = 0 := neg_z
  have h5 : M.adj.Size1 ↔ M.Size1 := eq_comm
  have h6 : M.adj.Tru ↔ M.Tru := by unfold Mx.Tru; rw [det_adj]
  have h8 : M.adj.Line ↔ M.Line := by
    unfold Mx.Line
    rw [h5]
    show M.Size1 ∧ M.d * bar (-M.b) + (-M.b) * bar M.a = 0 ↔ _
    rw [← bar_z (a := M.a * bar M.b + M.b * bar M.d), ← neg_z (a := bar (M.a * bar M.b + M.b * bar M.d))]
    simp only [bar_add, bar_mul, bar_bar, bar_neg]
    rw [show M.d * -bar M.b + -M.b * bar M.a = -(bar M.a * M.b + bar M.b * M.d) by grind]
  have h9 : M.adj.ER ↔ M.ER := by
    unfold Mx.ER
    rw [det_adj]
    show M.det * (bar (-M.c) * bar (-M.c)) = bar M.det * ((-M.c) * (-M.c)) ↔ _
    simp only [bar_neg]
    rw [show -bar M.c * -bar M.c = bar M.c * bar M.c by grind, show -M.c * -M.c = M.c * M.c by grind]
  have h10 : M.adj.Turn ↔ M.Turn := by
    unfold Mx.Turn
    rw [h9]
    unfold Mx.GH
    show M.d * bar (-M.c) + bar M.a * (-M.c) = 0 ∧ _ ↔ _
    rw [← bar_z (a := M.a * bar M.c + bar M.d * M.c), ← neg_z (a := bar (M.a * bar M.c + bar M.d * M.c))]
    simp only [bar_add, bar_mul, bar_bar, bar_neg]
    rw [show M.d * -bar M.c + bar M.a * -M.c = -(bar M.a * M.c + M.d * bar M.c) by grind]
  exact few_congr h1 h2 (fun z _ => nomatch z) (fun z _ => nomatch z) (fun _ _ => ⟨h6, h8, h5⟩) (fun _ _ => ⟨h10, h9, h6⟩)
theorem few_inv : few f (M.inv f) K = few f M K := by
  cases f
  · exact few_adj
  · exact few_adjm
/-! ### led over by a map that keeps the far place -/
def cjM (f : Bool) (S X : Mx) : Mx := S.mul (X.mul (if f then S.adj.bar else S.adj))
theorem cj_eq : thn g (thn f (M.inv g) X) M = cjM f M (if g then X.bar else X) := by
  cases f <;> cases g <;> simp only [thn, inv, cjM, Bool.false_eq_true, if_false, if_true, Mx.mul, Mx.bar, Mx.adj, Mx.mk.injEq, bar_add, bar_mul, bar_bar, bar_neg, and_self]
theorem few_cj0 {S : Mx} (hS : S.det ≠ 0) (hc : S.c = 0) : few false (cjM false S X) K = few false X K := by
  obtain ⟨n1, n2⟩ := diag_ne hS hc
  have nn := mul_ne_zero n1 n2
  obtain ⟨s1, s2, s3, s4⟩ := S
  simp only at hc n1 n2 nn
  subst hc
  have ea : (cjM false ⟨s1, s2, 0, s4⟩ X).a = s1 * X.a * s4 + s2 * X.c * s4 := by
    simp only [cjM, Mx.mul, Mx.adj, Bool.false_eq_true, if_false]; grind
  have eb : (cjM false ⟨s1, s2, 0, s4⟩ X).b = s1 * (s1 * X.b - X.a * s2) + s2 * (s1 * X.d - X.c * s2) := by
    simp only [cjM, Mx.mul, Mx.adj, Bool.false_eq_true, if_false]; grind
  have ec : (cjM false ⟨s1, s2, 0, s4⟩ X).c = X.c * (s4 * s4) := by
    simp only [cjM, Mx.mul, Mx.adj, Bool.false_eq_true, if_false]; grind
  have ed : (cjM false ⟨s1, s2, 0, s4⟩ X).d = s4 * (s1 * X.d - X.c * s2) := by
    simp only [cjM, Mx.mul, Mx.adj, Bool.false_eq_true, if_false]; grind
  have eD : (cjM false ⟨s1, s2, 0, s4⟩ X).det = X.det * ((s1 * s4) * (s1 * s4)) := by
    unfold cjM
    rw [det_mul, det_mul]
    show (Mx.mk s1 s2 0 s4).det * (X.det * (Mx.mk s1 s2 0 s4).adj.det) = _
    rw [det_adj]
    simp only [Mx.det]; grind
  have eT : (cjM false ⟨s1, s2, 0, s4⟩ X).a + (cjM false ⟨s1, s2, 0, s4⟩ X).d = (X.a + X.d) * (s1 * s4) := by rw [ea, ed]; grind
  generalize cjM false ⟨s1, s2, 0, s4⟩ X = Z at *
  have h2 : Z.c = 0 ↔ X.c = 0 := by rw [ec]; exact z_sc (mul_ne_zero n2 n2)
  have h6 : Z.Tru ↔ X.Tru := by
    unfold Mx.Tru
    rw [eD, nrm_mul, nrm_mul]
    exact ⟨fun ⟨m, h⟩ => sq_div (nrm_ne nn) h, fun ⟨m, h⟩ => ⟨m * nrm (s1 * s4), by rw [h]; grind⟩⟩
  by_cases hx : X.c = 0
  · have ea' : Z.a = X.a * (s1 * s4) := by rw [ea, hx]; grind
    have ed' : Z.d = X.d * (s1 * s4) := by rw [ed, hx]; grind
    have h3 : Z.a = Z.d ↔ X.a = X.d := i_by nn ea' ed'
    have h1 : Stays false Z ↔ Stays false X := by
      unfold Stays
      rw [h2, h3]
      have : X.c = 0 → X.a = X.d → (Z.b = 0 ↔ X.b = 0) := fun _ h => by
        rw [eb, hx, h]
        rw [show s1 * (s1 * X.b - X.d * s2) + s2 * (s1 * X.d - 0 * s2) = X.b * (s1 * s1) by grind]
        exact z_sc (mul_ne_zero n1 n1)
      constructor
      · rintro ⟨a, b, c, d⟩; exact ⟨a, (this c d).mp b, c, d⟩
      · rintro ⟨a, b, c, d⟩; exact ⟨a, (this c d).mpr b, c, d⟩
    have h4 : Z.FacR ↔ X.FacR := by
      unfold Mx.FacR
      rw [ea', ed', bar_mul (X.a), bar_mul X.d]
      exact i_by (mul_ne_zero nn (bar_ne_zero nn)) (by grind) (by grind)
    have h5 : Z.Size1 ↔ X.Size1 := by
      unfold Mx.Size1
      rw [ea', ed', bar_mul (X.a), bar_mul X.d]
      exact i_by (mul_ne_zero nn (bar_ne_zero nn)) (by grind) (by grind)
    exact few_congr h1 h2 (fun _ _ => ⟨h3, h4, h5, h6⟩) (fun _ z => absurd (h2.mpr hx) z) (fun z _ => nomatch z) (fun z _ => nomatch z)
  · have hz : ¬ Z.c = 0 := fun z => hx (h2.mp z)
    have h1 : ¬ Stays false Z := fun h => hz h.2.2.1
    have h1' : ¬ Stays false X := fun h => hx h.2.2.1
    have h7 : Z.SR ↔ X.SR := by
      unfold Mx.SR
      rw [eT, eD]
      rw [bar_mul X.det, bar_mul (X.a + X.d), bar_mul (s1 * s4) (s1 * s4)]
      exact i_by (mul_ne_zero (mul_ne_zero nn nn) (mul_ne_zero (bar_ne_zero nn) (bar_ne_zero nn))) (by grind) (by grind)
    exact few_congr ⟨fun z => absurd z h1, fun z => absurd z h1'⟩ h2 (fun _ z => absurd z hz) (fun _ _ => ⟨h6, h7⟩) (fun z _ => nomatch z) (fun z _ => nomatch z)
theorem few_cj1 {S : Mx} (hS : S.det ≠ 0) (hc : S.c = 0) : few true (cjM true S X) K = few true X K := by
  obtain ⟨n1, n2⟩ := diag_ne hS hc
  have b1 := bar_ne_zero n1
  have b2 := bar_ne_zero n2
  obtain ⟨s1, s2, s3, s4⟩ := S
  simp only at hc n1 n2 b1 b2
  subst hc
  have ea : (cjM true ⟨s1, s2, 0, s4⟩ X).a = (s1 * X.a + s2 * X.c) * bar s4 := by
    simp only [cjM, Mx.mul, Mx.adj, Mx.bar, if_true, bar_neg, bar_zero]; grind
  have eb : (cjM true ⟨s1, s2, 0, s4⟩ X).b = s1 * (bar s1 * X.b - X.a * bar s2) + s2 * (bar s1 * X.d - X.c * bar s2) := by
    simp only [cjM, Mx.mul, Mx.adj, Mx.bar, if_true, bar_neg, bar_zero]; grind
  have ec : (cjM true ⟨s1, s2, 0, s4⟩ X).c = X.c * (s4 * bar s4) := by
    simp only [cjM, Mx.mul, Mx.adj, Mx.bar, if_true, bar_neg, bar_zero]; grind
  have ed : (cjM true ⟨s1, s2, 0, s4⟩ X).d = s4 * (bar s1 * X.d - X.c * bar s2) := by
    simp only [cjM, Mx.mul, Mx.adj, Mx.bar, if_true, bar_neg, bar_zero]; grind
  have eD : (cjM true ⟨s1, s2, 0, s4⟩ X).det = X.det * ((s1 * s4) * bar (s1 * s4)) := by
    unfold cjM
    rw [det_mul, det_mul]
    show (Mx.mk s1 s2 0 s4).det * (X.det * (Mx.mk s1 s2 0 s4).adj.bar.det) = _
    rw [det_bar, det_adj]
    simp only [Mx.det, bar_sub, bar_mul, bar_zero]; grind
  generalize cjM true ⟨s1, s2, 0, s4⟩ X = Z at *
  have h2 : Z.c = 0 ↔ X.c = 0 := by rw [ec]; exact z_sc (mul_ne_zero n2 b2)
  have nn := mul_ne_zero n1 n2
  have h6 : Z.Tru ↔ X.Tru := by
    unfold Mx.Tru
    rw [eD, nrm_mul, nrm_mul, nrm_bar]
    exact ⟨fun ⟨m, h⟩ => sq_div (nrm_ne nn) h, fun ⟨m, h⟩ => ⟨m * nrm (s1 * s4), by rw [h]; grind⟩⟩
  have h1 : ¬ Stays true Z := fun h => by cases h.1
  have h1' : ¬ Stays true X := fun h => by cases h.1
  have q1 := bar_ne_zero nn
  by_cases hx : X.c = 0
  · have ea' : Z.a = X.a * (s1 * bar s4) := by rw [ea, hx]; grind
    have ed' : Z.d = X.d * (bar s1 * s4) := by rw [ed, hx]; grind
    have eb' : Z.b = s1 * bar s1 * X.b - s1 * X.a * bar s2 + s2 * bar s1 * X.d := by rw [eb, hx]; grind
    have h5 : Z.Size1 ↔ X.Size1 := by
      unfold Mx.Size1
      rw [ea', ed']
      simp only [bar_mul, bar_bar]
      exact i_by (mul_ne_zero (mul_ne_zero n1 n2) (mul_ne_zero b1 b2)) (by grind) (by grind)
    have h8 : Z.Line ↔ X.Line := by
      unfold Mx.Line
      rw [h5]
      refine and_congr_right fun h => ?_
      unfold Mx.Size1 at h
      rw [ea', ed', eb']
      simp only [bar_mul, bar_bar, bar_add, bar_sub]
      rw [← z_sc (a := X.a * bar X.b + X.b * bar X.d) (mul_ne_zero (mul_ne_zero n1 b2) (mul_ne_zero n1 b1))]
      have : X.a * (s1 * bar s4) * (bar s1 * s1 * bar X.b - bar s1 * bar X.a * s2 + bar s2 * s1 * bar X.d) + (s1 * bar s1 * X.b - s1 * X.a * bar s2 + s2 * bar s1 * X.d) * (bar X.d * (s1 * bar s4)) = (X.a * bar X.b + X.b * bar X.d) * (s1 * bar s4 * (s1 * bar s1)) := by grind
      rw [this]
    exact few_congr ⟨fun z => absurd z h1, fun z => absurd z h1'⟩ h2 (fun z _ => nomatch z) (fun z _ => nomatch z) (fun _ _ => ⟨h6, h8, h5⟩) (fun _ z => absurd (h2.mpr hx) z)
  · have hz : ¬ Z.c = 0 := fun z => hx (h2.mp z)
    have h9 : Z.ER ↔ X.ER := by
      unfold Mx.ER
      rw [eD, ec]
      simp only [bar_mul, bar_bar]
      exact i_by (mul_ne_zero (mul_ne_zero (mul_ne_zero n1 n2) (mul_ne_zero b1 b2)) (mul_ne_zero (mul_ne_zero n2 b2) (mul_ne_zero n2 b2))) (by grind) (by grind)
    have h10 : Z.Turn ↔ X.Turn := by
      unfold Mx.Turn
      rw [h9]
      unfold Mx.GH
      rw [ea, ec, ed]
      simp only [bar_mul, bar_bar, bar_add, bar_sub]
      rw [show (s1 * X.a + s2 * X.c) * bar s4 * (bar X.c * (bar s4 * s4)) + bar s4 * (s1 * bar X.d - bar X.c * s2) * (X.c * (s4 * bar s4)) = (X.a * bar X.c + bar X.d * X.c) * (s1 * bar s4 * (s4 * bar s4)) by grind]
      rw [z_sc (mul_ne_zero (mul_ne_zero n1 b2) (mul_ne_zero n2 b2))]
    exact few_congr ⟨fun z => absurd z h1, fun z => absurd z h1'⟩ h2 (fun z _ => nomatch z) (fun z _ => nomatch z) (fun _ z => absurd z hz) (fun _ _ => ⟨h10, h9, h6⟩)
theorem few_cj {S : Mx} (hS : S.det ≠ 0) (hc : S.c = 0) : few f (thn g (thn f (S.inv g) X) S) K = few f X K := by
  rw [cj_eq]
  have : few f (if g then X.bar else X) K = few f X K := by
    cases g
    · rfl
    · exact few_bar
  rw [← this]
  cases f
  · exact few_cj0 hS hc
  · exact few_cj1 hS hc
end
end K79
end
section
set_option linter.all false
namespace K79
open GI Mx
/-! ### sizes -/
def Bd (n : Nat) (M : Mx) : Prop := nrm M.a < 2 ^ n ∧ nrm M.b < 2 ^ n ∧ nrm M.c < 2 ^ n ∧ nrm M.d < 2 ^ n
theorem pow2_pos (n : Nat) : (0 : Int) < 2 ^ n := Int.pow_pos (by decide)
theorem pow2_le {n m : Nat} (h : n ≤ m) : (2 : Int) ^ n ≤ 2 ^ m := by
  obtain ⟨k, rfl⟩ := Nat.le.dest h
  rw [Int.pow_add]
  have h1 := pow2_pos n
  have h2 : (1 : Int) ≤ 2 ^ k := by have := pow2_pos k; omega
  have h3 : (2 : Int) ^ n * 1 ≤ 2 ^ n * 2 ^ k := Int.mul_le_mul_of_nonneg_left h2 (by omega)
  omega
theorem Bd.mono {n m : Nat} {M : Mx} (h : n ≤ m) (b : Bd n M) : Bd m M := by
  have := pow2_le h
  obtain ⟨a, b, c, d⟩ := b
  exact ⟨by omega, by omega, by omega, by omega⟩
theorem Bd.lo {n : Nat} {M : Mx} (h : n ≤ 4000) (b : Bd n M) : M.Lo := by
  obtain ⟨a, b, c, d⟩ := b.mono h
  intro z hz
  simp only [lst, List.mem_cons, List.not_mem_nil, or_false] at hz
  rcases hz with rfl | rfl | rfl | rfl <;> assumption
theorem nrm_add (u v : GI) : nrm (u + v) ≤ 2 * (nrm u + nrm v) := by
  have e : nrm (u + v) + nrm (u - v) = 2 * (nrm u + nrm v) := by
    simp only [nrm, add_re, add_im, sub_re, sub_im]; grind
  have := nrm_nonneg (u - v)
  omega
theorem nrm_mul_lt {u v : GI} {n m : Nat} (h1 : nrm u < 2 ^ n) (h2 : nrm v < 2 ^ m) : nrm (u * v) < 2 ^ (n + m) := by
  rw [nrm_mul, Int.pow_add]
  have a := nrm_nonneg u
  have b := nrm_nonneg v
  have p := pow2_pos n
  have q := pow2_pos m
  have h3 : nrm u * nrm v ≤ nrm u * 2 ^ m := Int.mul_le_mul_of_nonneg_left (by omega) a
  have h4 : nrm u * 2 ^ m < 2 ^ n * 2 ^ m := Int.mul_lt_mul_of_pos_right h1 q
  omega
theorem nrm_lin {u v x y : GI} {n m : Nat} (h1 : nrm u < 2 ^ n) (h2 : nrm v < 2 ^ m) (h3 : nrm x < 2 ^ n) (h4 : nrm y < 2 ^ m) : nrm (u * v + x * y) < 2 ^ (n + m + 2) := by
  have a := nrm_mul_lt h1 h2
  have b := nrm_mul_lt h3 h4
  have c := nrm_add (u * v) (x * y)
  rw [Int.pow_add]
  have e : (2 : Int) ^ 2 = 4 := rfl
  rw [e]
  omega
theorem bd_bar {n : Nat} {M : Mx} (b : Bd n M) : Bd n M.bar := by
  unfold Bd Mx.bar at *
  simp only [nrm_bar]
  exact b
theorem bd_thn {g : Bool} {n m : Nat} {X Y : Mx} (hx : Bd n X) (hy : Bd m Y) : Bd (n + m + 2) (thn g X Y) := by
  unfold thn
  have hx' : Bd n (if g then X.bar else X) := by
    cases g
    · exact hx
    · exact bd_bar hx
  generalize (if g then X.bar else X) = Z at *
  obtain ⟨x1, x2, x3, x4⟩ := hx'
  obtain ⟨y1, y2, y3, y4⟩ := hy
  rw [Nat.add_comm n m]
  exact ⟨nrm_lin y1 x1 y2 x3, nrm_lin y1 x2 y2 x4, nrm_lin y3 x1 y4 x3, nrm_lin y3 x2 y4 x4⟩
theorem nrm_neg (u : GI) : nrm (-u) = nrm u := by simp only [nrm, neg_re, neg_im]; grind
theorem bd_inv {f : Bool} {n : Nat} {X : Mx} (hx : Bd n X) : Bd n (X.inv f) := by
  have h : Bd n X.adj := by
    obtain ⟨x1, x2, x3, x4⟩ := hx
    exact ⟨x4, by show nrm (-X.b) < _; rw [nrm_neg]; exact x2, by show nrm (-X.c) < _; rw [nrm_neg]; exact x3, x1⟩
  unfold inv
  cases f
  · exact h
  · exact bd_bar h
/-! ### charts -/
structure Ch where
  f : Bool
  m : Mx
deriving DecidableEq
namespace Ch
def still : Ch := ⟨false, ⟨1, 0, 0, 1⟩⟩
def join (x y : Ch) : Ch := ⟨fl x.f y.f, (thn y.f x.m y.m).form⟩
def home (x : Ch) : Ch := ⟨x.f, (x.m.inv x.f).form⟩
noncomputable def few (x : Ch) (K : Kd) : Option Nat := K79.few x.f x.m K
structure Ok (n : Nat) (x : Ch) : Prop where
  form : IsForm x.m
  bd : Bd n x.m
theorem Ok.mono {n m : Nat} {x : Ch} (h : n ≤ m) (o : Ok n x) : Ok m x := ⟨o.form, o.bd.mono h⟩
theorem form_ok {f : Bool} {n : Nat} {M : Mx} (hd : M.det ≠ 0) (hb : Bd n M) (hn : n ≤ 4000) : Ok n ⟨f, M.form⟩ := by
  have hl := hb.lo hn
  refine ⟨form_isForm hl hd, ?_⟩
  obtain ⟨h1, h2, h3, h4⟩ := form_nrm hl hd
  obtain ⟨b1, b2, b3, b4⟩ := hb
  exact ⟨by show nrm M.form.a < _; omega, by show nrm M.form.b < _; omega, by show nrm M.form.c < _; omega, by show nrm M.form.d < _; omega⟩
theorem few_form {f : Bool} {n : Nat} {M : Mx} {K : Kd} (hd : M.det ≠ 0) (hb : Bd n M) (hn : n ≤ 4000) : K79.few f M.form K = K79.few f M K := by
  obtain ⟨k, hk, e⟩ := form_eq (hb.lo hn) hd
  have : K79.few f M K = K79.few f (M.form.sc k) K := by rw [← e]
  rw [this, few_sc hk]
theorem join_ok {n m : Nat} {x y : Ch} (hx : Ok n x) (hy : Ok m y) (h : n + m + 2 ≤ 4000) : Ok (n + m + 2) (join x y) := form_ok (thn_ne hx.form.det hy.form.det) (bd_thn hx.bd hy.bd) h
theorem home_ok {n : Nat} {x : Ch} (hx : Ok n x) (h : n ≤ 4000) : Ok n (home x) := form_ok (det_inv hx.form.det) (bd_inv hx.bd) h
theorem still_bd : Bd 1 (Mx.mk 1 0 0 1) := ⟨by decide, by decide, by decide, by decide⟩
theorem still_ok : Ok 1 still := by
  refine ⟨⟨by decide, ?_, by decide, ?_⟩, still_bd⟩
  · exact Bd.lo (n := 1) (by decide) still_bd
  · have h : Dv 1 (Mx.mk 1 0 0 1).g := ⟨(Mx.mk 1 0 0 1).g, by grind⟩
    have h2 : Dv (Mx.mk 1 0 0 1).g 1 := (g_dv (M := Mx.mk 1 0 0 1) (Bd.lo (n := 1) (by decide) still_bd)).1
    obtain ⟨k, hk⟩ := h2
    have e : nrm k * nrm (Mx.mk 1 0 0 1).g = 1 := by rw [← nrm_mul]; exact (congrArg nrm hk).symm
    exact Int.eq_one_of_dvd_one (nrm_nonneg _) ⟨nrm k, by rw [Int.mul_comm]; exact e.symm⟩
theorem few_join {n m : Nat} {x y : Ch} {K : Kd} (hx : Ok n x) (hy : Ok m y) (h : n + m + 2 ≤ 4000) : (join x y).few K = K79.few (fl x.f y.f) (thn y.f x.m y.m) K := few_form (thn_ne hx.form.det hy.form.det) (bd_thn hx.bd hy.bd) h
theorem few_home {n : Nat} {x : Ch} {K : Kd} (hx : Ok n x) (h : n ≤ 4000) : (home x).few K = x.few K := by
  have : (home x).few K = K79.few x.f (x.m.inv x.f) K := few_form (det_inv hx.form.det) (bd_inv hx.bd) h
  rw [this, few_inv]; rfl
end Ch
open Ch
/-! ### products of multiples, three in a row -/
theorem thn_sc1 {g : Bool} {X Y : Mx} {k : GI} (hk : k ≠ 0) : ∃ l, l ≠ 0 ∧ thn g (X.sc k) Y = (thn g X Y).sc l := by
  cases g
  · refine ⟨k, hk, ?_⟩
    simp only [thn, Mx.mul, Mx.sc, Bool.false_eq_true, if_false, Mx.mk.injEq]
    refine ⟨?_, ?_, ?_, ?_⟩ <;> grind
  · refine ⟨GI.bar k, bar_ne_zero hk, ?_⟩
    simp only [thn, Mx.mul, Mx.sc, Mx.bar, if_true, Mx.mk.injEq, bar_mul]
    refine ⟨?_, ?_, ?_, ?_⟩ <;> grind
theorem thn_sc2 {g : Bool} {X Y : Mx} {k : GI} : thn g X (Y.sc k) = (thn g X Y).sc k := by
  simp only [thn, Mx.mul, Mx.sc, Mx.mk.injEq]
  refine ⟨?_, ?_, ?_, ?_⟩ <;> grind
theorem thn_assoc {g h : Bool} {X Y Z : Mx} : thn h (thn g X Y) Z = thn (fl g h) X (thn h Y Z) := by
  cases g <;> cases h <;> simp only [thn, fl, Mx.mul, Mx.bar, if_true, Bool.false_eq_true, if_false, Mx.mk.injEq, bar_mul, bar_add, bar_bar, Bool.not_true, Bool.not_false] <;> (refine ⟨?_, ?_, ?_, ?_⟩ <;> grind)
theorem thn_back {g : Bool} {X Y : Mx} (hY : Y.det ≠ 0) : ∃ l, l ≠ 0 ∧ thn g (thn g X Y) (Y.inv g) = X.sc l := by
  cases g
  · refine ⟨Y.det, hY, ?_⟩
    simp only [thn, Mx.inv, Mx.adj, Mx.mul, Mx.sc, Mx.det, Bool.false_eq_true, if_false, Mx.mk.injEq]
    refine ⟨?_, ?_, ?_, ?_⟩ <;> grind
  · refine ⟨GI.bar Y.det, bar_ne_zero hY, ?_⟩
    simp only [thn, Mx.inv, Mx.adj, Mx.mul, Mx.sc, Mx.bar, Mx.det, if_true, Mx.mk.injEq, bar_mul, bar_add, bar_sub, bar_bar, bar_neg]
    refine ⟨?_, ?_, ?_, ?_⟩ <;> grind
theorem inv_thn {f g : Bool} {X Y : Mx} : (thn g X Y).inv (fl f g) = thn f (Y.inv g) (X.inv f) := by
  cases f <;> cases g <;> simp only [thn, fl, Mx.inv, Mx.adj, Mx.mul, Mx.bar, if_true, Bool.false_eq_true, if_false, Mx.mk.injEq, bar_mul, bar_add, bar_bar, bar_neg, Bool.not_true, Bool.not_false] <;> (refine ⟨?_, ?_, ?_, ?_⟩ <;> grind)
theorem fl_fl (f g : Bool) : fl (fl f g) g = f := by cases f <;> cases g <;> rfl
theorem fl_comm (f g : Bool) : fl f g = fl g f := by cases f <;> cases g <;> rfl
theorem fl_assoc (f g h : Bool) : fl (fl f g) h = fl f (fl g h) := by cases f <;> cases g <;> cases h <;> rfl
/-! ### cells: multiples, ways back -/
theorem cell_sc {k : Kind} {g : Bool} {M : Mx} {l : GI} (hl : l ≠ 0) (h : CellL k g (M.sc l)) : CellL k g M := by
  obtain ⟨hd, h⟩ := h
  have hd' : M.det ≠ 0 := fun e => hd (by rw [det_sc, e]; grind)
  have c : (M.sc l).c = 0 ↔ M.c = 0 := z_sc hl
  have lb := bar_ne_zero hl
  refine ⟨hd', ?_⟩
  cases k with
  | ca => exact ⟨h.1, c.mp h.2.1, mul_cancel hl (by have := h.2.2; simp only [Mx.sc] at this; grind)⟩
  | gr => exact ⟨h.1, c.mp h.2.1, fun e => h.2.2 (by show M.a * l = M.d * l; rw [e])⟩
  | tu =>
    refine ⟨h.1, fun e => h.2.1 (c.mpr e), ?_, ?_⟩
    · have q := h.2.2.1
      unfold Mx.GH at q ⊢
      have q2 : M.a * l * bar (M.c * l) + bar (M.d * l) * (M.c * l) = 0 := q
      rw [bar_mul, bar_mul] at q2
      exact (z_sc (mul_ne_zero hl lb)).mp (by rw [← q2]; grind)
    · have q := h.2.2.2
      unfold Mx.ER at q ⊢
      rw [det_sc] at q
      have q2 : M.det * (l * l) * (bar (M.c * l) * bar (M.c * l)) = bar (M.det * (l * l)) * (M.c * l * (M.c * l)) := q
      simp only [bar_mul] at q2
      exact (i_by (mul_ne_zero (mul_ne_zero hl lb) (mul_ne_zero hl lb)) (by grind) (by grind)).mp q2
  | mi =>
    refine ⟨h.1, c.mp h.2.1, ?_, ?_⟩
    · have q := h.2.2.1
      unfold Mx.Size1 at q ⊢
      have q2 : M.a * l * bar (M.a * l) = M.d * l * bar (M.d * l) := q
      rw [bar_mul, bar_mul] at q2
      exact (i_by (mul_ne_zero hl lb) (by grind) (by grind)).mp q2
    · have q : M.a * l * bar (M.b * l) + M.b * l * bar (M.d * l) = 0 := h.2.2.2
      rw [bar_mul, bar_mul] at q
      exact (z_sc (mul_ne_zero hl lb)).mp (by rw [← q]; grind)
theorem cell_form {k : Kind} {g : Bool} {M : Mx} (hl : M.Lo) (h : CellL k g M) : CellL k g M.form := by
  obtain ⟨l, hl', e⟩ := form_eq hl h.det
  rw [e] at h
  exact cell_sc hl' h
theorem cell_inv {k : Kind} {g : Bool} {M : Mx} (h : CellL k g M) : CellL k g (M.inv g) := by
  obtain ⟨hd, h⟩ := h
  refine ⟨det_inv hd, ?_⟩
  cases k with
  | ca =>
    obtain ⟨rfl, h1, h2⟩ := h
    exact ⟨rfl, by show -M.c = 0; rw [h1]; grind, h2.symm⟩
  | gr =>
    obtain ⟨rfl, h1, h2⟩ := h
    exact ⟨rfl, by show -M.c = 0; rw [h1]; grind, fun e => h2 e.symm⟩
  | tu =>
    obtain ⟨rfl, h1, g, e⟩ := h
    have ec : (M.inv true).c = -bar M.c := by show bar (-M.c) = _; rw [bar_neg]
    refine ⟨rfl, ?_, ?_, ?_⟩
    · rw [ec]; intro z; exact h1 (bar_z.mp (neg_z.mp z))
    · have q := bar_eq g
      unfold Mx.GH at *
      show bar M.d * bar (bar (-M.c)) + bar (bar M.a) * bar (-M.c) = 0
      simp only [bar_neg, bar_bar]
      grind
    · unfold Mx.ER at *
      show M.adj.bar.det * (bar (bar (-M.c)) * bar (bar (-M.c))) = bar M.adj.bar.det * (bar (-M.c) * bar (-M.c))
      rw [det_bar, det_adj]
      simp only [bar_neg, bar_bar]
      grind
  | mi =>
    obtain ⟨rfl, h1, s, l⟩ := h
    refine ⟨rfl, by show bar (-M.c) = 0; rw [h1]; rfl, ?_, ?_⟩
    · unfold Mx.Size1 at *
      show bar M.d * bar (bar M.d) = bar M.a * bar (bar M.a)
      simp only [bar_bar]
      grind
    · show bar M.d * bar (bar (-M.b)) + bar (-M.b) * bar (bar M.a) = 0
      simp only [bar_neg, bar_bar]
      grind
/-! ### what makes a number of cells -/
section
variable {X Y : Mx} {K : Kd} {f g : Bool}
theorem few_some0 (h : few f X K = some 0) : Stays f X := by
  unfold few fewPK fewPM fewMK fewMM at h
  grind
theorem few_some1 (hX : X.det ≠ 0) (h : few f X K = some 1) : ∃ k, K.has k = true ∧ CellL k f X := by
  unfold few fewPK fewPM fewMK fewMM at h
  split at h
  · cases h
  · rename_i hs
    split at h
    · rename_i hc
      cases f
      · simp only [Bool.false_eq_true, if_false] at h
        split at h
        · rename_i ha
          split at h
          · rename_i hk; exact ⟨.ca, hk, hX, rfl, hc, ha⟩
          · split at h
            · cases h
            · split at h <;> cases h
        · rename_i ha
          split at h
          · rename_i hk; exact ⟨.gr, hk, hX, rfl, hc, ha⟩
          · split at h
            · cases h
            · split at h <;> cases h
      · simp only [if_true] at h
        split at h
        · repeat' split at h
          all_goals cases h
        · rename_i hk
          split at h
          · rename_i hl; exact ⟨.mi, by simpa [Kd.has] using hk, hX, rfl, hc, hl⟩
          · repeat' split at h
            all_goals cases h
    · rename_i hc
      split at h
      · cases h
      · rename_i hk
        cases f
        · simp only [Bool.false_eq_true, if_false] at h
          repeat' split at h
          all_goals cases h
        · simp only [if_true] at h
          split at h
          · rename_i ht; exact ⟨.tu, by simpa [Kd.has] using hk, hX, rfl, hc, ht⟩
          · repeat' split at h
            all_goals cases h
theorem step_back {k : Kind} (hX : X.det ≠ 0) (hY : CellL k g Y) (hk : K.has k = true) : LeS (few (fl f g) (thn g X Y) K) (few f X K) := by
  have h := step_cell (f := fl f g) (X := thn g X Y) (thn_ne hX hY.det) (cell_inv hY) hk
  obtain ⟨l, hl, e⟩ := thn_back (g := g) (X := X) hY.det
  rw [e, few_sc hl, fl_fl] at h
  exact h
theorem step_left {k : Kind} (hX : CellL k f X) (hY : Y.det ≠ 0) (hk : K.has k = true) : LeS (few g Y K) (few (fl f g) (thn g X Y) K) := by
  have h := step_cell (f := g) (X := Y.inv g) (K := K) (det_inv hY) (cell_inv hX) hk
  rw [few_inv, ← inv_thn, fl_comm g f, few_inv] at h
  exact h
theorem stays_left (hs : Stays f X) (hX : X.det ≠ 0) : few (fl f g) (thn g X Y) K = few g Y K := by
  obtain ⟨rfl, hb, hc, hd⟩ := hs
  have ha := (diag_ne hX hc).1
  have e0 : fl false g = g := by cases g <;> rfl
  rw [e0]
  cases g
  · have : thn false X Y = Y.sc X.a := by
      obtain ⟨a, b, c, d⟩ := X
      simp only at hb hc hd
      subst hb hc hd
      simp only [thn, Mx.mul, Mx.sc, Bool.false_eq_true, if_false, Mx.mk.injEq]
      refine ⟨?_, ?_, ?_, ?_⟩ <;> grind
    rw [this, few_sc ha]
  · have : thn true X Y = Y.sc (GI.bar X.a) := by
      obtain ⟨a, b, c, d⟩ := X
      simp only at hb hc hd
      subst hb hc hd
      simp only [thn, Mx.mul, Mx.sc, Mx.bar, if_true, Mx.mk.injEq, bar_zero]
      refine ⟨?_, ?_, ?_, ?_⟩ <;> grind
    rw [this, few_sc (bar_ne_zero ha)]
theorem stays_right (hs : Stays g Y) (hY : Y.det ≠ 0) : few (fl f g) (thn g X Y) K = few f X K := by
  obtain ⟨rfl, hb, hc, hd⟩ := hs
  have ha := (diag_ne hY hc).1
  have : thn false X Y = X.sc Y.a := by
    obtain ⟨a, b, c, d⟩ := Y
    simp only at hb hc hd
    subst hb hc hd
    simp only [thn, Mx.mul, Mx.sc, Bool.false_eq_true, if_false, Mx.mk.injEq]
    refine ⟨?_, ?_, ?_, ?_⟩ <;> grind
  rw [this, few_sc ha]; rfl
theorem few_sub {n m p : Nat} (hX : X.det ≠ 0) (hY : Y.det ≠ 0) (h1 : few f X K = some n) (h2 : few g Y K = some m) (h3 : few (fl f g) (thn g X Y) K = some p) : p ≤ n + m := by
  have h4 := few_le _ _ _ _ h3
  by_cases n0 : n = 0
  · subst n0
    rw [stays_left (few_some0 h1) hX, h2] at h3
    injection h3 with h3
    omega
  · by_cases m0 : m = 0
    · subst m0
      rw [stays_right (few_some0 h2) hY, h1] at h3
      injection h3 with h3
      omega
    · by_cases n1 : n = 1
      · subst n1
        obtain ⟨k, hk, hc⟩ := few_some1 hX h1
        obtain ⟨q, e, hq⟩ := step_left (g := g) hc hY hk m h2
        rw [h3] at e
        injection e with e
        omega
      · by_cases m1 : m = 1
        · subst m1
          obtain ⟨k, hk, hc⟩ := few_some1 hY h2
          obtain ⟨q, e, hq⟩ := step_cell (f := f) hX hc hk n h1
          rw [h3] at e
          injection e with e
          omega
        · omega
theorem few_mono {K K' : Kd} {n : Nat} (hk : ∀ k, K.has k = true → K'.has k = true) (h : few f X K = some n) : ∃ m, few f X K' = some m ∧ m ≤ n := by
  have a := hk .ca
  have b := hk .gr
  have c := hk .tu
  have d := hk .mi
  simp only [Kd.has] at a b c d
  unfold few fewPK fewPM fewMK fewMM at h ⊢
  have e : X.Line → X.Size1 := fun h => h.1
  generalize X.Line = p1 at *
  generalize X.Size1 = p2 at *
  generalize X.Tru = p3 at *
  generalize X.ER = p4 at *
  generalize X.Turn = p5 at *
  generalize X.SR = p6 at *
  generalize X.FacR = p7 at *
  generalize Stays f X = p8 at *
  cases f <;> grind
end
end K79
end
section
set_option linter.all false
namespace K79
open GI Mx Ch
/-! ### rows of cells -/
structure IsCell (k : Kind) (x : Ch) : Prop where
  ok : Ok 100 x
  cell : CellL k x.f x.m
def wayFrom (x : Ch) (l : List Ch) : Ch := l.foldl Ch.join x
def way (l : List Ch) : Ch := wayFrom still l
theorem few_still (K : Kd) : still.few K = some 0 := by
  unfold Ch.few still few
  rw [if_pos ⟨rfl, rfl, rfl, rfl⟩]
theorem way_ok : ∀ (l : List Ch) (x : Ch) (n : Nat), Ok n x → (∀ y ∈ l, ∃ k, IsCell k y) → n + 102 * l.length ≤ 4000 → Ok (n + 102 * l.length) (wayFrom x l)
  | [], x, n, h, _, _ => h
  | y :: r, x, n, h, hl, hn => by
    obtain ⟨k, hy⟩ := hl y List.mem_cons_self
    simp only [List.length_cons] at hn ⊢
    have h2 := way_ok r (x.join y) (n + 100 + 2) (join_ok h hy.ok (by omega)) (fun z hz => hl z (List.mem_cons_of_mem _ hz)) (by omega)
    rw [show n + 102 * (r.length + 1) = n + 100 + 2 + 102 * r.length by omega]
    exact h2
theorem way_few {K : Kd} : ∀ (l : List Ch) (x : Ch) (n t : Nat), Ok n x → (∀ y ∈ l, ∃ k, IsCell k y ∧ K.has k = true) → n + 102 * l.length ≤ 4000 → x.few K = some t → ∃ u, (wayFrom x l).few K = some u ∧ u ≤ t + l.length
  | [], x, n, t, h, _, _, e => ⟨t, e, Nat.le_refl _⟩
  | y :: r, x, n, t, h, hl, hn, e => by
    obtain ⟨k, hy, hk⟩ := hl y List.mem_cons_self
    simp only [List.length_cons] at hn ⊢
    have hj := few_join (K := K) h hy.ok (by omega)
    obtain ⟨u, e1, h1⟩ := step_cell (f := x.f) h.form.det hy.cell hk t e
    rw [← hj] at e1
    obtain ⟨v, e2, h2⟩ := way_few r (x.join y) (n + 100 + 2) u (join_ok h hy.ok (by omega)) (fun z hz => hl z (List.mem_cons_of_mem _ hz)) (by omega) e1
    exact ⟨v, e2, by omega⟩
/-- a row behind a row: what the one and the other are together is made, too -/
theorem way_join {K : Kd} : ∀ (l : List Ch) (x y : Ch) (n m : Nat), Ok n x → Ok m y → (∀ z ∈ l, ∃ k, IsCell k z ∧ K.has k = true) → n + m + 2 + 102 * l.length ≤ 4000 → (∃ t, (x.join y).few K = some t) → ∃ u, (x.join (wayFrom y l)).few K = some u
  | [], x, y, n, m, hx, hy, _, _, e => e
  | z :: r, x, y, n, m, hx, hy, hl, hn, ⟨t, e⟩ => by
    obtain ⟨k, hz, hk⟩ := hl z List.mem_cons_self
    simp only [List.length_cons] at hn
    have h1 := join_ok hy hz.ok (show m + 100 + 2 ≤ 4000 by omega)
    refine way_join r x (y.join z) n (m + 100 + 2) hx h1 (fun w hw => hl w (List.mem_cons_of_mem _ hw)) (by omega) ?_
    rw [few_join hx hy (by omega)] at e
    obtain ⟨u, e1, _⟩ := step_cell (X := thn y.f x.m y.m) (thn_ne hx.form.det hy.form.det) hz.cell hk t e
    refine ⟨u, ?_⟩
    rw [few_join hx h1 (by omega)]
    have hd := thn_ne (g := z.f) hy.form.det hz.cell.det
    have hb := bd_thn (g := z.f) hy.bd hz.ok.bd
    obtain ⟨q, hq, eq⟩ := form_eq (hb.lo (show m + 100 + 2 ≤ 4000 by omega)) hd
    have e2 : thn (fl y.f z.f) x.m (thn z.f y.m z.m) = (thn (fl y.f z.f) x.m (thn z.f y.m z.m).form).sc q := by rw [← thn_sc2, ← eq]
    have e3 : K79.few (fl x.f (fl y.f z.f)) (thn (fl y.f z.f) x.m (thn z.f y.m z.m).form) K = K79.few (fl x.f (fl y.f z.f)) (thn (fl y.f z.f) x.m (thn z.f y.m z.m)) K := by rw [e2, few_sc hq]
    show K79.few (fl x.f (fl y.f z.f)) (thn (fl y.f z.f) x.m (thn z.f y.m z.m).form) K = some u
    rw [e3, ← thn_assoc, ← fl_assoc]
    exact e1
theorem few_moved {n m : Nat} {x s : Ch} {K : Kd} (hx : Ok n x) (hs : Ok m s) (hc : s.m.c = 0) (h : m + n + 2 + m + 2 ≤ 4000) : ((s.home.join x).join s).few K = x.few K := by
  have h1 := home_ok hs (by omega)
  have h2 := join_ok h1 hx (by omega)
  rw [few_join h2 hs (by omega)]
  have ef : fl (fl s.f x.f) s.f = x.f := by rw [fl_comm s.f x.f, fl_fl]
  show K79.few (fl (fl s.f x.f) s.f) (thn s.f (thn x.f (s.m.inv s.f).form x.m).form s.m) K = _
  rw [ef]
  have hd0 := det_inv (f := s.f) hs.form.det
  obtain ⟨k0, hk0, e0⟩ := form_eq ((bd_inv (f := s.f) hs.bd).lo (by omega)) hd0
  have hd1 := thn_ne (g := x.f) h1.form.det hx.form.det
  obtain ⟨k1, hk1, e1⟩ := form_eq ((bd_thn (g := x.f) h1.bd hx.bd).lo (by omega)) hd1
  have c := few_cj (K := K) (f := x.f) (g := s.f) (X := x.m) hs.form.det hc
  obtain ⟨k2, hk2, e2⟩ := thn_sc1 (g := x.f) (X := (s.m.inv s.f).form) (Y := x.m) hk0
  obtain ⟨k3, hk3, e3⟩ := thn_sc1 (g := s.f) (X := thn x.f (s.m.inv s.f).form x.m) (Y := s.m) hk2
  obtain ⟨k4, hk4, e4⟩ := thn_sc1 (g := s.f) (X := (thn x.f (s.m.inv s.f).form x.m).form) (Y := s.m) hk1
  rw [e0, e2, e3, few_sc hk3] at c
  have e1' : (thn x.f (s.m.inv s.f).form x.m).form.sc k1 = thn x.f (s.m.inv s.f).form x.m := e1.symm
  rw [e1'] at e4
  rw [e4, few_sc hk4] at c
  exact c
theorem few_zero_still {n : Nat} {x : Ch} {K : Kd} (hx : Ok n x) : x.few K = some 0 ↔ x = still := by
  constructor
  · intro h
    obtain ⟨hf, hb, hc, hd⟩ := few_some0 h
    have := hx.form.stay hb hc hd
    obtain ⟨f, m⟩ := x
    simp only at hf this
    rw [hf, this]; rfl
  · rintro rfl
    exact few_still K
theorem le4 {x : Ch} {K : Kd} {n : Nat} (h : x.few K = some n) : n ≤ 4 := few_le _ _ _ _ h
def every : Kd := ⟨true, true, true, true⟩
theorem every_has (k : Kind) : every.has k = true := by cases k <;> rfl
/-- THE LAW of what the cells make -/
theorem law_math {early late : List Ch} {side step : Ch} {sk : Kind} {few wide : Kd} (h3 : early.length ≤ 3) (h4 : late.length ≤ 4)
    (he : ∀ x ∈ early, ∃ k, IsCell k x ∧ few.has k = true) (hl : ∀ x ∈ late, ∃ k, IsCell k x ∧ few.has k = true) (hs : IsCell sk step) (hw : ∀ k, few.has k = true → wide.has k = true) (hk : wide.has sk = true)
    (hd : Ok 100 side) (hc : side.m.c = 0) :
    ∃ t0 t1 t2 m0 m1 m2 : Nat, (way early).few few = some t0 ∧ (way late).few few = some t1 ∧ ((way early).join (way late)).few few = some t2 ∧ (way early).home.few few = some t0 ∧
      ((side.home.join (way early)).join side).few few = some t0 ∧ t0 ≤ 4 ∧ t1 ≤ 4 ∧ t2 ≤ 4 ∧ t0 ≤ early.length ∧ t1 ≤ late.length ∧ t2 ≤ t0 + t1 ∧ (t0 = 0 ↔ way early = still) ∧
      (way early).few wide = some m0 ∧ ((way early).join step).few wide = some m1 ∧ (way early).few every = some m2 ∧ m0 ≤ t0 ∧ m2 ≤ m0 ∧ m1 ≤ m0 + 1 ∧ m0 ≤ m1 + 1 := by
  have oe : Ok 307 (way early) := (way_ok early still 1 still_ok (fun x hx => let ⟨k, a, _⟩ := he x hx; ⟨k, a⟩) (by omega)).mono (by omega)
  have ol : Ok 409 (way late) := (way_ok late still 1 still_ok (fun x hx => let ⟨k, a, _⟩ := hl x hx; ⟨k, a⟩) (by omega)).mono (by omega)
  obtain ⟨t0, e0, l0⟩ := way_few early still 1 0 still_ok he (by omega) (few_still few)
  obtain ⟨t1, e1, l1⟩ := way_few late still 1 0 still_ok hl (by omega) (few_still few)
  have e0' : (way early).few few = some t0 := e0
  have e1' : (way late).few few = some t1 := e1
  have j0 : ∃ t, ((way early).join still).few few = some t := by
    refine ⟨t0, ?_⟩
    rw [few_join oe still_ok (by omega)]
    have := stays_right (X := (way early).m) (Y := still.m) (f := (way early).f) (g := still.f) (K := few) (few_some0 (few_still few)) still_ok.form.det
    rw [this]; exact e0'
  obtain ⟨t2, e2⟩ := way_join late (way early) still 307 1 oe still_ok hl (by omega) j0
  have e2' : ((way early).join (way late)).few few = some t2 := e2
  have s2 : t2 ≤ t0 + t1 := by
    rw [few_join oe ol (by omega)] at e2'
    exact few_sub oe.form.det ol.form.det e0' e1' e2'
  obtain ⟨m0, f0, g0⟩ := few_mono hw e0'
  have f0' : (way early).few wide = some m0 := f0
  obtain ⟨m2, f2, g2⟩ := few_mono (K' := every) (fun k _ => every_has k) f0
  obtain ⟨m1, f1, g1⟩ := step_cell (f := (way early).f) oe.form.det hs.cell hk m0 f0
  have f1' : ((way early).join step).few wide = some m1 := by rw [few_join oe hs.ok (by omega)]; exact f1
  obtain ⟨m3, f3, g3⟩ := step_back (f := (way early).f) (X := (way early).m) oe.form.det hs.cell hk m1 f1
  rw [f0] at f3
  injection f3 with f3
  refine ⟨t0, t1, t2, m0, m1, m2, e0', e1', e2', ?_, ?_, le4 e0', le4 e1', le4 e2', by omega, by omega, s2, ?_, f0', f1', f2, g0, g2, g1, by omega⟩
  · rw [few_home oe (by omega)]; exact e0'
  · rw [few_moved oe hd hc (by omega)]; exact e0'
  · rw [← few_zero_still oe (K := few), e0']
    constructor
    · intro z; rw [z]
    · intro z; injection z
end K79
end
section
set_option Elab.async false
set_option linter.all false
set_option maxRecDepth 100000
namespace K79
open PySem PySem.Spec PyProof.Rows L2
open Evl (Ex)
/-! ### data: what is known of a heap, some addresses hidden -/
mutual
theorem Dp.mono {K : PySem.W.Frag} {H H' : Hp} (e : Ex H H') : ∀ {v : V} {d : PyData}, L2.Dp K H v d → L2.Dp K H' v d
  | _, _, .non => .non
  | _, _, .bl b => .bl b
  | _, _, .int i => .int i
  | _, _, .str x => .str x
  | _, _, .lst h a => .lst (Evl.ex_l e h) (DpAll.mono e a)
  | _, _, .tup h a => .tup (Evl.ex_t e h) (DpAll.mono e a)
theorem DpAll.mono {K : PySem.W.Frag} {H H' : Hp} (e : Ex H H') : ∀ {vs : List V} {ds : List PyData}, L2.DpAll K H vs ds → L2.DpAll K H' vs ds
  | _, _, .nil => .nil
  | _, _, .cons h a => .cons (Dp.mono e h) (DpAll.mono e a)
end
theorem DpAll.len {K : PySem.W.Frag} {H : Hp} : ∀ {vs : List V} {ds : List PyData}, DpAll K H vs ds → vs.length = ds.length
  | _, _, .nil => rfl
  | _, _, .cons _ a => by simp only [List.length_cons, DpAll.len a]
theorem DpAll.get {K : PySem.W.Frag} {H : Hp} : ∀ {vs : List V} {ds : List PyData} {i : Nat} {d : PyData}, DpAll K H vs ds → ds[i]? = some d → ∃ v, vs[i]? = some v ∧ Dp K H v d
  | _, _, _, _, .nil, h => by simp at h
  | _, _, 0, _, .cons h a, e => by
    simp at e; subst e
    exact ⟨_, rfl, h⟩
  | _, _, i + 1, d, .cons h a, e => by
    obtain ⟨v, e1, h1⟩ := DpAll.get (i := i) (d := d) a (by simpa using e)
    exact ⟨v, by simpa using e1, h1⟩
theorem DpAll.get' {K : PySem.W.Frag} {H : Hp} {vs : List V} {ds : List PyData} {i : Nat} {v : V} (a : DpAll K H vs ds) (h : vs[i]? = some v) : ∃ d, ds[i]? = some d ∧ Dp K H v d := by
  obtain ⟨hi, e⟩ := List.getElem?_eq_some_iff.mp h
  have hl := DpAll.len a
  have hd : ds[i]? = some (ds[i]'(by omega)) := List.getElem?_eq_getElem (by omega)
  obtain ⟨v', e1, h1⟩ := DpAll.get a hd
  rw [h] at e1
  cases e1
  exact ⟨_, hd, h1⟩
theorem DpAll.app {K : PySem.W.Frag} {H : Hp} : ∀ {vs : List V} {ds : List PyData} {ws : List V} {es : List PyData}, DpAll K H vs ds → DpAll K H ws es → DpAll K H (vs ++ ws) (ds ++ es)
  | _, _, _, _, .nil, b => b
  | _, _, _, _, .cons h a, b => .cons h (DpAll.app a b)
theorem DpAll.take {K : PySem.W.Frag} {H : Hp} : ∀ {vs : List V} {ds : List PyData} (n : Nat), DpAll K H vs ds → DpAll K H (vs.take n) (ds.take n)
  | _, _, 0, _ => .nil
  | _, _, _ + 1, .nil => .nil
  | _, _, n + 1, .cons h a => .cons h (DpAll.take n a)
theorem DpAll.drop {K : PySem.W.Frag} {H : Hp} : ∀ {vs : List V} {ds : List PyData} (n : Nat), DpAll K H vs ds → DpAll K H (vs.drop n) (ds.drop n)
  | _, _, 0, a => a
  | _, _, _ + 1, .nil => .nil
  | _, _, n + 1, .cons h a => DpAll.drop n a
theorem DpAll.set {K : PySem.W.Frag} {H : Hp} {v : V} {d : PyData} (hv : Dp K H v d) : ∀ {vs : List V} {ds : List PyData} (n : Nat), DpAll K H vs ds → DpAll K H (vs.set n v) (ds.set n d)
  | _, _, _, .nil => .nil
  | _, _, 0, .cons h a => .cons hv a
  | _, _, n + 1, .cons h a => .cons h (DpAll.set hv n a)
theorem DpAll.erase {K : PySem.W.Frag} {H : Hp} : ∀ {vs : List V} {ds : List PyData} (n : Nat), DpAll K H vs ds → DpAll K H (vs.eraseIdx n) (ds.eraseIdx n)
  | _, _, _, .nil => .nil
  | _, _, 0, .cons h a => a
  | _, _, n + 1, .cons h a => .cons h (DpAll.erase n a)
theorem Dp.int_inv {K : PySem.W.Frag} {H : Hp} {v : V} {i : Int} (h : Dp K H v (.int i)) : v = .int i := by cases h; rfl
theorem Dp.bl_inv {K : PySem.W.Frag} {H : Hp} {v : V} {i : Bool} (h : Dp K H v (.bool i)) : v = .bl i := by cases h; rfl
theorem Dp.str_inv {K : PySem.W.Frag} {H : Hp} {v : V} {i : Str} (h : Dp K H v (.str i)) : v = .str i := by cases h; rfl
theorem Dp.non_inv {K : PySem.W.Frag} {H : Hp} {v : V} (h : Dp K H v .none) : v = .non := by cases h; rfl
theorem Dp.tup_inv {K : PySem.W.Frag} {H : Hp} {v : V} {ds : List PyData} (h : Dp K H v (.tuple ds)) : ∃ a xs, v = .ref a ∧ SqT K H a xs ∧ DpAll K H xs ds := by
  cases h with
  | tup h a => exact ⟨_, _, rfl, h, a⟩
theorem Dp.lst_inv {K : PySem.W.Frag} {H : Hp} {v : V} {ds : List PyData} (h : Dp K H v (.list ds)) : ∃ a xs, v = .ref a ∧ SqL K H a xs ∧ DpAll K H xs ds := by
  cases h with
  | lst h a => exact ⟨_, _, rfl, h, a⟩

def hide (as : List Addr) (H : Hp) : Hp := fun b => if b ∈ as then none else H b
theorem hide_ex (as : List Addr) (H : Hp) : Ex (hide as H) H := fun a o h => by
  unfold hide at h
  split at h
  · cases h
  · exact h
theorem hide_nil (H : Hp) : hide [] H = H := by funext b; simp [hide]
theorem hide_in {as : List Addr} {H : Hp} {a : Addr} (h : a ∈ as) : hide as H a = none := by simp [hide, h]
theorem hide_out {as : List Addr} {H : Hp} {a : Addr} (h : a ∉ as) : hide as H a = H a := by simp [hide, h]
/-- the hidden addresses are tracked: no new object comes to stand there -/
def HsOk (hs : List Addr) (H : Hp) : Prop := ∀ a ∈ hs, H a ≠ none
theorem hide_mono {hs : List Addr} {H H' : Hp} (e : Ex H H') : Ex (hide hs H) (hide hs H') := fun a o h => by
  by_cases ha : a ∈ hs
  · rw [hide_in ha] at h; cases h
  · rw [hide_out ha] at h ⊢
    exact e a o h
theorem HsOk.mono {hs : List Addr} {H H' : Hp} (e : Ex H H') (h : HsOk hs H) : HsOk hs H' := fun a ha z => by
  cases q : H a with
  | none => exact h a ha q
  | some o =>
    rw [e a o q] at z
    cases z
theorem HsOk.fresh {hs : List Addr} {H : Hp} {p : Addr} (h : HsOk hs H) (hp : H p = none) : p ∉ hs := fun z => h p z hp
theorem new_tup {K : PySem.W.Frag} {hs : List Addr} {H : Hp} {p : Addr} {vs : List V} {ds : List PyData} (ok : HsOk hs H) (hp : H p = none) (h : DpAll K (hide hs H) vs ds) : Dp K (hide hs (upd H p (.tup vs))) (.ref p) (.tuple ds) := by
  refine .tup (Evl.st_of ?_) (DpAll.mono (hide_mono (Ex.new hp)) h)
  rw [hide_out (ok.fresh hp)]
  exact upd_same
theorem new_lst {K : PySem.W.Frag} {hs : List Addr} {H : Hp} {p : Addr} {vs : List V} {ds : List PyData} (ok : HsOk hs H) (hp : H p = none) (h : DpAll K (hide hs H) vs ds) : Dp K (hide hs (upd H p (.lst vs))) (.ref p) (.list ds) := by
  refine .lst (Evl.sq_of ?_) (DpAll.mono (hide_mono (Ex.new hp)) h)
  rw [hide_out (ok.fresh hp)]
  exact upd_same
/-! ### the state: slots, lists that are changed -/
inductive SV where
  | dat (d : PyData)
  | loc (i : Nat)
  | raw (u : V)
  | obj (C : Addr) (fs : List (Str × PyData))
abbrev En := List (Option SV)
abbrev Mem := List (Option (List PyData))
def SVok (K : PySem.W.Frag) (G : Hp) (as : List Addr) (v : V) : SV → Prop
  | .dat d => Dp K G v d
  | .loc i => ∃ a, as[i]? = some a ∧ v = .ref a
  | .raw u => v = u
  | .obj C fs => ∃ a dx vs, v = .ref a ∧ G a = some (.ins C dx vs) ∧ ∀ f d, fs.lookup f = some d → ∃ u, vs.lookup f = some u ∧ Dp K G u d
/-- the addresses of the lists that may still change -/
def hid : List Addr → Mem → List Addr
  | a :: as, some _ :: m => a :: hid as m
  | _ :: as, none :: m => hid as m
  | _, _ => []
theorem hid_sub : ∀ {as : List Addr} {μ : Mem} {a : Addr}, a ∈ hid as μ → a ∈ as
  | b :: as, some _ :: m, a, h => by
    rcases List.mem_cons.mp h with h | h
    · exact h ▸ List.mem_cons_self
    · exact List.mem_cons_of_mem _ (hid_sub h)
  | b :: as, none :: m, a, h => List.mem_cons_of_mem _ (hid_sub (μ := m) h)
  | [], _, _, h => by cases h
  | _ :: _, [], _, h => by cases h
theorem hid_get : ∀ {as : List Addr} {μ : Mem} {i : Nat} {a : Addr} {ds : List PyData}, as[i]? = some a → μ[i]? = some (some ds) → a ∈ hid as μ
  | b :: as, some _ :: m, 0, a, ds, h1, h2 => by
    simp at h1; subst h1
    exact List.mem_cons_self
  | b :: as, none :: m, 0, a, ds, h1, h2 => by simp at h2
  | b :: as, some _ :: m, i + 1, a, ds, h1, h2 => List.mem_cons_of_mem _ (hid_get (i := i) (ds := ds) (by simpa using h1) (by simpa using h2))
  | b :: as, none :: m, i + 1, a, ds, h1, h2 => hid_get (μ := m) (i := i) (ds := ds) (by simpa using h1) (by simpa using h2)
  | [], _, _, _, _, h1, _ => by simp at h1
  | _ :: _, [], _, _, _, _, h2 => by simp at h2
theorem hid_of : ∀ {as : List Addr} {μ : Mem} {a : Addr}, a ∈ hid as μ → ∃ (i : Nat) (ds : List PyData), as[i]? = some a ∧ μ[i]? = some (some ds)
  | b :: as, some ds :: m, a, h => by
    rcases List.mem_cons.mp h with h | h
    · exact ⟨0, ds, by simp [h], by simp⟩
    · obtain ⟨i, es, h1, h2⟩ := hid_of h
      exact ⟨i + 1, es, by simpa using h1, by simpa using h2⟩
  | b :: as, none :: m, a, h => by
    obtain ⟨i, es, h1, h2⟩ := hid_of (μ := m) h
    exact ⟨i + 1, es, by simpa using h1, by simpa using h2⟩
  | [], _, _, h => by cases h
  | _ :: _, [], _, h => by cases h
/-- a list's content is changed: the same is hidden -/
theorem hid_set : ∀ {as : List Addr} {μ : Mem} {i : Nat} {ds es : List PyData}, μ[i]? = some (some ds) → hid as (μ.set i (some es)) = hid as μ
  | b :: as, some _ :: m, 0, ds, es, h => rfl
  | b :: as, none :: m, 0, ds, es, h => by simp at h
  | b :: as, some _ :: m, i + 1, ds, es, h => by
    show b :: hid as (m.set i (some es)) = b :: hid as m
    rw [hid_set (ds := ds) (by simpa using h)]
  | b :: as, none :: m, i + 1, ds, es, h => by
    show hid as (m.set i (some es)) = hid as m
    rw [hid_set (ds := ds) (by simpa using h)]
  | [], _, _, _, _, _ => by simp [hid]
  | _ :: _, [], _, _, _, h => by simp at h
theorem hid_app : ∀ {as : List Addr} {μ : Mem} {p : Addr} {ds : List PyData}, as.length = μ.length → hid (as ++ [p]) (μ ++ [some ds]) = hid as μ ++ [p]
  | [], [], p, ds, h => rfl
  | b :: as, some _ :: m, p, ds, h => by
    show b :: hid (as ++ [p]) (m ++ [some ds]) = b :: hid as m ++ [p]
    rw [hid_app (by simpa using h)]; rfl
  | b :: as, none :: m, p, ds, h => by
    show hid (as ++ [p]) (m ++ [some ds]) = hid as m ++ [p]
    exact hid_app (by simpa using h)
  | [], _ :: _, _, _, h => by simp at h
  | _ :: _, [], _, _, h => by simp at h
structure MemOk (K : PySem.W.Frag) (hs as : List Addr) (H : Hp) (μ : Mem) : Prop where
  len : as.length = μ.length
  nd : as.Nodup
  tr : ∀ a ∈ as, H a ≠ none
  ho : HsOk hs H
  ap : ∀ (i : Nat) (a : Addr), as[i]? = some a → 0 < i → a ∉ hs
  at_ : ∀ (i : Nat) (a : Addr) (ds : List PyData), as[i]? = some a → μ[i]? = some (some ds) → ∃ ws, H a = some (.lst ws) ∧ DpAll K (hide (hs ++ hid as μ) H) ws ds
theorem MemOk.hso {K : PySem.W.Frag} {hs as : List Addr} {H : Hp} {μ : Mem} (m : MemOk K hs as H μ) : HsOk (hs ++ hid as μ) H := fun a ha => by
  rcases List.mem_append.mp ha with h | h
  · exact m.ho a h
  · exact m.tr a (hid_sub h)
def SlotsOk (K : PySem.W.Frag) (G : Hp) (as : List Addr) (σ : L2.St) (δ : En) : Prop :=
  σ.length = δ.length ∧ ∀ (i : Nat) (s : SV), δ[i]? = some (some s) → ∃ v, σ[i]? = some (some v) ∧ SVok K G as v s
structure StOk (K : PySem.W.Frag) (hs as : List Addr) (H : Hp) (σ : L2.St) (δ : En) (μ : Mem) : Prop where
  sl : SlotsOk K (hide (hs ++ hid as μ) H) as σ δ
  me : MemOk K hs as H μ
/-- a step: what was tracked and may not change stands as it stood -/
structure Nxt (as : List Addr) (μ : Mem) (H : Hp) (as2 : List Addr) (μ2 : Mem) (H2 : Hp) : Prop where
  pre : as <+: as2
  keep : ∀ b o, b ∉ hid as μ → H b = some o → H2 b = some o ∧ b ∉ hid as2 μ2
theorem Nxt.refl (as : List Addr) (μ : Mem) (H : Hp) : Nxt as μ H as μ H := ⟨List.prefix_refl _, fun _ _ h e => ⟨e, h⟩⟩
theorem Nxt.trans {as as1 as2 : List Addr} {μ μ1 μ2 : Mem} {H H1 H2 : Hp} (a : Nxt as μ H as1 μ1 H1) (b : Nxt as1 μ1 H1 as2 μ2 H2) : Nxt as μ H as2 μ2 H2 :=
  ⟨a.pre.trans b.pre, fun c o h e => let ⟨e1, h1⟩ := a.keep c o h e; b.keep c o h1 e1⟩
theorem Nxt.ex {as as2 hs : List Addr} {μ μ2 : Mem} {H H2 : Hp} (n : Nxt as μ H as2 μ2 H2) : Ex (hide (hs ++ hid as μ) H) (hide (hs ++ hid as2 μ2) H2) := fun a o h => by
  by_cases ha : a ∈ hs ++ hid as μ
  · rw [hide_in ha] at h; cases h
  · rw [hide_out ha] at h
    rw [List.mem_append, not_or] at ha
    obtain ⟨e, q⟩ := n.keep a o ha.2 h
    rw [hide_out (by rw [List.mem_append, not_or]; exact ⟨ha.1, q⟩)]
    exact e
theorem SVok.mono {K : PySem.W.Frag} {G G' : Hp} {as as2 : List Addr} {v : V} {s : SV} (e : Ex G G') (p : as <+: as2) (h : SVok K G as v s) : SVok K G' as2 v s := by
  cases s with
  | dat d => exact Dp.mono e h
  | loc i =>
    obtain ⟨a, h1, h2⟩ := h
    obtain ⟨t, rfl⟩ := p
    have hi := (List.getElem?_eq_some_iff.mp h1).1
    exact ⟨a, by rw [List.getElem?_append_left hi]; exact h1, h2⟩
  | raw u => exact h
  | obj C fs =>
    obtain ⟨a, dx, vs, h1, h2, h3⟩ := h
    exact ⟨a, dx, vs, h1, e a _ h2, fun f d q => let ⟨u, q1, q2⟩ := h3 f d q; ⟨u, q1, Dp.mono e q2⟩⟩
theorem SlotsOk.mono {K : PySem.W.Frag} {G G' : Hp} {as as2 : List Addr} {σ : L2.St} {δ : En} (e : Ex G G') (p : as <+: as2) (h : SlotsOk K G as σ δ) : SlotsOk K G' as2 σ δ :=
  ⟨h.1, fun i s q => let ⟨v, h1, h2⟩ := h.2 i s q; ⟨v, h1, h2.mono e p⟩⟩
theorem StOk.next {K : PySem.W.Frag} {hs as as2 : List Addr} {H H2 : Hp} {σ : L2.St} {δ : En} {μ μ2 : Mem} (h : StOk K hs as H σ δ μ) (n : Nxt as μ H as2 μ2 H2) (m : MemOk K hs as2 H2 μ2) : StOk K hs as2 H2 σ δ μ2 := ⟨h.sl.mono n.ex n.pre, m⟩
theorem SlotsOk.set {K : PySem.W.Frag} {G : Hp} {as : List Addr} {σ : L2.St} {δ : En} {i : Nat} {v : V} {s : SV} (h : SlotsOk K G as σ δ) (hv : SVok K G as v s) : SlotsOk K G as (σ.set i (some v)) (δ.set i (some s)) := by
  refine ⟨by rw [List.length_set, List.length_set]; exact h.1, fun j t e => ?_⟩
  by_cases hj : i = j
  · subst hj
    have hi : i < δ.length := by
      have := (List.getElem?_eq_some_iff.mp e).1
      simpa using this
    rw [List.getElem?_set_self hi] at e
    injection e with e
    injection e with e
    subst e
    exact ⟨v, List.getElem?_set_self (by rw [h.1]; exact hi), hv⟩
  · rw [List.getElem?_set_ne hj] at e ⊢
    exact h.2 j t e
theorem StOk.set {K : PySem.W.Frag} {hs as : List Addr} {H : Hp} {σ : L2.St} {δ : En} {μ : Mem} {i : Nat} {v : V} {s : SV} (h : StOk K hs as H σ δ μ) (hv : SVok K (hide (hs ++ hid as μ) H) as v s) : StOk K hs as H (σ.set i (some v)) (δ.set i (some s)) μ := ⟨h.sl.set hv, h.me⟩
/-- nothing but new objects -/
theorem MemOk.grow {K : PySem.W.Frag} {hs as : List Addr} {H H2 : Hp} {μ : Mem} (e : Ex H H2) (m : MemOk K hs as H μ) : MemOk K hs as H2 μ := by
  refine ⟨m.len, m.nd, fun a ha => HsOk.mono e m.tr a ha, m.ho.mono e, m.ap, fun i a ds h1 h2 => ?_⟩
  obtain ⟨ws, h3, h4⟩ := m.at_ i a ds h1 h2
  exact ⟨ws, e a _ h3, DpAll.mono (hide_mono e) h4⟩
theorem Nxt.grow {as : List Addr} {μ : Mem} {H H2 : Hp} (e : Ex H H2) : Nxt as μ H as μ H2 := ⟨List.prefix_refl _, fun b o h q => ⟨e b o q, h⟩⟩
/-- a list that may change is changed -/
theorem MemOk.put {K : PySem.W.Frag} {hs as : List Addr} {H : Hp} {μ : Mem} {i : Nat} {a : Addr} {ds es : List PyData} {ws : List V} (m : MemOk K hs as H μ) (h1 : as[i]? = some a) (h2 : μ[i]? = some (some ds)) (h3 : DpAll K (hide (hs ++ hid as μ) H) ws es) :
    MemOk K hs as (upd H a (.lst ws)) (μ.set i (some es)) ∧ Nxt as μ H as (μ.set i (some es)) (upd H a (.lst ws)) := by
  have ha := hid_get h1 h2
  have eh : hid as (μ.set i (some es)) = hid as μ := hid_set h2
  have ex : Ex (hide (hs ++ hid as μ) H) (hide (hs ++ hid as μ) (upd H a (.lst ws))) := fun b o q => by
    by_cases hb : b ∈ hs ++ hid as μ
    · rw [hide_in hb] at q; cases q
    · rw [hide_out hb] at q ⊢
      rw [upd_ne (fun e => hb (by rw [e]; exact List.mem_append_right _ ha))]
      exact q
  have tr : ∀ b, H b ≠ none → upd H a (.lst ws) b ≠ none := fun b q => by
    by_cases e : b = a
    · subst e; rw [upd_same]; exact fun z => by cases z
    · rw [upd_ne e]; exact q
  refine ⟨⟨by rw [List.length_set]; exact m.len, m.nd, fun b hb => tr b (m.tr b hb), fun b hb => tr b (m.ho b hb), m.ap, fun j b fs q1 q2 => ?_⟩, ⟨List.prefix_refl _, fun b o hb q => ?_⟩⟩
  · rw [eh]
    by_cases hj : i = j
    · subst hj
      rw [h1] at q1
      cases q1
      have hi : i < μ.length := (List.getElem?_eq_some_iff.mp h2).1
      rw [List.getElem?_set_self hi] at q2
      injection q2 with q2
      injection q2 with q2
      subst q2
      exact ⟨ws, upd_same, DpAll.mono ex h3⟩
    · rw [List.getElem?_set_ne hj] at q2
      obtain ⟨ws', h4, h5⟩ := m.at_ j b fs q1 q2
      have hne : b ≠ a := fun e => by
        subst e
        exact hj ((List.getElem?_inj (List.getElem?_eq_some_iff.mp h1).1 m.nd).mp (h1.trans q1.symm))
      exact ⟨ws', by rw [upd_ne hne]; exact h4, DpAll.mono ex h5⟩
  · rw [eh]
    refine ⟨?_, hb⟩
    rw [upd_ne (fun e => hb (by rw [e]; exact ha))]
    exact q
/-- a new list that will change -/
theorem MemOk.lay {K : PySem.W.Frag} {hs as : List Addr} {H H2 : Hp} {μ : Mem} {p : Addr} {ds : List PyData} {ws : List V} (m : MemOk K hs as H μ) (e : Ex H H2) (hp : H p = none) (h2 : H2 p = some (.lst ws)) (h3 : DpAll K (hide (hs ++ hid as μ) H) ws ds) :
    MemOk K hs (as ++ [p]) H2 (μ ++ [some ds]) ∧ Nxt as μ H (as ++ [p]) (μ ++ [some ds]) H2 := by
  have eh := hid_app (p := p) (ds := ds) m.len
  have pn : p ∉ as := fun z => m.tr p z hp
  have ex : Ex (hide (hs ++ hid as μ) H) (hide (hs ++ hid (as ++ [p]) (μ ++ [some ds])) H2) := fun b o q => by
    rw [eh]
    by_cases hb : b ∈ hs ++ hid as μ
    · rw [hide_in hb] at q; cases q
    · rw [hide_out hb] at q
      have : b ∉ hs ++ (hid as μ ++ [p]) := by
        intro z
        rw [← List.append_assoc] at z
        rcases List.mem_append.mp z with z | z
        · exact hb z
        · rw [List.mem_singleton.mp z, hp] at q; cases q
      rw [hide_out this]
      exact e b o q
  refine ⟨⟨by simp [m.len], ?_, fun b hb => ?_, m.ho.mono e, fun j b q1 hj => ?_, fun j b fs q1 q2 => ?_⟩, ⟨List.prefix_append _ _, fun b o hb q => ⟨e b o q, ?_⟩⟩⟩
  · rw [List.nodup_append]
    refine ⟨m.nd, by simp, fun a ha b hb => ?_⟩
    rw [List.mem_singleton.mp hb]
    exact fun z => pn (z ▸ ha)
  · rcases List.mem_append.mp hb with hb | hb
    · exact HsOk.mono e m.tr b hb
    · rw [List.mem_singleton.mp hb, h2]; exact fun z => by cases z
  · by_cases hj' : j < as.length
    · rw [List.getElem?_append_left hj'] at q1
      exact m.ap j b q1 hj
    · have hj2 : j = as.length := by
        have := (List.getElem?_eq_some_iff.mp q1).1
        simp at this; omega
      subst hj2
      rw [List.getElem?_append_right (Nat.le_refl _)] at q1
      simp at q1
      subst q1
      exact m.ho.fresh hp
  · by_cases hj : j < as.length
    · rw [List.getElem?_append_left hj] at q1
      rw [List.getElem?_append_left (by rw [← m.len]; exact hj)] at q2
      obtain ⟨ws', h4, h5⟩ := m.at_ j b fs q1 q2
      exact ⟨ws', e b _ h4, DpAll.mono ex h5⟩
    · have hj2 : j = as.length := by
        have := (List.getElem?_eq_some_iff.mp q1).1
        simp at this; omega
      subst hj2
      rw [List.getElem?_append_right (Nat.le_refl _)] at q1
      rw [m.len, List.getElem?_append_right (Nat.le_refl _)] at q2
      simp at q1 q2
      subst q1 q2
      exact ⟨ws, h2, DpAll.mono ex h3⟩
  · rw [eh]
    intro z
    rcases List.mem_append.mp z with z | z
    · exact hb z
    · rw [List.mem_singleton.mp z, hp] at q; cases q
/-- a list that changes no more becomes a datum -/
theorem hid_none : ∀ {as : List Addr} {μ : Mem} {i : Nat} {b : Addr}, b ∈ hid as (μ.set i none) → b ∈ hid as μ
  | c :: as, some _ :: m, 0, b, h => List.mem_cons_of_mem _ h
  | c :: as, none :: m, 0, b, h => h
  | c :: as, some _ :: m, i + 1, b, h => by
    rcases List.mem_cons.mp h with h | h
    · exact h ▸ List.mem_cons_self
    · exact List.mem_cons_of_mem _ (hid_none (μ := m) (i := i) h)
  | c :: as, none :: m, i + 1, b, h => hid_none (μ := m) (i := i) h
  | [], _, _, _, h => by simp [hid] at h
  | _ :: _, [], _, _, h => by simp [hid] at h
theorem hid_gone {as : List Addr} {μ : Mem} {i : Nat} {a : Addr} (nd : as.Nodup) (h1 : as[i]? = some a) : a ∉ hid as (μ.set i none) := fun z => by
  obtain ⟨j, ds, q1, q2⟩ := hid_of z
  have hj : i = j := (List.getElem?_inj (List.getElem?_eq_some_iff.mp h1).1 nd).mp (h1.trans q1.symm)
  subst hj
  have hi : i < μ.length := by
    have := (List.getElem?_eq_some_iff.mp q2).1
    simpa using this
  rw [List.getElem?_set_self hi] at q2
  cases q2
/-- a list that changes no more: a datum from now on -/
theorem MemOk.freeze {K : PySem.W.Frag} {hs as : List Addr} {H : Hp} {μ : Mem} {i : Nat} {ds : List PyData} (m : MemOk K hs as H μ) (hi : 0 < i) (h2 : μ[i]? = some (some ds)) :
    MemOk K hs as H (μ.set i none) ∧ Nxt as μ H as (μ.set i none) H ∧ ∀ a, as[i]? = some a → L2.Dp K (hide (hs ++ hid as (μ.set i none)) H) (.ref a) (.list ds) := by
  have n : Nxt as μ H as (μ.set i none) H := ⟨List.prefix_refl _, fun b o hb q => ⟨q, fun z => hb (hid_none z)⟩⟩
  refine ⟨⟨by rw [List.length_set]; exact m.len, m.nd, m.tr, m.ho, m.ap, fun j b fs q1 q2 => ?_⟩, n, fun a h1 => ?_⟩
  · by_cases hj : i = j
    · subst hj
      rw [List.getElem?_set_self (List.getElem?_eq_some_iff.mp h2).1] at q2
      cases q2
    · rw [List.getElem?_set_ne hj] at q2
      obtain ⟨ws', h4, h5⟩ := m.at_ j b fs q1 q2
      exact ⟨ws', h4, DpAll.mono n.ex h5⟩
  · obtain ⟨ws, h4, h5⟩ := m.at_ i a ds h1 h2
    refine .lst (Evl.sq_of ?_) (DpAll.mono n.ex h5)
    rw [hide_out]
    · exact h4
    · rw [List.mem_append, not_or]
      exact ⟨m.ap i a h1 hi, hid_gone m.nd h1⟩
end K79
end
section
set_option Elab.async false
set_option linter.all false
set_option maxRecDepth 100000
namespace K79
open PySem PySem.Spec PyProof.Rows L2
open Evl (Ex)
/-! ### contexts -/
structure Ctx where
  P : Program
  w : World
  K : PySem.W.Frag
  mg : Str → Option Value
  base : Heap
  k : Nat
  N : List Str
  sc : Scope
  fn : Str → Bool
structure InF (C : Ctx) (X : Cx) : Prop where
  prog : X.prog = C.P
  w : X.w = C.w
  K : X.K = C.K
  mg : X.mg = C.mg
  base : X.base = C.base
  N : X.N = C.N
  sc : X.env.scope = C.sc
  fn : X.fn = C.fn
  calm : X.calm = true
  room : Room C.k X.A
  xe : X.xe = fun _ _ => False
def Ctx.blk (C : Ctx) (scope : Scope) : Ctx := { C with sc := relS scope C.sc, fn := fun x => scope.names.lookup x == some .cell }
theorem InF.blk {C : Ctx} {X : Cx} (h : InF C X) (scope : Scope) (s : Shared) (H : Hp) (A : Addr) (cl : List (Str × Addr)) (fp : List Addr) : InF (C.blk scope) (X.blk s H scope (compEnvC scope cl A X.env) fp) := by
  refine ⟨h.prog, h.w, h.K, h.mg, h.base, h.N, ?_, rfl, h.calm, h.room, rfl⟩
  show relS scope X.env.scope = relS scope C.sc
  rw [h.sc]
/-! ### what is wanted ahead -/
def WE (C : Ctx) (e : Expr) : TE := fun σ H Q => ∃ t, (∀ X, InF C X → PE X e t) ∧ t σ H Q
def WT (C : Ctx) (e : Expr) : TT := fun σ H Q => ∃ t, (∀ X, InF C X → PT X e t) ∧ t σ H Q
def WA (C : Ctx) (es : List Expr) : TA := fun σ H Q => ∃ t, (∀ X, InF C X → PA X es t) ∧ t σ H Q
def WB (C : Ctx) (ss : List Stmt) : TS := fun D σ H => ∃ t, (∀ X, InF C X → PSs X ss t) ∧ t D σ H
variable {C : Ctx} {X : Cx}
theorem we {e : Expr} (hX : InF C X) : PE X e (WE C e) := ⟨fun pins s σ H Q I ⟨t, h, q⟩ => (h X hX).run pins s σ H Q I q⟩
theorem wt {e : Expr} (hX : InF C X) : PT X e (WT C e) := ⟨fun pins s σ H Q I ⟨t, h, q⟩ => (h X hX).run pins s σ H Q I q⟩
theorem wa {es : List Expr} (hX : InF C X) : PA X es (WA C es) := ⟨fun pos pins s σ H Q I ⟨t, h, q⟩ => (h X hX).run pos pins s σ H Q I q⟩
theorem wb {ss : List Stmt} (hX : InF C X) : PSs X ss (WB C ss) := ⟨fun pins s σ H D I ⟨t, h, q⟩ => (h X hX).run pins s σ H D I q⟩
/-! ### judgements over the state -/
/-- the known part of a heap -/
abbrev kn (hs as : List Addr) (μ : Mem) (H : Hp) : Hp := hide (hs ++ hid as μ) H
def JE (C : Ctx) (e : Expr) (δ : En) (μ : Mem) (Φ : SV → Mem → Prop) : Prop := ∀ (hs : List Addr) (σ : L2.St) (H : Hp) (as : List Addr), StOk C.K hs as H σ δ μ → ∀ Q : VK,
  (∀ v H2 s μ2 as2, Nxt as μ H as2 μ2 H2 → MemOk C.K hs as2 H2 μ2 → SVok C.K (kn hs as2 μ2 H2) as2 v s → Φ s μ2 → Q v H2) → WE C e σ H Q
def JT (C : Ctx) (e : Expr) (δ : En) (μ : Mem) (Φ : Bool → Mem → Prop) : Prop := ∀ (hs : List Addr) (σ : L2.St) (H : Hp) (as : List Addr), StOk C.K hs as H σ δ μ → ∀ Q : Bool → Hp → Prop,
  (∀ b H2 μ2 as2, Nxt as μ H as2 μ2 H2 → MemOk C.K hs as2 H2 μ2 → Φ b μ2 → Q b H2) → WT C e σ H Q
/-- several values, kept while the later ones are made -/
def SVs (K : PySem.W.Frag) (G : Hp) (as : List Addr) : List V → List SV → Prop
  | [], [] => True
  | v :: vs, s :: ss => SVok K G as v s ∧ SVs K G as vs ss
  | _, _ => False
theorem SVs.mono {K : PySem.W.Frag} {G G' : Hp} {as as2 : List Addr} (e : Ex G G') (p : as <+: as2) : ∀ {vs : List V} {ss : List SV}, SVs K G as vs ss → SVs K G' as2 vs ss
  | [], [], _ => trivial
  | _ :: _, _ :: _, h => ⟨h.1.mono e p, SVs.mono e p h.2⟩
def JA (C : Ctx) (es : List Expr) (δ : En) (μ : Mem) (Φ : List SV → Mem → Prop) : Prop := ∀ (hs : List Addr) (σ : L2.St) (H : Hp) (as : List Addr), StOk C.K hs as H σ δ μ → ∀ Q : List V → Hp → Prop,
  (∀ vs H2 ss μ2 as2, Nxt as μ H as2 μ2 H2 → MemOk C.K hs as2 H2 μ2 → SVs C.K (kn hs as2 μ2 H2) as2 vs ss → Φ ss μ2 → Q vs H2) → WA C es σ H Q
/-- what is wanted behind a block -/
structure AE where
  nx : En → Mem → Prop
  rt : SV → Mem → Prop
  bk : En → Mem → Prop := fun _ _ => False
  ct : En → Mem → Prop := fun _ _ => False
structure EOk (K : PySem.W.Frag) (hs as : List Addr) (μ : Mem) (H : Hp) (E : AE) (D : Ends) : Prop where
  nx : ∀ σ' H' δ' μ' as', Nxt as μ H as' μ' H' → StOk K hs as' H' σ' δ' μ' → E.nx δ' μ' → D.nx σ' H'
  rt : ∀ v H' s μ' as', Nxt as μ H as' μ' H' → MemOk K hs as' H' μ' → SVok K (kn hs as' μ' H') as' v s → E.rt s μ' → D.rt v H'
  bk : ∀ σ' H' δ' μ' as', Nxt as μ H as' μ' H' → StOk K hs as' H' σ' δ' μ' → E.bk δ' μ' → D.bk σ' H'
  ct : ∀ σ' H' δ' μ' as', Nxt as μ H as' μ' H' → StOk K hs as' H' σ' δ' μ' → E.ct δ' μ' → D.ct σ' H'
theorem EOk.after {K : PySem.W.Frag} {hs as as1 : List Addr} {μ μ1 : Mem} {H H1 : Hp} {E : AE} {D : Ends} (h : EOk K hs as μ H E D) (n : Nxt as μ H as1 μ1 H1) : EOk K hs as1 μ1 H1 E D :=
  ⟨fun _ _ _ _ _ m => h.nx _ _ _ _ _ (n.trans m), fun _ _ _ _ _ m => h.rt _ _ _ _ _ (n.trans m), fun _ _ _ _ _ m => h.bk _ _ _ _ _ (n.trans m), fun _ _ _ _ _ m => h.ct _ _ _ _ _ (n.trans m)⟩
theorem EOk.nx' {K : PySem.W.Frag} {hs as : List Addr} {μ : Mem} {H : Hp} {E : AE} {D : Ends} {N : En → Mem → Prop} {M : L2.St → Hp → Prop} (h : EOk K hs as μ H E D)
    (hN : ∀ σ' H' δ' μ' as', Nxt as μ H as' μ' H' → StOk K hs as' H' σ' δ' μ' → N δ' μ' → M σ' H') : EOk K hs as μ H { E with nx := N } { D with nx := M } := ⟨hN, h.rt, h.bk, h.ct⟩
def JS (C : Ctx) (ss : List Stmt) (δ : En) (μ : Mem) (E : AE) : Prop := ∀ (hs : List Addr) (σ : L2.St) (H : Hp) (as : List Addr), StOk C.K hs as H σ δ μ → ∀ D : Ends, EOk C.K hs as μ H E D → WB C ss D σ H
/-- a datum comes of it, nothing is changed -/
def DE (C : Ctx) (e : Expr) (δ : En) (μ : Mem) (d : PyData) : Prop := ∀ Φ : SV → Mem → Prop, Φ (.dat d) μ → JE C e δ μ Φ
def DT (C : Ctx) (e : Expr) (δ : En) (μ : Mem) (b : Bool) : Prop := ∀ Φ : Bool → Mem → Prop, Φ b μ → JT C e δ μ Φ
def DA (C : Ctx) (es : List Expr) (δ : En) (μ : Mem) (ds : List PyData) : Prop := ∀ Φ : List SV → Mem → Prop, Φ (ds.map .dat) μ → JA C es δ μ Φ
variable {e a b c : Expr} {es : List Expr} {δ : En} {μ : Mem} {Φ Ψ : SV → Mem → Prop} {pos : Pos} {d d1 d2 d3 : PyData} {x : Str}
theorem JE.imp (h : JE C e δ μ Φ) (q : ∀ s μ', Φ s μ' → Ψ s μ') : JE C e δ μ Ψ := fun hs σ H as S Q k => h hs σ H as S Q fun v H2 s μ2 as2 n m sv p => k v H2 s μ2 as2 n m sv (q s μ2 p)
theorem je (h : DE C e δ μ d) (k : Φ (.dat d) μ) : JE C e δ μ Φ := h Φ k
theorem jed (d : PyData) (h : DE C e δ μ d) (k : Φ (.dat d) μ) : JE C e δ μ Φ := h Φ k
theorem DE.is {d' : PyData} (h : DE C e δ μ d) (q : d = d') : DE C e δ μ d' := q ▸ h
theorem DT.is {b b' : Bool} (h : DT C e δ μ b) (q : b = b') : DT C e δ μ b' := q ▸ h
/-! ### names, constants -/
theorem je_name (i : Nat) {s : SV} (hN : C.N[i]? = some x := by rfl) (hv : Vis C.sc x := by first | exact Or.inl rfl | exact Or.inr (Or.inl rfl) | exact Or.inr (Or.inr rfl)) (hs : δ[i]? = some (some s) := by rfl)
    (hd : (x == ("__debug__" : Str)) = false := by decide) (hcd : (x == ("__classdict__" : Str)) = false := by decide) (h : Φ s μ) : JE C (.Name x pos) δ μ Φ := fun hs' σ H as S Q k => by
  obtain ⟨v, e1, sv⟩ := S.sl.2 i s hs
  exact ⟨tVar i, fun X hX => pe_var (by rw [hX.N]; exact hN) (by unfold Vis; rw [hX.sc]; exact hv) hd hcd, v, e1, k v H s μ as (Nxt.refl _ _ _) S.me sv h⟩
theorem de_name (i : Nat) (hN : C.N[i]? = some x := by rfl) (hv : Vis C.sc x := by first | exact Or.inl rfl | exact Or.inr (Or.inl rfl) | exact Or.inr (Or.inr rfl)) (hs : δ[i]? = some (some (.dat d)) := by rfl)
    (hd : (x == ("__debug__" : Str)) = false := by decide) (hcd : (x == ("__classdict__" : Str)) = false := by decide) : DE C (.Name x pos) δ μ d := fun Φ h => je_name i hN hv hs hd hcd h
theorem de_val {v : V} (hp : ∀ X, InF C X → PE X e (tC v)) (hd : ∀ G, Dp C.K G v d) : DE C e δ μ d := fun Φ h hs σ H as S Q k => ⟨tC v, hp, k v H (.dat d) μ as (Nxt.refl _ _ _) S.me (hd _) h⟩
theorem de_int {i : Int} {j} : DE C (.Constant (.int i) j pos) δ μ (.int i) := de_val (fun X _ => pe_int) fun _ => .int i
theorem de_bl {i : Bool} {j} : DE C (.Constant (.bool i) j pos) δ μ (.bool i) := de_val (fun X _ => pe_bl) fun _ => .bl i
theorem de_str {i : Str} {j} : DE C (.Constant (.str i) j pos) δ μ (.str i) := de_val (fun X _ => pe_str) fun _ => .str i
theorem de_non {j} : DE C (.Constant .none j pos) δ μ .none := de_val (fun X _ => pe_non) fun _ => .non
def GlC (C : Ctx) (x : Str) : Prop := C.sc.names.lookup x = some .globalImplicit
theorem gl (hX : InF C X) (h : GlC C x) : Gl X x := by
  show X.env.scope.names.lookup x = some .globalImplicit
  rw [hX.sc]; exact h
/-- a datum that the module keeps -/
def CnK (K : PySem.W.Frag) (mg : Str → Option Value) (x : Str) (d : PyData) : Prop := ∃ (v : V) (u : Value), mg x = some u ∧ RelV v u ∧ ∀ G, Dp K G v d
abbrev Cn (C : Ctx) (x : Str) (d : PyData) : Prop := CnK C.K C.mg x d
theorem de_glob (h : Cn C x d) (hg : GlC C x := by rfl) (hd : (x == ("__debug__" : Str)) = false := by decide) : DE C (.Name x pos) δ μ d := by
  obtain ⟨v, u, h1, h2, h3⟩ := h
  exact de_val (fun X hX => pe_glob (gl hX hg) (by rw [hX.mg]; exact h1) h2 hd) h3
/-! ### operations on data -/
def OpD (K : PySem.W.Frag) (r : R2) (d1 d2 d3 : PyData) : Prop := ∀ (hs : List Addr) (H : Hp) (x y : V) (Q : VK), HsOk hs H → Dp K (hide hs H) x d1 → Dp K (hide hs H) y d2 → (∀ v H', Ex H H' → Dp K (hide hs H') v d3 → Q v H') → r x y H Q
def UnD (K : PySem.W.Frag) (r : V → Hp → VK → Prop) (d1 d3 : PyData) : Prop := ∀ (hs : List Addr) (H : Hp) (x : V) (Q : VK), HsOk hs H → Dp K (hide hs H) x d1 → (∀ v H', Ex H H' → Dp K (hide hs H') v d3 → Q v H') → r x H Q
def CaD (K : PySem.W.Frag) (r : List V → Hp → VK → Prop) (ds : List PyData) (d3 : PyData) : Prop := ∀ (hs : List Addr) (H : Hp) (xs : List V) (Q : VK), HsOk hs H → DpAll K (hide hs H) xs ds → (∀ v H', Ex H H' → Dp K (hide hs H') v d3 → Q v H') → r xs H Q
theorem je_two {r : R2} {w : Expr} (hp : ∀ X, InF C X → PE X w (tOp r (WE C a) (WE C b)))
    (h : JE C a δ μ fun s1 μ1 => ∃ d1, s1 = .dat d1 ∧ JE C b δ μ1 fun s2 μ2 => ∃ d2 d3, s2 = .dat d2 ∧ OpD C.K r d1 d2 d3 ∧ Φ (.dat d3) μ2) : JE C w δ μ Φ := fun hs σ H as S Q k =>
  ⟨_, hp, h hs σ H as S _ fun v H1 s1 μ1 as1 n1 m1 sv1 ⟨d1, e1, hb⟩ => by
    subst e1
    exact hb hs σ H1 as1 (S.next n1 m1) _ fun y H2 s2 μ2 as2 n2 m2 sv2 ⟨d2, d3, e2, od, p⟩ => by
      subst e2
      exact od _ H2 v y Q m2.hso (Dp.mono n2.ex sv1) sv2 fun z H3 e3 hz => k z H3 (.dat d3) μ2 as2 ((n1.trans n2).trans (Nxt.grow e3)) (m2.grow e3) hz p⟩
theorem je_op {op : Operator} {r : R2} (hr : ∀ X, InF C X → OpR X (binaryOp op) r)
    (h : JE C a δ μ fun s1 μ1 => ∃ d1, s1 = .dat d1 ∧ JE C b δ μ1 fun s2 μ2 => ∃ d2 d3, s2 = .dat d2 ∧ OpD C.K r d1 d2 d3 ∧ Φ (.dat d3) μ2) : JE C (.BinOp a op b pos) δ μ Φ :=
  je_two (fun X hX => pe_op (hr X hX) (we hX) (we hX)) h
theorem de_two {r : R2} {w : Expr} (hp : ∀ X, InF C X → PE X w (tOp r (WE C a) (WE C b))) (ha : DE C a δ μ d1) (hb : DE C b δ μ d2) (od : OpD C.K r d1 d2 d3) : DE C w δ μ d3 := fun Φ h =>
  je_two hp (ha _ ⟨d1, rfl, hb _ ⟨d2, d3, rfl, od, h⟩⟩)
theorem de_op {op : Operator} {r : R2} (hr : ∀ X, InF C X → OpR X (binaryOp op) r) (ha : DE C a δ μ d1) (hb : DE C b δ μ d2) (od : OpD C.K r d1 d2 d3) : DE C (.BinOp a op b pos) δ μ d3 :=
  de_two (fun X hX => pe_op (hr X hX) (we hX) (we hX)) ha hb od
theorem opI0 {K : PySem.W.Frag} {g : Int → Int → V} {i j : Int} (h : ∀ G, Dp K G (g i j) d3) : OpD K (rI0 g) (.int i) (.int j) d3 := fun hs H x y Q ok h1 h2 k =>
  ⟨i, j, Dp.int_inv h1, Dp.int_inv h2, k _ H (Evl.Ex.refl H) (h _)⟩
theorem opI {K : PySem.W.Frag} {P : Int → Int → Prop} {g : Int → Int → V} {i j : Int} (hc : P i j) (h : ∀ G, Dp K G (g i j) d3) : OpD K (rI P g) (.int i) (.int j) d3 := fun hs H x y Q ok h1 h2 k =>
  ⟨i, j, Dp.int_inv h1, Dp.int_inv h2, hc, k _ H (Evl.Ex.refl H) (h _)⟩
variable {i j : Int}
theorem de_add (ha : DE C a δ μ (.int i)) (hb : DE C b δ μ (.int j)) : DE C (.BinOp a .Add b pos) δ μ (.int (i + j)) := de_op (fun _ _ => op_add) ha hb (opI0 fun _ => .int _)
theorem de_sub (ha : DE C a δ μ (.int i)) (hb : DE C b δ μ (.int j)) : DE C (.BinOp a .Sub b pos) δ μ (.int (i - j)) := de_op (fun _ _ => op_sub) ha hb (opI0 fun _ => .int _)
theorem de_neg (ha : DE C a δ μ (.int i)) : DE C (.UnaryOp .USub a pos) δ μ (.int (-i)) := fun Φ h hs σ H as S Q k =>
  ⟨tUn _ (WE C a), fun X hX => pe_un un_neg (we hX), ha (fun s μ1 => s = .dat (.int i) ∧ μ1 = μ) ⟨rfl, rfl⟩ hs σ H as S _ fun v H2 s μ2 as2 n m sv ⟨e1, e2⟩ => by
    subst e1 e2
    exact ⟨i, Dp.int_inv sv, k _ H2 (.dat (.int (-i))) _ as2 n m (.int _) h⟩⟩
/-! ### comparisons -/
theorem de_cmp {op : CmpOp} {r : R2} (hr : ∀ X, InF C X → OpR X (compareOp op) r) (hn : behindInMarks op b = false) (ha : DE C a δ μ d1) (hb : DE C b δ μ d2) (od : OpD C.K r d1 d2 d3) : DE C (.Compare a [op] [b] pos) δ μ d3 :=
  de_two (fun X hX => pe_cmpR (hr X hX) (we hX) (we hX) hn) ha hb od
theorem opEqD {K : PySem.W.Frag} (s1 : SeqAt.shaped d1 = true) (s2 : SeqAt.shaped d2 = true) : OpD K (rEqD K) d1 d2 (.bool (PyData.eqv d1 d2)) := fun hs H x y Q ok h1 h2 k =>
  ⟨d1, d2, Dp.mono (hide_ex _ _) h1, Dp.mono (hide_ex _ _) h2, s1, s2, k _ H (Evl.Ex.refl H) (.bl _)⟩
theorem opNeD {K : PySem.W.Frag} (s1 : SeqAt.shaped d1 = true) (s2 : SeqAt.shaped d2 = true) : OpD K (rNeD K) d1 d2 (.bool (!PyData.eqv d1 d2)) := fun hs H x y Q ok h1 h2 k =>
  ⟨d1, d2, Dp.mono (hide_ex _ _) h1, Dp.mono (hide_ex _ _) h2, s1, s2, k _ H (Evl.Ex.refl H) (.bl _)⟩
theorem eqR (hX : InF C X) : OpR X (compareOp .Eq) (rEqD C.K) := by rw [← hX.K]; exact op_eqD hX.room.units
theorem neR (hX : InF C X) : OpR X (compareOp .NotEq) (rNeD C.K) := by rw [← hX.K]; exact op_neD hX.room.units
theorem de_eq (ha : DE C a δ μ d1) (hb : DE C b δ μ d2) (s1 : SeqAt.shaped d1 = true := by rfl) (s2 : SeqAt.shaped d2 = true := by rfl) : DE C (.Compare a [.Eq] [b] pos) δ μ (.bool (PyData.eqv d1 d2)) :=
  de_cmp (fun _ hX => eqR hX) (nobehind _ (by decide) (by decide)) ha hb (opEqD s1 s2)
theorem de_ne (ha : DE C a δ μ d1) (hb : DE C b δ μ d2) (s1 : SeqAt.shaped d1 = true := by rfl) (s2 : SeqAt.shaped d2 = true := by rfl) : DE C (.Compare a [.NotEq] [b] pos) δ μ (.bool (!PyData.eqv d1 d2)) :=
  de_cmp (fun _ hX => neR hX) (nobehind _ (by decide) (by decide)) ha hb (opNeD s1 s2)
theorem de_lt (ha : DE C a δ μ (.int i)) (hb : DE C b δ μ (.int j)) : DE C (.Compare a [.Lt] [b] pos) δ μ (.bool (decide (i < j))) := de_cmp (fun _ _ => op_lt) (nobehind _ (by decide) (by decide)) ha hb (opI0 fun _ => .bl _)
theorem de_le (ha : DE C a δ μ (.int i)) (hb : DE C b δ μ (.int j)) : DE C (.Compare a [.LtE] [b] pos) δ μ (.bool (decide (i ≤ j))) := de_cmp (fun _ _ => op_le) (nobehind _ (by decide) (by decide)) ha hb (opI0 fun _ => .bl _)
theorem de_gt (ha : DE C a δ μ (.int i)) (hb : DE C b δ μ (.int j)) : DE C (.Compare a [.Gt] [b] pos) δ μ (.bool (decide (j < i))) := de_cmp (fun _ _ => op_gt) (nobehind _ (by decide) (by decide)) ha hb (opI0 fun _ => .bl _)
theorem de_ge (ha : DE C a δ μ (.int i)) (hb : DE C b δ μ (.int j)) : DE C (.Compare a [.GtE] [b] pos) δ μ (.bool (decide (j ≤ i))) := de_cmp (fun _ _ => op_ge) (nobehind _ (by decide) (by decide)) ha hb (opI0 fun _ => .bl _)
/-! ### tests -/
/-- a bool as a test -/
theorem jt_val {Φ : Bool → Mem → Prop} (h : JE C e δ μ fun s μ1 => ∃ k, s = .dat (.bool k) ∧ Φ k μ1) (he : ∀ env whole, isTrue e env whole = (do let v ← whole; standAt e.pos; holding [v] (truthy v)) := by intro _ _; rfl) : JT C e δ μ Φ := fun hs σ H as S Q k =>
  ⟨tB (WE C e), fun X hX => pt_val (we hX) (he _), h hs σ H as S _ fun v H2 s μ2 as2 n m sv ⟨q, e1, p⟩ => by
    subst e1
    exact ⟨q, Dp.bl_inv sv, k q H2 μ2 as2 n m p⟩⟩
theorem dt_val {k : Bool} (h : DE C e δ μ (.bool k)) (he : ∀ env whole, isTrue e env whole = (do let v ← whole; standAt e.pos; holding [v] (truthy v)) := by intro _ _; rfl) : DT C e δ μ k := fun Φ q => jt_val (h _ ⟨k, rfl, q⟩) he
theorem jt_cmp {op : CmpOp} {r : R2} {Φ : Bool → Mem → Prop} (hr : ∀ X, InF C X → OpR X (compareOp op) r) (hn : behindInMarks op b = false)
    (h : JE C a δ μ fun s1 μ1 => ∃ d1, s1 = .dat d1 ∧ JE C b δ μ1 fun s2 μ2 => ∃ d2 k, s2 = .dat d2 ∧ OpD C.K r d1 d2 (.bool k) ∧ Φ k μ2) : JT C (.Compare a [op] [b] pos) δ μ Φ := fun hs σ H as S Q k =>
  ⟨_, fun X hX => pt_cmpR (hr X hX) (we hX) (we hX) hn, h hs σ H as S _ fun v H1 s1 μ1 as1 n1 m1 sv1 ⟨d1, e1, hb⟩ => by
    subst e1
    exact hb hs σ H1 as1 (S.next n1 m1) _ fun y H2 s2 μ2 as2 n2 m2 sv2 ⟨d2, q, e2, od, p⟩ => by
      subst e2
      exact od _ H2 v y _ m2.hso (Dp.mono n2.ex sv1) sv2 fun z H3 e3 hz => ⟨q, Dp.bl_inv hz, k q H3 μ2 as2 ((n1.trans n2).trans (Nxt.grow e3)) (m2.grow e3) p⟩⟩
theorem dt_cmp {op : CmpOp} {r : R2} {k : Bool} (hr : ∀ X, InF C X → OpR X (compareOp op) r) (hn : behindInMarks op b = false) (ha : DE C a δ μ d1) (hb : DE C b δ μ d2) (od : OpD C.K r d1 d2 (.bool k)) : DT C (.Compare a [op] [b] pos) δ μ k := fun Φ q =>
  jt_cmp hr hn (ha _ ⟨d1, rfl, hb _ ⟨d2, k, rfl, od, q⟩⟩)
theorem dt_eq (ha : DE C a δ μ d1) (hb : DE C b δ μ d2) (s1 : SeqAt.shaped d1 = true := by rfl) (s2 : SeqAt.shaped d2 = true := by rfl) : DT C (.Compare a [.Eq] [b] pos) δ μ (PyData.eqv d1 d2) :=
  dt_cmp (fun _ hX => eqR hX) (nobehind _ (by decide) (by decide)) ha hb (opEqD s1 s2)
theorem dt_ne (ha : DE C a δ μ d1) (hb : DE C b δ μ d2) (s1 : SeqAt.shaped d1 = true := by rfl) (s2 : SeqAt.shaped d2 = true := by rfl) : DT C (.Compare a [.NotEq] [b] pos) δ μ (!PyData.eqv d1 d2) :=
  dt_cmp (fun _ hX => neR hX) (nobehind _ (by decide) (by decide)) ha hb (opNeD s1 s2)
theorem dt_lt (ha : DE C a δ μ (.int i)) (hb : DE C b δ μ (.int j)) : DT C (.Compare a [.Lt] [b] pos) δ μ (decide (i < j)) := dt_cmp (fun _ _ => op_lt) (nobehind _ (by decide) (by decide)) ha hb (opI0 fun _ => .bl _)
theorem dt_le (ha : DE C a δ μ (.int i)) (hb : DE C b δ μ (.int j)) : DT C (.Compare a [.LtE] [b] pos) δ μ (decide (i ≤ j)) := dt_cmp (fun _ _ => op_le) (nobehind _ (by decide) (by decide)) ha hb (opI0 fun _ => .bl _)
theorem dt_gt (ha : DE C a δ μ (.int i)) (hb : DE C b δ μ (.int j)) : DT C (.Compare a [.Gt] [b] pos) δ μ (decide (j < i)) := dt_cmp (fun _ _ => op_gt) (nobehind _ (by decide) (by decide)) ha hb (opI0 fun _ => .bl _)
theorem dt_ge (ha : DE C a δ μ (.int i)) (hb : DE C b δ μ (.int j)) : DT C (.Compare a [.GtE] [b] pos) δ μ (decide (j ≤ i)) := dt_cmp (fun _ _ => op_ge) (nobehind _ (by decide) (by decide)) ha hb (opI0 fun _ => .bl _)
/-! and, or, not: JW are tests whatever their whole -/
def WW (C : Ctx) (e : Expr) : TT := fun σ H Q => ∃ t, (∀ X, InF C X → PW X e t) ∧ t σ H Q
theorem ww {e : Expr} (hX : InF C X) : PW X e (WW C e) := ⟨fun wh pins s σ H Q I ⟨t, h, q⟩ => (h X hX).run wh pins s σ H Q I q⟩
def JW (C : Ctx) (e : Expr) (δ : En) (μ : Mem) (Φ : Bool → Mem → Prop) : Prop := ∀ (hs : List Addr) (σ : L2.St) (H : Hp) (as : List Addr), StOk C.K hs as H σ δ μ → ∀ Q : Bool → Hp → Prop,
  (∀ b H2 μ2 as2, Nxt as μ H as2 μ2 H2 → MemOk C.K hs as2 H2 μ2 → Φ b μ2 → Q b H2) → WW C e σ H Q
theorem JW.jt {Φ : Bool → Mem → Prop} (h : JW C e δ μ Φ) : JT C e δ μ Φ := fun hs σ H as S Q k => ⟨WW C e, fun X hX => (ww hX).pt, h hs σ H as S Q k⟩
theorem jw_and1 {Φ : Bool → Mem → Prop} (h : JT C a δ μ Φ) : JW C (.BoolOp .And [a] pos) δ μ Φ := fun hs σ H as S Q k => ⟨WT C a, fun X hX => pw_and1 (wt hX), h hs σ H as S Q k⟩
theorem jw_or1 {Φ : Bool → Mem → Prop} (h : JT C a δ μ Φ) : JW C (.BoolOp .Or [a] pos) δ μ Φ := fun hs σ H as S Q k => ⟨WT C a, fun X hX => pw_or1 (wt hX), h hs σ H as S Q k⟩
theorem jw_and {Φ : Bool → Mem → Prop} (h : JT C a δ μ fun q μ1 => (q = true → JW C (.BoolOp .And (b :: es) pos) δ μ1 Φ) ∧ (q = false → Φ false μ1)) : JW C (.BoolOp .And (a :: b :: es) pos) δ μ Φ := fun hs σ H as S Q k =>
  ⟨tAnd (WT C a) (WW C _), fun X hX => pw_and (wt hX) (ww hX), h hs σ H as S _ fun q H1 μ1 as1 n1 m1 ⟨h1, h2⟩ => by
    cases q with
    | true =>
      rw [if_pos rfl]
      exact h1 rfl hs σ H1 as1 (S.next n1 m1) Q fun q2 H2 μ2 as2 n2 m2 p => k q2 H2 μ2 as2 (n1.trans n2) m2 p
    | false =>
      rw [if_neg Bool.false_ne_true]
      exact k false H1 μ1 as1 n1 m1 (h2 rfl)⟩
theorem jw_or {Φ : Bool → Mem → Prop} (h : JT C a δ μ fun q μ1 => (q = false → JW C (.BoolOp .Or (b :: es) pos) δ μ1 Φ) ∧ (q = true → Φ true μ1)) : JW C (.BoolOp .Or (a :: b :: es) pos) δ μ Φ := fun hs σ H as S Q k =>
  ⟨tOr (WT C a) (WW C _), fun X hX => pw_or (wt hX) (ww hX), h hs σ H as S _ fun q H1 μ1 as1 n1 m1 ⟨h1, h2⟩ => by
    cases q with
    | false =>
      rw [if_neg Bool.false_ne_true]
      exact h1 rfl hs σ H1 as1 (S.next n1 m1) Q fun q2 H2 μ2 as2 n2 m2 p => k q2 H2 μ2 as2 (n1.trans n2) m2 p
    | true =>
      rw [if_pos rfl]
      exact k true H1 μ1 as1 n1 m1 (h2 rfl)⟩
def DW (C : Ctx) (e : Expr) (δ : En) (μ : Mem) (b : Bool) : Prop := ∀ Φ : Bool → Mem → Prop, Φ b μ → JW C e δ μ Φ
theorem DW.dt {k : Bool} (h : DW C e δ μ k) : DT C e δ μ k := fun Φ q => (h Φ q).jt
variable {p q : Bool}
theorem dw_and1 (h : DT C a δ μ p) : DW C (.BoolOp .And [a] pos) δ μ p := fun Φ k => jw_and1 (h Φ k)
theorem dw_or1 (h : DT C a δ μ p) : DW C (.BoolOp .Or [a] pos) δ μ p := fun Φ k => jw_or1 (h Φ k)
theorem dw_and (h1 : DT C a δ μ p) (h2 : p = true → DW C (.BoolOp .And (b :: es) pos) δ μ q) : DW C (.BoolOp .And (a :: b :: es) pos) δ μ (p && q) := fun Φ k =>
  jw_and (h1 _ ⟨fun e => h2 e Φ (by rw [e] at k; exact k), fun e => by rw [e] at k; exact k⟩)
theorem dw_or (h1 : DT C a δ μ p) (h2 : p = false → DW C (.BoolOp .Or (b :: es) pos) δ μ q) : DW C (.BoolOp .Or (a :: b :: es) pos) δ μ (p || q) := fun Φ k =>
  jw_or (h1 _ ⟨fun e => h2 e Φ (by rw [e] at k; exact k), fun e => by rw [e] at k; exact k⟩)
theorem dt_and (h1 : DT C a δ μ p) (h2 : p = true → DT C b δ μ q) : DT C (.BoolOp .And [a, b] pos) δ μ (p && q) := (dw_and h1 fun e => dw_and1 (h2 e)).dt
theorem dt_or (h1 : DT C a δ μ p) (h2 : p = false → DT C b δ μ q) : DT C (.BoolOp .Or [a, b] pos) δ μ (p || q) := (dw_or h1 fun e => dw_or1 (h2 e)).dt
theorem jt_not {Φ : Bool → Mem → Prop} (h : JT C a δ μ fun q μ1 => Φ (!q) μ1) : JT C (.UnaryOp .Not a pos) δ μ Φ := fun hs σ H as S Q k =>
  ⟨tNot (WT C a), fun X hX => pt_not (wt hX), h hs σ H as S _ fun q H1 μ1 as1 n1 m1 r => k (!q) H1 μ1 as1 n1 m1 r⟩
theorem dt_not (h : DT C a δ μ p) : DT C (.UnaryOp .Not a pos) δ μ (!p) := fun Φ k => jt_not (h _ k)
/-! .. as values -/
theorem de_one {op} (h : DE C a δ μ d) : DE C (.BoolOp op [a] pos) δ μ d := fun Φ k hs σ H as S Q q => ⟨WE C a, fun X hX => pe_one (we hX), h Φ k hs σ H as S Q q⟩
theorem de_and (h1 : DE C a δ μ (.bool p)) (h2 : p = true → DE C (.BoolOp .And (b :: es) pos) δ μ (.bool q)) : DE C (.BoolOp .And (a :: b :: es) pos) δ μ (.bool (p && q)) := fun Φ k hs σ H as S Q k2 =>
  ⟨tAndV (WE C a) (WE C _), fun X hX => pe_and (we hX) (we hX), h1 (fun s μ1 => s = .dat (.bool p) ∧ μ1 = μ) ⟨rfl, rfl⟩ hs σ H as S _ fun v H1 s1 μ1 as1 n1 m1 sv ⟨e1, e2⟩ => by
    subst e1 e2
    refine ⟨p, Dp.bl_inv sv, ?_⟩
    cases p with
    | true =>
      rw [if_pos rfl]
      exact h2 rfl Φ k hs σ H1 as1 (S.next n1 m1) Q fun y H2 s2 μ2 as2 n2 m2 sv2 r => k2 y H2 s2 μ2 as2 (n1.trans n2) m2 sv2 r
    | false =>
      rw [if_neg Bool.false_ne_true]
      exact k2 _ H1 (.dat (.bool false)) _ as1 n1 m1 (.bl _) k⟩
theorem de_or (h1 : DE C a δ μ (.bool p)) (h2 : p = false → DE C (.BoolOp .Or (b :: es) pos) δ μ (.bool q)) : DE C (.BoolOp .Or (a :: b :: es) pos) δ μ (.bool (p || q)) := fun Φ k hs σ H as S Q k2 =>
  ⟨tOrV (WE C a) (WE C _), fun X hX => pe_or (we hX) (we hX), h1 (fun s μ1 => s = .dat (.bool p) ∧ μ1 = μ) ⟨rfl, rfl⟩ hs σ H as S _ fun v H1 s1 μ1 as1 n1 m1 sv ⟨e1, e2⟩ => by
    subst e1 e2
    refine ⟨p, Dp.bl_inv sv, ?_⟩
    cases p with
    | false =>
      rw [if_neg Bool.false_ne_true]
      exact h2 rfl Φ k hs σ H1 as1 (S.next n1 m1) Q fun y H2 s2 μ2 as2 n2 m2 sv2 r => k2 y H2 s2 μ2 as2 (n1.trans n2) m2 sv2 r
    | true =>
      rw [if_pos rfl]
      exact k2 _ H1 (.dat (.bool true)) _ as1 n1 m1 (.bl _) k⟩
theorem de_not (h1 : DE C a δ μ (.bool p)) : DE C (.UnaryOp .Not a pos) δ μ (.bool (!p)) := fun Φ k hs σ H as S Q k2 =>
  ⟨tNotV (WE C a), fun X hX => pe_not (we hX), h1 (fun s μ1 => s = .dat (.bool p) ∧ μ1 = μ) ⟨rfl, rfl⟩ hs σ H as S _ fun v H1 s1 μ1 as1 n1 m1 sv ⟨e1, e2⟩ => by
    subst e1 e2
    exact ⟨p, Dp.bl_inv sv, k2 _ H1 (.dat (.bool (!p))) _ as1 n1 m1 (.bl _) k⟩⟩
theorem je_if (h : JT C c δ μ fun q μ1 => (q = true → JE C a δ μ1 Φ) ∧ (q = false → JE C b δ μ1 Φ)) : JE C (.IfExp c a b pos) δ μ Φ := fun hs σ H as S Q k =>
  ⟨tIf (WT C c) (WE C a) (WE C b), fun X hX => pe_ifExp (wt hX) (we hX) (we hX), h hs σ H as S _ fun q H1 μ1 as1 n1 m1 ⟨h1, h2⟩ => by
    cases q with
    | true =>
      rw [if_pos rfl]
      exact h1 rfl hs σ H1 as1 (S.next n1 m1) Q fun y H2 s2 μ2 as2 n2 m2 sv2 r => k y H2 s2 μ2 as2 (n1.trans n2) m2 sv2 r
    | false =>
      rw [if_neg Bool.false_ne_true]
      exact h2 rfl hs σ H1 as1 (S.next n1 m1) Q fun y H2 s2 μ2 as2 n2 m2 sv2 r => k y H2 s2 μ2 as2 (n1.trans n2) m2 sv2 r⟩
theorem de_if (h : DT C c δ μ p) (h1 : p = true → DE C a δ μ d) (h2 : p = false → DE C b δ μ d) : DE C (.IfExp c a b pos) δ μ d := fun Φ k => je_if (h _ ⟨fun e => h1 e Φ k, fun e => h2 e Φ k⟩)
end K79
end
section
set_option Elab.async false
set_option linter.all false
set_option maxRecDepth 100000
namespace K79
open PySem PySem.Spec PyProof.Rows L2
open Evl (Ex)
variable {C : Ctx} {X : Cx} {e a b c : Expr} {es : List Expr} {δ : En} {μ : Mem} {Φ Ψ : SV → Mem → Prop} {pos : Pos} {d d1 d2 d3 : PyData} {ds : List PyData} {x : Str} {i j : Int} {p q : Bool}
/-! ### lists of arguments -/
theorem SVs.all {K : PySem.W.Frag} {G : Hp} {as : List Addr} : ∀ {vs : List V} {ds : List PyData}, SVs K G as vs (ds.map .dat) → DpAll K G vs ds
  | [], [], _ => .nil
  | _ :: _, _ :: _, h => .cons h.1 (SVs.all h.2)
  | [], _ :: _, h => False.elim h
  | _ :: _, [], h => False.elim h
theorem SVs.of {K : PySem.W.Frag} {G : Hp} {as : List Addr} : ∀ {vs : List V} {ds : List PyData}, DpAll K G vs ds → SVs K G as vs (ds.map .dat)
  | _, _, .nil => trivial
  | _, _, .cons h a => ⟨h, SVs.of a⟩
theorem SVs.app {K : PySem.W.Frag} {G : Hp} {as : List Addr} : ∀ {vs ws : List V} {ss ts : List SV}, SVs K G as vs ss → SVs K G as ws ts → SVs K G as (vs ++ ws) (ss ++ ts)
  | [], _, [], _, _, h => h
  | _ :: _, _, _ :: _, _, h, g => ⟨h.1, SVs.app h.2 g⟩
  | [], _, _ :: _, _, h, _ => False.elim h
  | _ :: _, _, [], _, h, _ => False.elim h
theorem ja_nil {Φ : List SV → Mem → Prop} (h : Φ [] μ) : JA C [] δ μ Φ := fun hs σ H as S Q k => ⟨tNil, fun X _ => pa_nil, k [] H [] μ as (Nxt.refl _ _ _) S.me trivial h⟩
theorem ja_cons {Φ : List SV → Mem → Prop} (h : JE C e δ μ fun s μ1 => JA C es δ μ1 fun ss μ2 => Φ (s :: ss) μ2) (hst : ∀ env, starEach (e :: es) env = (false, eval e env) :: starEach es env := by intro _; rfl) : JA C (e :: es) δ μ Φ := fun hs σ H as S Q k =>
  ⟨tCons (WE C e) (WA C es), fun X hX => pa_cons (we hX) (wa hX) (hst _), h hs σ H as S _ fun v H1 s μ1 as1 n1 m1 sv g =>
    g hs σ H1 as1 (S.next n1 m1) _ fun vs H2 ss μ2 as2 n2 m2 svs p => k (v :: vs) H2 (s :: ss) μ2 as2 (n1.trans n2) m2 ⟨sv.mono n2.ex n2.pre, svs⟩ p⟩
theorem ja_star {Φ : List SV → Mem → Prop} {p : Pos} (h : JE C e δ μ fun s μ1 => ∃ ds, (s = .dat (.tuple ds) ∨ s = .dat (.list ds)) ∧ JA C es δ μ1 fun ss μ2 => Φ (ds.map .dat ++ ss) μ2)
    (hst : ∀ env, starEach (.Starred e p :: es) env = (true, eval e env) :: starEach es env := by intro _; rfl) : JA C (.Starred e p :: es) δ μ Φ := fun hs σ H as S Q k =>
  ⟨StX.tStar C.K (WE C e) (WA C es), fun X hX => by
    have := StX.pa_star (p := p) (we (e := e) hX) (wa (es := es) hX) (hst _)
    rw [hX.K] at this; exact this, h hs σ H as S _ fun v H1 s μ1 as1 n1 m1 sv ⟨ds, e1, g⟩ => by
    have key : ∃ a xs, v = .ref a ∧ (SqT C.K (kn hs as1 μ1 H1) a xs ∨ SqL C.K (kn hs as1 μ1 H1) a xs) ∧ DpAll C.K (kn hs as1 μ1 H1) xs ds := by
      rcases e1 with e1 | e1 <;> subst e1
      · obtain ⟨a, xs, r1, r2, r3⟩ := Dp.tup_inv sv
        exact ⟨a, xs, r1, .inl r2, r3⟩
      · obtain ⟨a, xs, r1, r2, r3⟩ := Dp.lst_inv sv
        exact ⟨a, xs, r1, .inr r2, r3⟩
    obtain ⟨a, xs, r1, r2, r3⟩ := key
    refine ⟨a, xs, r1, ?_, g hs σ H1 as1 (S.next n1 m1) _ fun vs H2 ss μ2 as2 n2 m2 svs p => k (xs ++ vs) H2 _ μ2 as2 (n1.trans n2) m2 (SVs.app (SVs.of (DpAll.mono n2.ex r3)) svs) p⟩
    rcases r2 with r2 | r2
    · exact .inl (Evl.ex_t (hide_ex _ _) r2)
    · exact .inr (Evl.ex_l (hide_ex _ _) r2)⟩
theorem da_nil : DA C [] δ μ [] := fun Φ h => ja_nil h
theorem da_cons (h : DE C e δ μ d) (hr : DA C es δ μ ds) (hst : ∀ env, starEach (e :: es) env = (false, eval e env) :: starEach es env := by intro _; rfl) : DA C (e :: es) δ μ (d :: ds) := fun Φ k => ja_cons (h _ (hr _ k)) hst
theorem da_starT {es' : List PyData} {p : Pos} (h : DE C e δ μ (.tuple es')) (hr : DA C es δ μ ds) (hst : ∀ env, starEach (.Starred e p :: es) env = (true, eval e env) :: starEach es env := by intro _; rfl) : DA C (.Starred e p :: es) δ μ (es' ++ ds) := fun Φ k =>
  ja_star (h _ ⟨es', .inl rfl, hr _ (by rw [List.map_append] at k; exact k)⟩) hst
theorem da_starL {es' : List PyData} {p : Pos} (h : DE C e δ μ (.list es')) (hr : DA C es δ μ ds) (hst : ∀ env, starEach (.Starred e p :: es) env = (true, eval e env) :: starEach es env := by intro _; rfl) : DA C (.Starred e p :: es) δ μ (es' ++ ds) := fun Φ k =>
  ja_star (h _ ⟨es', .inr rfl, hr _ (by rw [List.map_append] at k; exact k)⟩) hst
/-! ### displays -/
theorem sz {n : Nat} (h : n ≤ 1000) : n ≤ sizeLine := Nat.le_trans h (by decide)
theorem je_tup {k1} (h : JA C es δ μ fun ss μ1 => ∃ ds, ss = ds.map .dat ∧ ds.length ≤ 1000 ∧ Φ (.dat (.tuple ds)) μ1) : JE C (.Tuple es k1 pos) δ μ Φ := fun hs σ H as S Q k =>
  ⟨tTup (WA C es), fun X hX => pe_tup (wa hX), h hs σ H as S _ fun vs H1 ss μ1 as1 n1 m1 svs ⟨ds, e1, hl, p⟩ => by
    subst e1
    have al := SVs.all svs
    refine ⟨sz (by rw [DpAll.len al]; exact hl), fun pp hp => k _ _ (.dat (.tuple ds)) μ1 as1 (n1.trans (Nxt.grow (Ex.new hp))) (m1.grow (Ex.new hp)) (new_tup m1.hso hp al) p⟩⟩
theorem je_lst (h : JA C es δ μ fun ss μ1 => ∃ ds, ss = ds.map .dat ∧ ds.length ≤ 1000 ∧ Φ (.dat (.list ds)) μ1) : JE C (.List es pos) δ μ Φ := fun hs σ H as S Q k =>
  ⟨tLst (WA C es), fun X hX => pe_lst (wa hX), h hs σ H as S _ fun vs H1 ss μ1 as1 n1 m1 svs ⟨ds, e1, hl, p⟩ => by
    subst e1
    have al := SVs.all svs
    refine ⟨sz (by rw [DpAll.len al]; exact hl), fun pp hp => k _ _ (.dat (.list ds)) μ1 as1 (n1.trans (Nxt.grow (Ex.new hp))) (m1.grow (Ex.new hp)) (new_lst m1.hso hp al) p⟩⟩
theorem de_tup {k1} (h : DA C es δ μ ds) (hl : ds.length ≤ 1000 := by exact Nat.le_of_ble_eq_true rfl) : DE C (.Tuple es k1 pos) δ μ (.tuple ds) := fun Φ k => je_tup (h _ ⟨ds, rfl, hl, k⟩)
theorem de_lst (h : DA C es δ μ ds) (hl : ds.length ≤ 1000 := by exact Nat.le_of_ble_eq_true rfl) : DE C (.List es pos) δ μ (.list ds) := fun Φ k => je_lst (h _ ⟨ds, rfl, hl, k⟩)
/-! ### an operation on one value -/
theorem de_one1 {r : V → Hp → VK → Prop} {w : Expr} (hp : ∀ X, InF C X → PE X w (tUn r (WE C a))) (ha : DE C a δ μ d1) (od : UnD C.K r d1 d3) : DE C w δ μ d3 := fun Φ h hs σ H as S Q k =>
  ⟨_, hp, ha (fun s μ1 => s = .dat d1 ∧ μ1 = μ) ⟨rfl, rfl⟩ hs σ H as S _ fun v H1 s1 μ1 as1 n1 m1 sv ⟨e1, e2⟩ => by
    subst e1 e2
    exact od _ H1 v Q m1.hso sv fun z H3 e3 hz => k z H3 (.dat d3) _ as1 (n1.trans (Nxt.grow e3)) (m1.grow e3) hz h⟩
/-! ### subscripts -/
theorem ixN_len {n m : Nat} {i : Int} (h : n = m) : ixN n i = ixN m i := by rw [h]
theorem atI_dp {K : PySem.W.Frag} {G : Hp} {vs : List V} {ds : List PyData} {i : Int} (al : DpAll K G vs ds) (h : atI ds i = some d) : ∃ v, atI vs i = some v ∧ Dp K G v d := by
  unfold atI at h ⊢
  rw [ixN_len (DpAll.len al)]
  cases e : ixN ds.length i with
  | none => rw [e] at h; cases h
  | some j =>
    rw [e] at h
    exact DpAll.get al h
theorem opIxT {K : PySem.W.Frag} (h : atI ds i = some d) : OpD K (rIxT K) (.tuple ds) (.int i) d := fun hs H x y Q ok h1 h2 k => by
  obtain ⟨a, xs, r1, r2, r3⟩ := Dp.tup_inv h1
  obtain ⟨v, e1, e2⟩ := atI_dp r3 h
  exact ⟨a, xs, i, v, r1, Dp.int_inv h2, Evl.ex_t (hide_ex _ _) r2, e1, k v H (Evl.Ex.refl H) e2⟩
theorem opIxL {K : PySem.W.Frag} (h : atI ds i = some d) : OpD K (rIxL K) (.list ds) (.int i) d := fun hs H x y Q ok h1 h2 k => by
  obtain ⟨a, xs, r1, r2, r3⟩ := Dp.lst_inv h1
  obtain ⟨v, e1, e2⟩ := atI_dp r3 h
  exact ⟨a, xs, i, v, r1, Dp.int_inv h2, Evl.ex_l (hide_ex _ _) r2, e1, k v H (Evl.Ex.refl H) e2⟩
theorem ixTR (hX : InF C X) : IxR X (rIxT C.K) := by rw [← hX.K]; exact ix_tup
theorem ixLR (hX : InF C X) : IxR X (rIxL C.K) := by rw [← hX.K]; exact ix_list
theorem de_ixT (ha : DE C a δ μ (.tuple ds)) (hb : DE C b δ μ (.int i)) (h : atI ds i = some d := by rfl) (hp : PlainIx b := by exact fun _ _ => rfl) : DE C (.Subscript a b pos) δ μ d :=
  de_two (fun X hX => pe_ix (ixTR hX) (we hX) (we hX) hp) ha hb (opIxT h)
theorem de_ixL (ha : DE C a δ μ (.list ds)) (hb : DE C b δ μ (.int i)) (h : atI ds i = some d := by rfl) (hp : PlainIx b := by exact fun _ _ => rfl) : DE C (.Subscript a b pos) δ μ d :=
  de_two (fun X hX => pe_ix (ixLR hX) (we hX) (we hX) hp) ha hb (opIxL h)
theorem je_ixT (hp : PlainIx b) (h : JE C a δ μ fun s1 μ1 => ∃ d1, s1 = .dat d1 ∧ JE C b δ μ1 fun s2 μ2 => ∃ d2 d3, s2 = .dat d2 ∧ OpD C.K (rIxT C.K) d1 d2 d3 ∧ Φ (.dat d3) μ2) : JE C (.Subscript a b pos) δ μ Φ :=
  je_two (fun X hX => pe_ix (ixTR hX) (we hX) (we hX) hp) h
theorem je_ixL (hp : PlainIx b) (h : JE C a δ μ fun s1 μ1 => ∃ d1, s1 = .dat d1 ∧ JE C b δ μ1 fun s2 μ2 => ∃ d2 d3, s2 = .dat d2 ∧ OpD C.K (rIxL C.K) d1 d2 d3 ∧ Φ (.dat d3) μ2) : JE C (.Subscript a b pos) δ μ Φ :=
  je_two (fun X hX => pe_ix (ixLR hX) (we hX) (we hX) hp) h
/-- a list that may change, named -/
def DL (C : Ctx) (e : Expr) (δ : En) (μ : Mem) (n : Nat) : Prop := ∀ Φ : SV → Mem → Prop, Φ (.loc n) μ → JE C e δ μ Φ
theorem dl_name (i : Nat) {n : Nat} (hN : C.N[i]? = some x := by rfl) (hv : Vis C.sc x := by first | exact Or.inl rfl | exact Or.inr (Or.inl rfl) | exact Or.inr (Or.inr rfl)) (hs : δ[i]? = some (some (.loc n)) := by rfl)
    (hd : (x == ("__debug__" : Str)) = false := by decide) (hcd : (x == ("__classdict__" : Str)) = false := by decide) : DL C (.Name x pos) δ μ n := fun Φ h => je_name i hN hv hs hd hcd h
theorem MemOk.sq {K : PySem.W.Frag} {hs as : List Addr} {H : Hp} {n : Nat} {v : V} (m : MemOk K hs as H μ) (sv : SVok K (kn hs as μ H) as v (.loc n)) (hμ : μ[n]? = some (some ds)) : ∃ a ws, v = .ref a ∧ as[n]? = some a ∧ H a = some (.lst ws) ∧ DpAll K (kn hs as μ H) ws ds := by
  obtain ⟨a, h1, h2⟩ := sv
  obtain ⟨ws, h3, h4⟩ := m.at_ n a ds h1 hμ
  exact ⟨a, ws, h2, h1, h3, h4⟩
theorem je_ixM {n : Nat} (hp : PlainIx b) (ha : DL C a δ μ n) (h : JE C b δ μ fun s2 μ2 => ∃ i ds d, s2 = .dat (.int i) ∧ μ2[n]? = some (some ds) ∧ atI ds i = some d ∧ Φ (.dat d) μ2) : JE C (.Subscript a b pos) δ μ Φ := fun hs σ H as S Q k =>
  ⟨tOp (rIxL C.K) (WE C a) (WE C b), fun X hX => pe_ix (ixLR hX) (we hX) (we hX) hp, ha (fun s μ1 => s = .loc n ∧ μ1 = μ) ⟨rfl, rfl⟩ hs σ H as S _ fun v H1 s1 μ1 as1 n1 m1 sv1 ⟨e1, e2⟩ => by
    subst e1 e2
    exact h hs σ H1 as1 (S.next n1 m1) _ fun y H2 s2 μ2 as2 n2 m2 sv2 ⟨i, ds, d, e3, hμ, hat, p⟩ => by
      subst e3
      obtain ⟨a', ws, q1, q2, q3, q4⟩ := m2.sq (sv1.mono n2.ex n2.pre) hμ
      obtain ⟨z, e4, e5⟩ := atI_dp q4 hat
      exact ⟨a', ws, i, z, q1, Dp.int_inv sv2, Evl.sq_of q3, e4, k z H2 (.dat d) μ2 as2 (n1.trans n2) m2 e5 p⟩⟩
theorem de_ixM {n : Nat} (ha : DL C a δ μ n) (hb : DE C b δ μ (.int i)) (hμ : μ[n]? = some (some ds) := by rfl) (h : atI ds i = some d := by rfl) (hp : PlainIx b := by exact fun _ _ => rfl) : DE C (.Subscript a b pos) δ μ d := fun Φ k =>
  je_ixM hp ha (hb _ ⟨i, ds, d, rfl, hμ, h, k⟩)
/-! ### slices -/
def WO (C : Ctx) (e : Option Expr) : TO := fun σ H Q => ∃ t, (∀ X, InF C X → PO X e t) ∧ t σ H Q
theorem wo {e : Option Expr} (hX : InF C X) : PO X e (WO C e) := ⟨fun pins s σ H Q I ⟨t, h, q⟩ => (h X hX).run pins s σ H Q I q⟩
def JO (C : Ctx) (e : Option Expr) (δ : En) (μ : Mem) (Φ : Option Int → Mem → Prop) : Prop := ∀ (hs : List Addr) (σ : L2.St) (H : Hp) (as : List Addr), StOk C.K hs as H σ δ μ → ∀ Q : Option Int → Hp → Prop,
  (∀ o H2 μ2 as2, Nxt as μ H as2 μ2 H2 → MemOk C.K hs as2 H2 μ2 → Φ o μ2 → Q o H2) → WO C e σ H Q
theorem jo_none {Φ : Option Int → Mem → Prop} (h : Φ none μ) : JO C none δ μ Φ := fun hs σ H as S Q k => ⟨tNoPart, fun X _ => po_none, k none H μ as (Nxt.refl _ _ _) S.me h⟩
theorem jo_some {Φ : Option Int → Mem → Prop} (h : JE C e δ μ fun s μ1 => ∃ i, s = .dat (.int i) ∧ Φ (some i) μ1) : JO C (some e) δ μ Φ := fun hs σ H as S Q k =>
  ⟨tPart (WE C e), fun X hX => po_some (we hX), h hs σ H as S _ fun v H1 s1 μ1 as1 n1 m1 sv ⟨i, e1, p⟩ => by
    subst e1
    exact ⟨i, Dp.int_inv sv, k (some i) H1 μ1 as1 n1 m1 p⟩⟩
def cutD (xs : List PyData) (lo hi : Option Int) : List PyData := (xs.drop (HT.sIx xs.length 0 lo)).take (HT.sIx xs.length xs.length hi - HT.sIx xs.length 0 lo)
theorem dcut {K : PySem.W.Frag} {G : Hp} {vs : List V} {lo hi : Option Int} (al : DpAll K G vs ds) : DpAll K G (cutV vs lo hi) (cutD ds lo hi) := by
  unfold cutV cutD
  rw [DpAll.len al]
  exact DpAll.take _ (DpAll.drop _ al)
variable {lo hi : Option Expr} {p2 : Pos}
theorem cut_whole {n : Nat} {lo hi : Option Int} {xs : List PyData} (hn : xs.length = n) (h : HT.sIx n 0 lo = 0 ∧ HT.sIx n n hi = n) : cutD xs lo hi = xs := by
  unfold cutD
  rw [hn, h.1, h.2, List.drop_zero, Nat.sub_zero]
  exact List.take_of_length_le (by omega)
theorem je_slT (h : JE C a δ μ fun s1 μ1 => ∃ ds, s1 = .dat (.tuple ds) ∧ JO C lo δ μ1 fun l μ2 => JO C hi δ μ2 fun u μ3 => Φ (.dat (.tuple (cutD ds l u))) μ3) : JE C (.Subscript a (.Slice lo hi none p2) pos) δ μ Φ := fun hs σ H as S Q k =>
  ⟨tSl (rSlA C.K) (WE C a) (WO C lo) (WO C hi), fun X hX => pe_slice (by rw [← hX.K]; exact sl_tupA) (we hX) (wo hX) (wo hX), h hs σ H as S _ fun v H1 s1 μ1 as1 n1 m1 sv ⟨ds, e1, g⟩ => by
    subst e1
    exact g hs σ H1 as1 (S.next n1 m1) _ fun l H2 μ2 as2 n2 m2 g2 => g2 hs σ H2 as2 ((S.next n1 m1).next n2 m2) _ fun u H3 μ3 as3 n3 m3 p => by
      obtain ⟨a', xs, r1, r2, r3⟩ := Dp.tup_inv (Dp.mono (n2.trans n3).ex sv)
      have hl := DpAll.len r3
      refine ⟨a', xs, r1, Evl.ex_t (hide_ex _ _) r2, fun hw => ?_, fun hw pp hp => ?_⟩
      · refine k _ H3 (.dat (.tuple (cutD ds l u))) μ3 as3 ((n1.trans n2).trans n3) m3 ?_ p
        rw [cut_whole hl.symm hw, ← r1]
        exact Dp.mono (n2.trans n3).ex sv
      · exact k _ _ (.dat (.tuple (cutD ds l u))) μ3 as3 (((n1.trans n2).trans n3).trans (Nxt.grow (Ex.new hp))) (m3.grow (Ex.new hp)) (new_tup m3.hso hp (dcut r3)) p⟩
theorem je_slL (h : JE C a δ μ fun s1 μ1 => ∃ ds, s1 = .dat (.list ds) ∧ JO C lo δ μ1 fun l μ2 => JO C hi δ μ2 fun u μ3 => Φ (.dat (.list (cutD ds l u))) μ3) : JE C (.Subscript a (.Slice lo hi none p2) pos) δ μ Φ := fun hs σ H as S Q k =>
  ⟨tSl (rSlL C.K) (WE C a) (WO C lo) (WO C hi), fun X hX => pe_slice (by rw [← hX.K]; exact sl_list) (we hX) (wo hX) (wo hX), h hs σ H as S _ fun v H1 s1 μ1 as1 n1 m1 sv ⟨ds, e1, g⟩ => by
    subst e1
    exact g hs σ H1 as1 (S.next n1 m1) _ fun l H2 μ2 as2 n2 m2 g2 => g2 hs σ H2 as2 ((S.next n1 m1).next n2 m2) _ fun u H3 μ3 as3 n3 m3 p => by
      obtain ⟨a', xs, r1, r2, r3⟩ := Dp.lst_inv (Dp.mono (n2.trans n3).ex sv)
      exact ⟨a', xs, r1, Evl.ex_l (hide_ex _ _) r2, fun pp hp => k _ _ (.dat (.list (cutD ds l u))) μ3 as3 (((n1.trans n2).trans n3).trans (Nxt.grow (Ex.new hp))) (m3.grow (Ex.new hp)) (new_lst m3.hso hp (dcut r3)) p⟩⟩
def DO (C : Ctx) (e : Option Expr) (δ : En) (μ : Mem) (o : Option Int) : Prop := ∀ Φ : Option Int → Mem → Prop, Φ o μ → JO C e δ μ Φ
theorem do_none : DO C none δ μ none := fun Φ h => jo_none h
theorem do_some (h : DE C e δ μ (.int i)) : DO C (some e) δ μ (some i) := fun Φ k => jo_some (h _ ⟨i, rfl, k⟩)
theorem de_slT {l u : Option Int} (h : DE C a δ μ (.tuple ds)) (h1 : DO C lo δ μ l) (h2 : DO C hi δ μ u) : DE C (.Subscript a (.Slice lo hi none p2) pos) δ μ (.tuple (cutD ds l u)) := fun Φ k => je_slT (h _ ⟨ds, rfl, h1 _ (h2 _ k)⟩)
theorem de_slL {l u : Option Int} (h : DE C a δ μ (.list ds)) (h1 : DO C lo δ μ l) (h2 : DO C hi δ μ u) : DE C (.Subscript a (.Slice lo hi none p2) pos) δ μ (.list (cutD ds l u)) := fun Φ k => je_slL (h _ ⟨ds, rfl, h1 _ (h2 _ k)⟩)
/-! ### calls of built-in functions and types -/
def NoC (C : Ctx) (x : Str) : Prop := C.mg x = none
theorem je_callB {id : String} {r : List V → Hp → VK → Prop} {pp : Pos} (hc : ∀ X, InF C X → CallR X (.builtin id) r) (hm : NoC C x) (hv : bootBuiltins x = some (.builtin id)) (hg : GlC C x) (hn : x ≠ "__name__") (hdb : (x == ("__debug__" : Str)) = false)
    (hst : ∀ env, starEach (e :: es) env = (false, eval e env) :: starEach es env) (hpl : ∀ env, (backTo pos (starEach es env)).any (·.1) = false)
    (h : JA C (e :: es) δ μ fun ss μ1 => ∃ ds d3, ss = ds.map .dat ∧ CaD C.K r ds d3 ∧ Φ (.dat d3) μ1) : JE C (.Call (.Name x pp) (e :: es) [] pos) δ μ Φ := fun hs σ H as S Q k =>
  ⟨tCB r (WA C (e :: es)), fun X hX => pe_callB (hc X hX) (gl hX hg) (by rw [hX.mg]; exact hm) hv (wa hX) hn hdb (hst _) (hpl _), h hs σ H as S _ fun vs H1 ss μ1 as1 n1 m1 svs ⟨ds, d3, e1, cd, p⟩ => by
    subst e1
    exact cd _ H1 vs Q m1.hso (SVs.all svs) fun z H3 e3 hz => k z H3 (.dat d3) μ1 as1 (n1.trans (Nxt.grow e3)) (m1.grow e3) hz p⟩
theorem je_callTy {id : String} {r : List V → Hp → VK → Prop} {pp : Pos} (hc : ∀ X, InF C X → CallR X (.type id) r) (hm : NoC C x) (hv : bootBuiltins x = some (.type id)) (hg : GlC C x) (hn : x ≠ "__name__") (hdb : (x == ("__debug__" : Str)) = false)
    (hst : ∀ env, starEach (e :: es) env = (false, eval e env) :: starEach es env) (hpl : ∀ env, (backTo pos (starEach es env)).any (·.1) = false)
    (h : JA C (e :: es) δ μ fun ss μ1 => ∃ ds d3, ss = ds.map .dat ∧ CaD C.K r ds d3 ∧ Φ (.dat d3) μ1) : JE C (.Call (.Name x pp) (e :: es) [] pos) δ μ Φ := fun hs σ H as S Q k =>
  ⟨tCB r (WA C (e :: es)), fun X hX => pe_callTy (hc X hX) (gl hX hg) (by rw [hX.mg]; exact hm) hv (wa hX) hn hdb (hst _) (hpl _), h hs σ H as S _ fun vs H1 ss μ1 as1 n1 m1 svs ⟨ds, d3, e1, cd, p⟩ => by
    subst e1
    exact cd _ H1 vs Q m1.hso (SVs.all svs) fun z H3 e3 hz => k z H3 (.dat d3) μ1 as1 (n1.trans (Nxt.grow e3)) (m1.grow e3) hz p⟩
theorem je_callBf {id : String} {r : List V → Hp → VK → Prop} {pp : Pos} (hc : ∀ X, InF C X → CallR X (.builtin id) r) (hm : C.mg x = some (.builtin id)) (hg : GlC C x) (hdb : (x == ("__debug__" : Str)) = false)
    (hst : ∀ env, starEach (e :: es) env = (false, eval e env) :: starEach es env) (hpl : ∀ env, (backTo pos (starEach es env)).any (·.1) = false)
    (h : JA C (e :: es) δ μ fun ss μ1 => ∃ ds d3, ss = ds.map .dat ∧ CaD C.K r ds d3 ∧ Φ (.dat d3) μ1) : JE C (.Call (.Name x pp) (e :: es) [] pos) δ μ Φ := fun hs σ H as S Q k =>
  ⟨tCB r (WA C (e :: es)), fun X hX => pe_callBfun (hc X hX) (gl hX hg) (by rw [hX.mg]; exact hm) (wa hX) hdb (hst _) (hpl _), h hs σ H as S _ fun vs H1 ss μ1 as1 n1 m1 svs ⟨ds, d3, e1, cd, p⟩ => by
    subst e1
    exact cd _ H1 vs Q m1.hso (SVs.all svs) fun z H3 e3 hz => k z H3 (.dat d3) μ1 as1 (n1.trans (Nxt.grow e3)) (m1.grow e3) hz p⟩
/-! ### calls of the program's defs -/
def SpD (K : PySem.W.Frag) {α : Type} (args : α → List PyData) (pre : α → Prop) (res : α → PyData) : Sp := fun vs H Q _ => ∃ hs x, HsOk hs H ∧ DpAll K (hide hs H) vs (args x) ∧ pre x ∧ ∀ v H', Ex H H' → Dp K (hide hs H') v (res x) → Q v H'
/-- the spring of the draws: the great number's rest, the stirred number, how many were stirred -/
structure Sg where
  a : Int
  s : Int
  c : Int
def dS (g : Sg) : List PyData := [.int g.a, .int g.s, .int g.c]
def SpS (K : PySem.W.Frag) {α : Type} (args : α → List PyData) (pre : α → Sg → Prop) (post : α → Sg → PyData → Sg → Prop) : Sp := fun vs H Q _ => ∃ hs a vs' x st ws, vs = .ref a :: vs' ∧ HsOk hs H ∧ H a = some (.lst ws) ∧
  DpAll K (hide (hs ++ [a]) H) ws (dS st) ∧ DpAll K (hide (hs ++ [a]) H) vs' (args x) ∧ pre x st ∧ ∀ v H' d st' ws', (∀ b o, b ≠ a → H b = some o → H' b = some o) → H' a = some (.lst ws') → DpAll K (hide (hs ++ [a]) H') ws' (dS st') → Dp K (hide (hs ++ [a]) H') v d → post x st d st' → Q v H'
/-- a def of the program that keeps a promise -/
def OKs (P : Program) (w : World) (K : PySem.W.Frag) (mg : Str → Option Value) (base : Heap) (x : Str) (k : Nat) (ps : List Str) (sp : Sp) : Prop :=
  ∃ f fd, mg x = some (.ref f) ∧ PySem.W.keepIn K (.ref f) = true ∧ Binds K fd ps [] ∧ FnOk P w K mg base CX0 k f fd ps sp
abbrev OKc (C : Ctx) (x : Str) (k : Nat) (ps : List Str) (sp : Sp) : Prop := OKs C.P C.w C.K C.mg C.base x k ps sp
theorem je_call {k : Nat} {ps : List Str} {α : Type} {args : α → List PyData} {pre : α → Prop} {g : α → PyData} {pp : Pos} (F : OKc C x k ps (SpD C.K args pre g)) (hk : k ≤ C.k) (hg : GlC C x) (hdb : (x == ("__debug__" : Str)) = false)
    (hst : ∀ env, starEach (e :: es) env = (false, eval e env) :: starEach es env) (hpl : ∀ env, (backTo pos (starEach es env)).any (·.1) = false)
    (h : JA C (e :: es) δ μ fun ss μ1 => ∃ y, ss = (args y).map .dat ∧ pre y ∧ Φ (.dat (g y)) μ1) : JE C (.Call (.Name x pp) (e :: es) [] pos) δ μ Φ := fun hs σ H as S Q kk => by
  obtain ⟨f, fd, h1, h2, h3, h4⟩ := F
  refine ⟨tCall (SpD C.K args pre g) [] E0 (WA C (e :: es)), fun X hX => pe_call (k := k) (fd := fd) (ps := ps) (by rw [hX.prog, hX.w, hX.K, hX.mg, hX.base]; exact h4) (hX.room.mono hk) (gl hX hg) (by rw [hX.mg]; exact h1) (by rw [hX.K]; exact h2) (by rw [hX.K]; exact h3) .nil pass0 (wa hX) hdb (hst _) (hpl _), ?_⟩
  exact h hs σ H as S _ fun vs H1 ss μ1 as1 n1 m1 svs ⟨y, e1, hp, p⟩ => by
    subst e1
    rw [List.append_nil]
    exact ⟨hs ++ hid as1 μ1, y, m1.hso, SVs.all svs, hp, fun v H' ex dv => kk v H' (.dat (g y)) μ1 as1 (n1.trans (Nxt.grow ex)) (m1.grow ex) dv p⟩
theorem je_call0 {k : Nat} {ps : List Str} {α : Type} {args : α → List PyData} {pre : α → Prop} {g : α → PyData} {pp : Pos} (F : OKc C x k ps (SpD C.K args pre g)) (hk : k ≤ C.k) (hg : GlC C x) (hdb : (x == ("__debug__" : Str)) = false) (y : α) (hy : args y = []) (hp : pre y) (h : Φ (.dat (g y)) μ) :
    JE C (.Call (.Name x pp) [] [] pos) δ μ Φ := fun hs σ H as S Q kk => by
  obtain ⟨f, fd, h1, h2, h3, h4⟩ := F
  refine ⟨tCall (SpD C.K args pre g) [] E0 tNil, fun X hX => pe_call0 (k := k) (fd := fd) (ps := ps) (by rw [hX.prog, hX.w, hX.K, hX.mg, hX.base]; exact h4) (hX.room.mono hk) (gl hX hg) (by rw [hX.mg]; exact h1) (by rw [hX.K]; exact h2) (by rw [hX.K]; exact h3) .nil pass0 hdb, ?_⟩
  exact ⟨hs ++ hid as μ, y, S.me.hso, by rw [hy]; exact .nil, hp, fun v H' ex dv => kk v H' (.dat (g y)) μ as (Nxt.grow ex) (S.me.grow ex) dv h⟩
theorem de_call {k : Nat} {ps : List Str} {α : Type} {args : α → List PyData} {pre : α → Prop} {g : α → PyData} {pp : Pos} (F : OKc C x k ps (SpD C.K args pre g)) (y : α) (ha : DA C (e :: es) δ μ (args y)) (hp : pre y) (hr : g y = d := by rfl) (hk : k ≤ C.k := by exact Nat.le_of_ble_eq_true rfl) (hg : GlC C x := by rfl) (hdb : (x == ("__debug__" : Str)) = false := by decide)
    (hst : ∀ env, starEach (e :: es) env = (false, eval e env) :: starEach es env := by intro _; rfl) (hpl : ∀ env, (backTo pos (starEach es env)).any (·.1) = false := by intro _; rfl) : DE C (.Call (.Name x pp) (e :: es) [] pos) δ μ d := fun Φ h =>
  je_call F hk hg hdb hst hpl (ha _ ⟨y, rfl, hp, by rw [hr]; exact h⟩)
theorem hide_more {L : List Addr} {a : Addr} {H : Hp} (h : a ∈ L) : hide (L ++ [a]) H = hide L H := by
  funext b
  unfold hide
  by_cases hb : b ∈ L
  · rw [if_pos hb, if_pos (List.mem_append_left _ hb)]
  · rw [if_neg hb, if_neg (by
      intro z
      rcases List.mem_append.mp z with z | z
      · exact hb z
      · exact hb (List.mem_singleton.mp z ▸ h))]
/-- a list that may change has changed, all else stands -/
theorem MemOk.putH {K : PySem.W.Frag} {hs as : List Addr} {H H2 : Hp} {μ : Mem} {i : Nat} {a : Addr} {ds es : List PyData} {ws : List V} (m : MemOk K hs as H μ) (h1 : as[i]? = some a) (h2 : μ[i]? = some (some ds))
    (k : ∀ b o, b ≠ a → H b = some o → H2 b = some o) (h3 : H2 a = some (.lst ws)) (h4 : DpAll K (hide (hs ++ hid as μ) H2) ws es) : MemOk K hs as H2 (μ.set i (some es)) ∧ Nxt as μ H as (μ.set i (some es)) H2 := by
  have ha := hid_get h1 h2
  have eh : hid as (μ.set i (some es)) = hid as μ := hid_set h2
  have ex : Ex (hide (hs ++ hid as μ) H) (hide (hs ++ hid as μ) H2) := fun b o q => by
    by_cases hb : b ∈ hs ++ hid as μ
    · rw [hide_in hb] at q; cases q
    · rw [hide_out hb] at q ⊢
      exact k b o (fun e => hb (by rw [e]; exact List.mem_append_right _ ha)) q
  have tr : ∀ b, H b ≠ none → H2 b ≠ none := fun b q => by
    by_cases e : b = a
    · subst e; rw [h3]; exact fun z => by cases z
    · cases z : H b with
      | none => exact absurd z q
      | some o => rw [k b o e z]; exact fun z => by cases z
  refine ⟨⟨by rw [List.length_set]; exact m.len, m.nd, fun b hb => tr b (m.tr b hb), fun b hb => tr b (m.ho b hb), m.ap, fun j b fs q1 q2 => ?_⟩, ⟨List.prefix_refl _, fun b o hb q => ?_⟩⟩
  · rw [eh]
    by_cases hj : i = j
    · subst hj
      rw [h1] at q1
      cases q1
      have hi : i < μ.length := (List.getElem?_eq_some_iff.mp h2).1
      rw [List.getElem?_set_self hi] at q2
      injection q2 with q2
      injection q2 with q2
      subst q2
      exact ⟨ws, h3, h4⟩
    · rw [List.getElem?_set_ne hj] at q2
      obtain ⟨ws', h5, h6⟩ := m.at_ j b fs q1 q2
      have hne : b ≠ a := fun e => by
        subst e
        exact hj ((List.getElem?_inj (List.getElem?_eq_some_iff.mp h1).1 m.nd).mp (h1.trans q1.symm))
      exact ⟨ws', k b _ hne h5, DpAll.mono ex h6⟩
  · rw [eh]
    exact ⟨k b o (fun e => hb (by rw [e]; exact ha)) q, hb⟩
theorem je_callS {k : Nat} {ps : List Str} {α : Type} {args : α → List PyData} {pre : α → Sg → Prop} {post : α → Sg → PyData → Sg → Prop} {pp : Pos} (F : OKc C x k ps (SpS C.K args pre post)) (hk : k ≤ C.k) (hg : GlC C x) (hdb : (x == ("__debug__" : Str)) = false)
    (hst : ∀ env, starEach (e :: es) env = (false, eval e env) :: starEach es env) (hpl : ∀ env, (backTo pos (starEach es env)).any (·.1) = false)
    (h : JA C (e :: es) δ μ fun ss μ1 => ∃ n st y, ss = .loc n :: (args y).map .dat ∧ μ1[n]? = some (some (dS st)) ∧ pre y st ∧ ∀ d st', post y st d st' → Φ (.dat d) (μ1.set n (some (dS st')))) : JE C (.Call (.Name x pp) (e :: es) [] pos) δ μ Φ := fun hs σ H as S Q kk => by
  obtain ⟨f, fd, h1, h2, h3, h4⟩ := F
  refine ⟨tCall (SpS C.K args pre post) [] E0 (WA C (e :: es)), fun X hX => pe_call (k := k) (fd := fd) (ps := ps) (by rw [hX.prog, hX.w, hX.K, hX.mg, hX.base]; exact h4) (hX.room.mono hk) (gl hX hg) (by rw [hX.mg]; exact h1) (by rw [hX.K]; exact h2) (by rw [hX.K]; exact h3) .nil pass0 (wa hX) hdb (hst _) (hpl _), ?_⟩
  exact h hs σ H as S _ fun vs H1 ss μ1 as1 n1 m1 svs ⟨n, st, y, e1, hμ, hp, p⟩ => by
    subst e1
    rw [List.append_nil]
    cases vs with
    | nil => exact False.elim svs
    | cons v vs' =>
      obtain ⟨sv, svr⟩ := svs
      obtain ⟨a', ws, q1, q2, q3, q4⟩ := m1.sq sv hμ
      have hm : a' ∈ hs ++ hid as1 μ1 := List.mem_append_right _ (hid_get q2 hμ)
      refine ⟨hs ++ hid as1 μ1, a', vs', y, st, ws, by rw [q1], m1.hso, q3, by rw [hide_more hm]; exact q4, by rw [hide_more hm]; exact SVs.all svr, hp, fun z H' d st' ws' kp r1 r2 r3 r4 => ?_⟩
      rw [hide_more hm] at r2 r3
      obtain ⟨m2, n2⟩ := m1.putH q2 hμ kp r1 r2
      have eh : hid as1 (μ1.set n (some (dS st'))) = hid as1 μ1 := hid_set hμ
      refine kk z H' (.dat d) _ as1 (n1.trans n2) m2 ?_ (p d st' r4)
      show Dp C.K (hide (hs ++ hid as1 (μ1.set n (some (dS st')))) H') z d
      rw [eh]
      exact r3
end K79
end
section
set_option Elab.async false
set_option linter.all false
set_option maxRecDepth 100000
namespace K79
open PySem PySem.Spec PyProof.Rows L2
open Evl (Ex)
variable {C : Ctx} {X : Cx} {e a b c : Expr} {es : List Expr} {δ : En} {μ : Mem} {Φ Ψ : SV → Mem → Prop} {pos : Pos} {d d1 d2 d3 : PyData} {ds : List PyData} {x : Str} {i j : Int} {p q : Bool}
/-! ### built-in functions on data -/
section
variable {K : PySem.W.Frag}
theorem caLenL : CaD K (fun xs H Q => ∃ p ys, xs = [.ref p] ∧ (SqL K H p ys ∨ SqT K H p ys) ∧ Q (.int ys.length) H) [.list ds] (.int ds.length) := fun hs H xs Q ok al k => by
  cases al with
  | cons h r =>
    cases r
    obtain ⟨a, ys, rfl, r2, r3⟩ := Dp.lst_inv h
    exact ⟨a, ys, rfl, .inl (Evl.ex_l (hide_ex _ _) r2), by rw [DpAll.len r3]; exact k _ H (Evl.Ex.refl H) (.int _)⟩
theorem caLenT : CaD K (fun xs H Q => ∃ p ys, xs = [.ref p] ∧ (SqL K H p ys ∨ SqT K H p ys) ∧ Q (.int ys.length) H) [.tuple ds] (.int ds.length) := fun hs H xs Q ok al k => by
  cases al with
  | cons h r =>
    cases r
    obtain ⟨a, ys, rfl, r2, r3⟩ := Dp.tup_inv h
    exact ⟨a, ys, rfl, .inr (Evl.ex_t (hide_ex _ _) r2), by rw [DpAll.len r3]; exact k _ H (Evl.Ex.refl H) (.int _)⟩
theorem dp_bools {G : Hp} : ∀ {vs : List V} {bs : List Bool}, DpAll K G vs (bs.map .bool) → vs = bs.map V.bl
  | [], [], _ => rfl
  | _ :: _, _ :: _, .cons h r => by rw [Dp.bl_inv h, dp_bools r]; rfl
theorem dp_ints {G : Hp} : ∀ {vs : List V} {bs : List Int}, DpAll K G vs (bs.map .int) → vs = bs.map V.int
  | [], [], _ => rfl
  | _ :: _, _ :: _, .cons h r => by rw [Dp.int_inv h, dp_ints r]; rfl
theorem caAll {bs : List Bool} : CaD K (rAll K) [.list (bs.map .bool)] (.bool (bs.all id)) := fun hs H xs Q ok al k => by
  cases al with
  | cons h r =>
    cases r
    obtain ⟨a, ys, rfl, r2, r3⟩ := Dp.lst_inv h
    rw [dp_bools r3] at r2
    exact ⟨a, bs, rfl, Evl.ex_l (hide_ex _ _) r2, k _ H (Evl.Ex.refl H) (.bl _)⟩
theorem caSum {ns : List Int} : CaD K (rSum K) [.list (ns.map .int)] (.int ns.sum) := fun hs H xs Q ok al k => by
  cases al with
  | cons h r =>
    cases r
    obtain ⟨a, ys, rfl, r2, r3⟩ := Dp.lst_inv h
    rw [dp_ints r3] at r2
    exact ⟨a, ns, rfl, Evl.ex_l (hide_ex _ _) r2, k _ H (Evl.Ex.refl H) (.int _)⟩
theorem caGcd : CaD K rGcd [.int i, .int j] (.int ((Nat.gcd i.natAbs j.natAbs : Nat) : Int)) := fun hs H xs Q ok al k => by
  cases al with
  | cons h r =>
    cases r with
    | cons h2 r =>
      cases r
      rw [Dp.int_inv h, Dp.int_inv h2]
      exact ⟨i, j, rfl, k _ H (Evl.Ex.refl H) (.int _)⟩
theorem caAbs : CaD K (fun xs H Q => ∃ i, xs = [.int i] ∧ Q (.int (if i < 0 then -i else i)) H) [.int i] (.int (if i < 0 then -i else i)) := fun hs H xs Q ok al k => by
  cases al with
  | cons h r =>
    cases r
    rw [Dp.int_inv h]
    exact ⟨i, rfl, k _ H (Evl.Ex.refl H) (.int _)⟩
theorem caInt : CaD K (fun xs H Q => (∃ i, xs = [.int i] ∧ Q (.int i) H) ∨ ∃ k, xs = [.bl k] ∧ Q (.int (if k then 1 else 0)) H) [.int i] (.int i) := fun hs H xs Q ok al k => by
  cases al with
  | cons h r =>
    cases r
    rw [Dp.int_inv h]
    exact .inl ⟨i, rfl, k _ H (Evl.Ex.refl H) (.int _)⟩
theorem caDivmod (hc : 0 < j ∧ j < 1073741824) : CaD K (fun xs H Q => ∃ i j, xs = [.int i, .int j] ∧ CDiv i j ∧ ∀ p, H p = none → Q (.ref p) (upd H p (.tup [.int (i / j), .int (i % j)]))) [.int i, .int j] (.tuple [.int (i / j), .int (i % j)]) := fun hs H xs Q ok al k => by
  cases al with
  | cons h r =>
    cases r with
    | cons h2 r =>
      cases r
      rw [Dp.int_inv h, Dp.int_inv h2]
      exact ⟨i, j, rfl, hc, fun p hp => k _ _ (Ex.new hp) (new_tup ok hp (.cons (.int _) (.cons (.int _) .nil)))⟩
theorem caTupL : CaD K (fun xs H Q => ∃ p ys, xs = [.ref p] ∧ ((SqL K H p ys ∧ ∀ l, H l = none → Q (.ref l) (upd H l (.tup ys))) ∨ (SqT K H p ys ∧ Q (.ref p) H))) [.list ds] (.tuple ds) := fun hs H xs Q ok al k => by
  cases al with
  | cons h r =>
    cases r
    obtain ⟨a, ys, rfl, r2, r3⟩ := Dp.lst_inv h
    exact ⟨a, ys, rfl, .inl ⟨Evl.ex_l (hide_ex _ _) r2, fun l hl => k _ _ (Ex.new hl) (new_tup ok hl r3)⟩⟩
theorem caTupT : CaD K (fun xs H Q => ∃ p ys, xs = [.ref p] ∧ ((SqL K H p ys ∧ ∀ l, H l = none → Q (.ref l) (upd H l (.tup ys))) ∨ (SqT K H p ys ∧ Q (.ref p) H))) [.tuple ds] (.tuple ds) := fun hs H xs Q ok al k => by
  cases al with
  | cons h r =>
    cases r
    obtain ⟨a, ys, rfl, r2, r3⟩ := Dp.tup_inv h
    exact ⟨a, ys, rfl, .inr ⟨Evl.ex_t (hide_ex _ _) r2, k _ H (Evl.Ex.refl H) h⟩⟩
theorem caLstL : CaD K (fun xs H Q => ∃ p ys, xs = [.ref p] ∧ (SqL K H p ys ∨ SqT K H p ys) ∧ ∀ l, H l = none → Q (.ref l) (upd H l (.lst ys))) [.list ds] (.list ds) := fun hs H xs Q ok al k => by
  cases al with
  | cons h r =>
    cases r
    obtain ⟨a, ys, rfl, r2, r3⟩ := Dp.lst_inv h
    exact ⟨a, ys, rfl, .inl (Evl.ex_l (hide_ex _ _) r2), fun l hl => k _ _ (Ex.new hl) (new_lst ok hl r3)⟩
theorem caLstT : CaD K (fun xs H Q => ∃ p ys, xs = [.ref p] ∧ (SqL K H p ys ∨ SqT K H p ys) ∧ ∀ l, H l = none → Q (.ref l) (upd H l (.lst ys))) [.tuple ds] (.list ds) := fun hs H xs Q ok al k => by
  cases al with
  | cons h r =>
    cases r
    obtain ⟨a, ys, rfl, r2, r3⟩ := Dp.tup_inv h
    exact ⟨a, ys, rfl, .inr (Evl.ex_t (hide_ex _ _) r2), fun l hl => k _ _ (Ex.new hl) (new_lst ok hl r3)⟩
end
/-- isqrt of a number that is not too great -/
def rIsq : List V → Hp → VK → Prop := fun vs H Q => ∃ n : Int, vs = [.int n] ∧ 0 ≤ n ∧ n.toNat.log2 < 13000 ∧ Q (.int ((Float64.isqrt n.toNat : Nat) : Int)) H
theorem cr_isqrt : CallR X (.builtin "math.isqrt") rIsq := by
  intro pins s σ H vs us Q I r h
  obtain ⟨n, rfl, h0, h1, q⟩ := h
  obtain ⟨u, rfl, t, rfl⟩ := vals1 r
  exact call_function_meets PySem.W.MGF.kind_isqrt PySem.W.MGF.plain_isqrt PySem.W.MGF.entry_isqrt (PySem.W.MGF.args_isqrt _) (PySem.W.mg_run_isqrt n t (by omega) (by omega) (by omega)).meets ⟨.int _, H, I.tok _, ⟨_, rfl⟩, q⟩
theorem caIsq {K : PySem.W.Frag} (h0 : 0 ≤ i) (h1 : i.toNat.log2 < 13000) : CaD K rIsq [.int i] (.int ((Float64.isqrt i.toNat : Nat) : Int)) := fun hs H xs Q ok al k => by
  cases al with
  | cons h r =>
    cases r
    rw [Dp.int_inv h]
    exact ⟨i, rfl, h0, h1, k _ H (Evl.Ex.refl H) (.int _)⟩
/-! the calls by their names -/
section
variable {pp : Pos}
theorem de_callB {id : String} {r : List V → Hp → VK → Prop} (hc : ∀ X, InF C X → CallR X (.builtin id) r) (hv : bootBuiltins x = some (.builtin id)) (ha : DA C (e :: es) δ μ ds) (cd : CaD C.K r ds d3) (hm : NoC C x) (hg : GlC C x := by rfl) (hn : x ≠ "__name__" := by decide) (hdb : (x == ("__debug__" : Str)) = false := by decide)
    (hst : ∀ env, starEach (e :: es) env = (false, eval e env) :: starEach es env := by intro _; rfl) (hpl : ∀ env, (backTo pos (starEach es env)).any (·.1) = false := by intro _; rfl) : DE C (.Call (.Name x pp) (e :: es) [] pos) δ μ d3 := fun Φ k =>
  je_callB hc hm hv hg hn hdb hst hpl (ha _ ⟨ds, d3, rfl, cd, k⟩)
theorem de_callTy {id : String} {r : List V → Hp → VK → Prop} (hc : ∀ X, InF C X → CallR X (.type id) r) (hv : bootBuiltins x = some (.type id)) (ha : DA C (e :: es) δ μ ds) (cd : CaD C.K r ds d3) (hm : NoC C x) (hg : GlC C x := by rfl) (hn : x ≠ "__name__" := by decide) (hdb : (x == ("__debug__" : Str)) = false := by decide)
    (hst : ∀ env, starEach (e :: es) env = (false, eval e env) :: starEach es env := by intro _; rfl) (hpl : ∀ env, (backTo pos (starEach es env)).any (·.1) = false := by intro _; rfl) : DE C (.Call (.Name x pp) (e :: es) [] pos) δ μ d3 := fun Φ k =>
  je_callTy hc hm hv hg hn hdb hst hpl (ha _ ⟨ds, d3, rfl, cd, k⟩)
theorem de_callBf {id : String} {r : List V → Hp → VK → Prop} (hc : ∀ X, InF C X → CallR X (.builtin id) r) (hm : C.mg x = some (.builtin id)) (ha : DA C (e :: es) δ μ ds) (cd : CaD C.K r ds d3) (hg : GlC C x := by rfl) (hdb : (x == ("__debug__" : Str)) = false := by decide)
    (hst : ∀ env, starEach (e :: es) env = (false, eval e env) :: starEach es env := by intro _; rfl) (hpl : ∀ env, (backTo pos (starEach es env)).any (·.1) = false := by intro _; rfl) : DE C (.Call (.Name x pp) (e :: es) [] pos) δ μ d3 := fun Φ k =>
  je_callBf hc hm hg hdb hst hpl (ha _ ⟨ds, d3, rfl, cd, k⟩)
theorem lenR (hX : InF C X) : CallR X (.builtin "len") (fun xs H Q => ∃ p ys, xs = [.ref p] ∧ (SqL C.K H p ys ∨ SqT C.K H p ys) ∧ Q (.int ys.length) H) := by rw [← hX.K]; exact call_len_seq
theorem bLen : bootBuiltins "len" = some (.builtin "len") := PySem.boot_len
theorem bAll : bootBuiltins "all" = some (.builtin "all") := by decide +kernel
theorem bSum : bootBuiltins "sum" = some (.builtin "sum") := by decide +kernel
theorem bAbs : bootBuiltins "abs" = some (.builtin "abs") := by decide +kernel
theorem bDivmod : bootBuiltins "divmod" = some (.builtin "divmod") := by decide +kernel
theorem bInt : bootBuiltins "int" = some (.type "int") := by decide +kernel
theorem bBool : bootBuiltins "bool" = some (.type "bool") := by decide +kernel
theorem bStr : bootBuiltins "str" = some (.type "str") := by decide +kernel
theorem bTuple : bootBuiltins "tuple" = some (.type "tuple") := by decide +kernel
theorem bList : bootBuiltins "list" = some (.type "list") := by decide +kernel
theorem bIsi : bootBuiltins "isinstance" = some (.builtin "isinstance") := by decide +kernel
theorem de_lenL (hm : NoC C "len") (h : DE C a δ μ (.list ds)) (hg : GlC C "len" := by rfl) (hst : ∀ env, starEach [a] env = (false, eval a env) :: starEach [] env := by intro _; rfl) (hpl : ∀ env, (backTo pos (starEach [] env)).any (·.1) = false := by intro _; rfl) : DE C (.Call (.Name "len" pp) [a] [] pos) δ μ (.int ds.length) :=
  de_callB (fun _ hX => lenR hX) bLen (da_cons h da_nil hst) caLenL hm hg (by decide) (by decide) hst hpl
theorem de_lenT (hm : NoC C "len") (h : DE C a δ μ (.tuple ds)) (hg : GlC C "len" := by rfl) (hst : ∀ env, starEach [a] env = (false, eval a env) :: starEach [] env := by intro _; rfl) (hpl : ∀ env, (backTo pos (starEach [] env)).any (·.1) = false := by intro _; rfl) : DE C (.Call (.Name "len" pp) [a] [] pos) δ μ (.int ds.length) :=
  de_callB (fun _ hX => lenR hX) bLen (da_cons h da_nil hst) caLenT hm hg (by decide) (by decide) hst hpl
theorem de_all {bs : List Bool} (hm : NoC C "all") (h : DE C a δ μ (.list (bs.map .bool))) (hg : GlC C "all" := by rfl) (hst : ∀ env, starEach [a] env = (false, eval a env) :: starEach [] env := by intro _; rfl) (hpl : ∀ env, (backTo pos (starEach [] env)).any (·.1) = false := by intro _; rfl) : DE C (.Call (.Name "all" pp) [a] [] pos) δ μ (.bool (bs.all id)) :=
  de_callB (fun X hX => by have := cr_all (X := X) hX.calm; rw [hX.K] at this; exact this) bAll (da_cons h da_nil hst) caAll hm hg (by decide) (by decide) hst hpl
theorem de_sum {ns : List Int} (hm : NoC C "sum") (h : DE C a δ μ (.list (ns.map .int))) (hg : GlC C "sum" := by rfl) (hst : ∀ env, starEach [a] env = (false, eval a env) :: starEach [] env := by intro _; rfl) (hpl : ∀ env, (backTo pos (starEach [] env)).any (·.1) = false := by intro _; rfl) : DE C (.Call (.Name "sum" pp) [a] [] pos) δ μ (.int ns.sum) :=
  de_callB (fun X hX => by have := cr_sum (X := X) hX.calm; rw [hX.K] at this; exact this) bSum (da_cons h da_nil hst) caSum hm hg (by decide) (by decide) hst hpl
theorem de_abs (hm : NoC C "abs") (h : DE C a δ μ (.int i)) (hg : GlC C "abs" := by rfl) (hst : ∀ env, starEach [a] env = (false, eval a env) :: starEach [] env := by intro _; rfl) (hpl : ∀ env, (backTo pos (starEach [] env)).any (·.1) = false := by intro _; rfl) : DE C (.Call (.Name "abs" pp) [a] [] pos) δ μ (.int (if i < 0 then -i else i)) :=
  de_callB (fun _ _ => call_abs) bAbs (da_cons h da_nil hst) caAbs hm hg (by decide) (by decide) hst hpl
theorem de_intc (hm : NoC C "int") (h : DE C a δ μ (.int i)) (hg : GlC C "int" := by rfl) (hst : ∀ env, starEach [a] env = (false, eval a env) :: starEach [] env := by intro _; rfl) (hpl : ∀ env, (backTo pos (starEach [] env)).any (·.1) = false := by intro _; rfl) : DE C (.Call (.Name "int" pp) [a] [] pos) δ μ (.int i) :=
  de_callTy (fun _ _ => call_int1) bInt (da_cons h da_nil hst) caInt hm hg (by decide) (by decide) hst hpl
theorem tupR (hX : InF C X) : CallR X (.type "tuple") (fun xs H Q => ∃ p ys, xs = [.ref p] ∧ ((SqL C.K H p ys ∧ ∀ l, H l = none → Q (.ref l) (upd H l (.tup ys))) ∨ (SqT C.K H p ys ∧ Q (.ref p) H))) := by rw [← hX.K]; exact call_tuple_of
theorem lstR (hX : InF C X) : CallR X (.type "list") (fun xs H Q => ∃ p ys, xs = [.ref p] ∧ (SqL C.K H p ys ∨ SqT C.K H p ys) ∧ ∀ l, H l = none → Q (.ref l) (upd H l (.lst ys))) := by rw [← hX.K]; exact call_list_of
theorem de_tupleL (hm : NoC C "tuple") (h : DE C a δ μ (.list ds)) (hg : GlC C "tuple" := by rfl) (hst : ∀ env, starEach [a] env = (false, eval a env) :: starEach [] env := by intro _; rfl) (hpl : ∀ env, (backTo pos (starEach [] env)).any (·.1) = false := by intro _; rfl) : DE C (.Call (.Name "tuple" pp) [a] [] pos) δ μ (.tuple ds) :=
  de_callTy (fun _ hX => tupR hX) bTuple (da_cons h da_nil hst) caTupL hm hg (by decide) (by decide) hst hpl
theorem de_tupleT (hm : NoC C "tuple") (h : DE C a δ μ (.tuple ds)) (hg : GlC C "tuple" := by rfl) (hst : ∀ env, starEach [a] env = (false, eval a env) :: starEach [] env := by intro _; rfl) (hpl : ∀ env, (backTo pos (starEach [] env)).any (·.1) = false := by intro _; rfl) : DE C (.Call (.Name "tuple" pp) [a] [] pos) δ μ (.tuple ds) :=
  de_callTy (fun _ hX => tupR hX) bTuple (da_cons h da_nil hst) caTupT hm hg (by decide) (by decide) hst hpl
theorem de_listL (hm : NoC C "list") (h : DE C a δ μ (.list ds)) (hg : GlC C "list" := by rfl) (hst : ∀ env, starEach [a] env = (false, eval a env) :: starEach [] env := by intro _; rfl) (hpl : ∀ env, (backTo pos (starEach [] env)).any (·.1) = false := by intro _; rfl) : DE C (.Call (.Name "list" pp) [a] [] pos) δ μ (.list ds) :=
  de_callTy (fun _ hX => lstR hX) bList (da_cons h da_nil hst) caLstL hm hg (by decide) (by decide) hst hpl
theorem de_listT (hm : NoC C "list") (h : DE C a δ μ (.tuple ds)) (hg : GlC C "list" := by rfl) (hst : ∀ env, starEach [a] env = (false, eval a env) :: starEach [] env := by intro _; rfl) (hpl : ∀ env, (backTo pos (starEach [] env)).any (·.1) = false := by intro _; rfl) : DE C (.Call (.Name "list" pp) [a] [] pos) δ μ (.list ds) :=
  de_callTy (fun _ hX => lstR hX) bList (da_cons h da_nil hst) caLstT hm hg (by decide) (by decide) hst hpl
/-! isinstance -/
def tyD : PyData → String
  | .none => "NoneType"
  | .bool _ => "bool"
  | .int _ => "int"
  | .str _ => "str"
  | .list _ => "list"
  | .tuple _ => "tuple"
  | .dict _ => "dict"
theorem tyX_of {K : PySem.W.Frag} {H : Hp} {v : V} (h : Dp K H v d) : TyX K H v (.type (tyD d)) := by
  cases h with
  | non => exact .base .non
  | bl b => exact .base (.bl b)
  | int i => exact .base (.int i)
  | str x => exact .base (.str x)
  | lst h a =>
    rcases h with (h | ⟨o, h⟩) | ⟨o, its, n, h, hc, _⟩
    · exact .base (.lst h)
    · exact .base (.frz h)
    · exact .kList h hc
  | tup h a =>
    rcases h with (h | ⟨o, h⟩) | ⟨o, its, n, h, hc, _⟩
    · exact .base (.tup h)
    · exact .fTuple h
    · exact .kTuple h hc
theorem de_isi {T : Str} {Ts : String} {k : Bool} {pt : Pos} (hm : NoC C "isinstance") (hT : NoC C T) (hv : bootBuiltins T = some (.type Ts)) (h : DE C a δ μ d) (hk : kitB (tyD d) Ts = some k) (hg : GlC C "isinstance" := by rfl) (hgT : GlC C T := by rfl)
    (hn : T ≠ "__name__" := by decide) (hdb : (T == ("__debug__" : Str)) = false := by decide)
    (hst : ∀ env, starEach [a, .Name T pt] env = (false, eval a env) :: starEach [.Name T pt] env := by intro _; rfl) (hst2 : ∀ env, starEach [.Name T pt] env = (false, eval (.Name T pt) env) :: starEach [] env := by intro _; rfl)
    (hpl : ∀ env, (backTo pos (starEach [.Name T pt] env)).any (·.1) = false := by intro _; rfl) : DE C (.Call (.Name "isinstance" pp) [a, .Name T pt] [] pos) δ μ (.bool k) := fun Φ q hs σ H as S Q kk =>
  ⟨tCB (rIsi C.K) (tCons (WE C a) (tCons (tC (.ty Ts)) tNil)), fun X hX => pe_callB (by rw [← hX.K]; exact call_isi) (gl hX hg) (by rw [hX.mg]; exact hm) bIsi (pa_cons (we hX) (pa_cons (pe_bltn (gl hX hgT) (by rw [hX.mg]; exact hT) hv rfl hn hdb) pa_nil (hst2 _)) (hst _)) (by decide) (by decide) (hst _) (hpl _),
    h (fun s μ1 => s = .dat d ∧ μ1 = μ) ⟨rfl, rfl⟩ hs σ H as S _ fun v H1 s μ1 as1 n1 m1 sv ⟨e1, e2⟩ => by
      subst e1 e2
      exact ⟨v, .ty Ts, .type (tyD d), .type Ts, k, rfl, .ty Ts, tyX_of (Dp.mono (hide_ex _ _) sv), kit_ty hk, kk _ H1 (.dat (.bool k)) _ as1 n1 m1 (.bl _) q⟩⟩
end
/-! ### numbers -/
theorem de_mul (hc : CMulW i j) (ha : DE C a δ μ (.int i)) (hb : DE C b δ μ (.int j)) : DE C (.BinOp a .Mult b pos) δ μ (.int (i * j)) := de_op (fun _ _ => op_mulW) ha hb (opI hc fun _ => .int _)
theorem de_fdiv (hc : CDivW i j) (ha : DE C a δ μ (.int i)) (hb : DE C b δ μ (.int j)) : DE C (.BinOp a .FloorDiv b pos) δ μ (.int (i / j)) := de_op (fun _ _ => op_fdivW) ha hb (opI hc fun _ => .int _)
theorem de_mod (hc : 0 < j) (ha : DE C a δ μ (.int i)) (hb : DE C b δ μ (.int j)) : DE C (.BinOp a .Mod b pos) δ μ (.int (i % j)) := de_op (fun _ _ => op_mod) ha hb (opI hc fun _ => .int _)
theorem de_pow (hc : 0 ≤ j ∧ j ≤ 1000000 ∧ i.natAbs < 2 ^ 64) (ha : DE C a δ μ (.int i)) (hb : DE C b δ μ (.int j)) : DE C (.BinOp a .Pow b pos) δ μ (.int (i ^ j.toNat)) := de_op (fun _ _ => op_pow) ha hb (opI hc fun _ => .int _)
/-! ### tuples, lists put together -/
theorem opCatT {K : PySem.W.Frag} {es' : List PyData} (hl : ds.length + es'.length ≤ 1000) : OpD K (rCatA K) (.tuple ds) (.tuple es') (.tuple (ds ++ es')) := fun hs H x y Q ok h1 h2 k => by
  obtain ⟨a, xs, r1, r2, r3⟩ := Dp.tup_inv h1
  obtain ⟨b, ys, t1, t2, t3⟩ := Dp.tup_inv h2
  have l1 := DpAll.len r3
  have l2 := DpAll.len t3
  refine ⟨a, b, xs, ys, r1, t1, Evl.ex_t (hide_ex _ _) r2, Evl.ex_t (hide_ex _ _) t2, sz (by omega), fun e => ?_, fun _ e => ?_, fun _ _ p hp => ?_⟩
  · subst e
    have : ds = [] := List.eq_nil_of_length_eq_zero l1.symm
    subst this
    rw [← t1]
    exact k y H (Evl.Ex.refl H) h2
  · subst e
    have : es' = [] := List.eq_nil_of_length_eq_zero l2.symm
    subst this
    rw [← r1, List.append_nil] at *
    exact k x H (Evl.Ex.refl H) h1
  · exact k _ _ (Ex.new hp) (new_tup ok hp (DpAll.app r3 t3))
theorem catR (hX : InF C X) : OpR X (binaryOp .Add) (rCatA C.K) := by rw [← hX.K]; exact op_catA
theorem de_catT {es' : List PyData} (ha : DE C a δ μ (.tuple ds)) (hb : DE C b δ μ (.tuple es')) (hl : ds.length + es'.length ≤ 1000) : DE C (.BinOp a .Add b pos) δ μ (.tuple (ds ++ es')) := de_op (fun _ hX => catR hX) ha hb (opCatT hl)
/-! ### in -/
theorem opInT {K : PySem.W.Frag} {xs : List Str} {z : Str} : OpD K (rIn K false) (.str z) (.tuple (xs.map .str)) (.bool (xs.contains z)) := fun hs H x y Q ok h1 h2 k => by
  obtain ⟨a, vs, r1, r2, r3⟩ := Dp.tup_inv h2
  have key : ∀ {vs : List V} {xs : List Str}, DpAll K (hide hs H) vs (xs.map .str) → vs = xs.map V.str := by
    intro vs xs
    induction xs generalizing vs with
    | nil => intro h; cases h; rfl
    | cons x r ih => intro h; cases h with | cons h1 h2 => rw [Dp.str_inv h1, ih h2]; rfl
  have e := key r3
  subst e
  refine ⟨a, _, r1, .inr (Evl.ex_t (hide_ex _ _) r2), by rw [Dp.str_inv h1]; rfl, by rw [List.all_map]; exact List.all_eq_true.mpr fun _ _ => rfl, ?_⟩
  have : inV x (xs.map V.str) = xs.contains z := by
    rw [Dp.str_inv h1]
    unfold inV
    rw [List.any_map, List.contains_eq_any_beq]
    congr 1
    funext w
    show eqV (.str w) (.str z) = (z == w)
    rw [Bool.eq_iff_iff]
    simp [eqV]
    exact eq_comm
  rw [if_neg Bool.false_ne_true, this]
  exact k _ H (Evl.Ex.refl H) (.bl _)
end K79
end
section
set_option Elab.async false
set_option linter.all false
set_option maxRecDepth 100000
namespace K79
open PySem PySem.Spec PyProof.Rows L2
open Evl (Ex)
variable {C : Ctx} {X : Cx} {e a b c : Expr} {es : List Expr} {δ : En} {μ : Mem} {Φ Ψ : SV → Mem → Prop} {pos : Pos} {d d1 d2 d3 : PyData} {ds : List PyData} {x : Str} {i j : Int} {p q : Bool} {E : AE} {rest body : List Stmt}
/-! ### targets -/
def WG (C : Ctx) (tg : Expr) : TG := fun v σ H Q => ∃ t, (∀ X, InF C X → PG X tg t) ∧ t v σ H Q
theorem wg {tg : Expr} (hX : InF C X) : PG X tg (WG C tg) := ⟨fun pins s σ H v u Q I r ⟨t, h, q⟩ => (h X hX).run pins s σ H v u Q I r q⟩
def WGs (C : Ctx) (tg : List Expr) : TGs := fun v σ H Q => ∃ t, (∀ X, InF C X → PGs X tg t) ∧ t v σ H Q
theorem wgs {tg : List Expr} (hX : InF C X) : PGs X tg (WGs C tg) := ⟨fun pins s σ H v u Q I r ⟨t, h, q⟩ => (h X hX).run pins s σ H v u Q I r q⟩
def JG (C : Ctx) (tg : Expr) (s : SV) (δ : En) (μ : Mem) (Φ : En → Mem → Prop) : Prop := ∀ (hs : List Addr) (σ : L2.St) (H : Hp) (as : List Addr) (v : V), StOk C.K hs as H σ δ μ → SVok C.K (kn hs as μ H) as v s → ∀ Q : L2.St → Hp → Prop,
  (∀ σ' H' δ' μ' as', Nxt as μ H as' μ' H' → StOk C.K hs as' H' σ' δ' μ' → Φ δ' μ' → Q σ' H') → WG C tg v σ H Q
def JGs (C : Ctx) (tgs : List Expr) (ss : List SV) (δ : En) (μ : Mem) (Φ : En → Mem → Prop) : Prop := ∀ (hs : List Addr) (σ : L2.St) (H : Hp) (as : List Addr) (vs : List V), StOk C.K hs as H σ δ μ → SVs C.K (kn hs as μ H) as vs ss → ∀ Q : L2.St → Hp → Prop,
  (∀ σ' H' δ' μ' as', Nxt as μ H as' μ' H' → StOk C.K hs as' H' σ' δ' μ' → Φ δ' μ' → Q σ' H') → WGs C tgs vs σ H Q
/-- a name that may be stored -/
structure Nm (C : Ctx) (i : Nat) (x : Str) : Prop where
  nd : C.N.Nodup
  at_ : C.N[i]? = some x
  loc : L2.Loc C.sc x
  fn : C.fn x = true ∨ C.sc.names.lookup x = some .local
theorem Nm.pg {k : Nat} {pos : Pos} (h : Nm C k x) (hX : InF C X) : PG X (.Name x pos) (gName k) := pg_name (by rw [hX.N]; exact h.nd) (by rw [hX.N]; exact h.at_) (by unfold L2.Loc; rw [hX.sc]; exact h.loc) (by rw [hX.fn, hX.sc]; exact h.fn)
theorem jg_name {k : Nat} {s : SV} {Φ : En → Mem → Prop} (hN : Nm C k x) (h : Φ (δ.set k (some s)) μ) : JG C (.Name x pos) s δ μ Φ := fun hs σ H as v S sv Q kk =>
  ⟨gName k, fun X hX => hN.pg hX, kk _ H _ μ as (Nxt.refl _ _ _) (S.set sv) h⟩
theorem jgs_nil {Φ : En → Mem → Prop} (h : Φ δ μ) : JGs C [] [] δ μ Φ := fun hs σ H as vs S sv Q kk =>
  ⟨gNil, fun X _ => pgs_nil, by
    cases vs with
    | nil => exact ⟨rfl, kk _ H _ μ as (Nxt.refl _ _ _) S h⟩
    | cons _ _ => exact False.elim sv⟩
theorem jgs_cons {tg : Expr} {tgs : List Expr} {s : SV} {ss : List SV} {Φ : En → Mem → Prop} (h : JG C tg s δ μ fun δ1 μ1 => JGs C tgs ss δ1 μ1 Φ)
    (hst : ∀ env, (assignEach (tg :: tgs) env).map (·.2) = assign tg env :: (assignEach tgs env).map (·.2) := by intro _; rfl) : JGs C (tg :: tgs) (s :: ss) δ μ Φ := fun hs σ H as vs S sv Q kk =>
  ⟨gCons (WG C tg) (WGs C tgs), fun X hX => pgs_cons (wg hX) (wgs hX) (hst _), by
    cases vs with
    | nil => exact False.elim sv
    | cons v vs =>
      obtain ⟨sv1, sv2⟩ := sv
      exact ⟨v, vs, rfl, h hs σ H as v S sv1 _ fun σ' H' δ' μ' as' n S' g => g hs σ' H' as' vs S' (sv2.mono n.ex n.pre) Q fun σ2 H2 δ2 μ2 as2 n2 S2 p => kk σ2 H2 δ2 μ2 as2 (n.trans n2) S2 p⟩⟩
theorem jg_tup {tgs : List Expr} {k : Nat} {Φ : En → Mem → Prop} (h : JGs C tgs (ds.map .dat) δ μ Φ) (hl : ds.length = tgs.length := by rfl)
    (hn : ∀ env, (assignEach tgs env).length = tgs.length := by intro _; rfl) (hst : ∀ env, (assignEach tgs env).findIdx? (·.1) = none := by intro _; rfl) : JG C (.Tuple tgs k pos) (.dat (.tuple ds)) δ μ Φ := fun hs σ H as v S sv Q kk =>
  ⟨gTup C.K tgs.length (WGs C tgs), fun X hX => by
    have := pg_tup (k := k) (pos := pos) hX.calm (wgs (tg := tgs) hX) (hn _) (hst _)
    rw [hX.K] at this; exact this, by
    obtain ⟨a, xs, r1, r2, r3⟩ := Dp.tup_inv sv
    exact ⟨a, xs, r1, Evl.ex_t (hide_ex _ _) r2, by rw [DpAll.len r3]; exact hl, h hs σ H as xs S (SVs.of r3) Q kk⟩⟩
theorem ixN_nat {n j : Nat} (hj : j < n) : ixN n (j : Int) = some j := Evl.ixN_nat hj
/-- o[k] = v, o a list that may change -/
theorem jg_setM {n : Nat} {k : Nat} {Φ : En → Mem → Prop} (ha : DL C a δ μ n) (hb : DE C b δ μ (.int (k : Int))) (hμ : μ[n]? = some (some ds)) (hk : k < ds.length) (h : Φ δ (μ.set n (some (ds.set k d))))
    (hasg : ∀ env v, assign (.Subscript a b pos) env v = (do
      let ov ← holding [v] (eval a env)
      let iv ← holding [v, ov] (eval b env)
      standAt pos
      holding [v, ov, iv] (setItem ov iv v)
      release [v, ov, iv] []) := by intro _ _; rfl) : JG C (.Subscript a b pos) (.dat d) δ μ Φ := fun hs σ H as v S sv Q kk =>
  ⟨gSub (WE C a) (WE C b) rSetL, fun X hX => pg_sub (we hX) (we hX) set_list (hasg _), ha (fun s μ1 => s = .loc n ∧ μ1 = μ) ⟨rfl, rfl⟩ hs σ H as S _ fun o H1 s1 μ1 as1 n1 m1 sv1 ⟨e1, e2⟩ => by
    subst e1 e2
    refine hb (fun s μ2 => s = .dat (.int (k : Int)) ∧ μ2 = μ1) ⟨rfl, rfl⟩ hs σ H1 as1 (S.next n1 m1) _ fun y H2 s2 μ2 as2 n2 m2 sv2 ⟨e1, e2⟩ => ?_
    subst e1 e2
    obtain ⟨a', ws, q1, q2, q3, q4⟩ := m2.sq (sv1.mono n2.ex n2.pre) hμ
    have dv : Dp C.K (kn hs as2 _ H2) v d := Dp.mono (n1.trans n2).ex sv
    obtain ⟨m3, n3⟩ := m2.put q2 hμ (DpAll.set dv k q4)
    refine ⟨a', ws, (k : Int), k, q1, Dp.int_inv sv2, q3, ixN_nat (by rw [DpAll.len q4]; exact hk), ?_⟩
    exact kk σ _ δ _ as2 ((n1.trans n2).trans n3) (((S.next n1 m1).next n2 m2).next n3 m3) h⟩
/-! ### blocks -/
theorem js_nil (h : E.nx δ μ) : JS C [] δ μ E := fun hs σ H as S D k => ⟨tNext, fun X _ => pss_nil, k.nx σ H δ μ as (Nxt.refl _ _ _) S h⟩
theorem js_ret (h : JE C e δ μ E.rt) : JS C (.Return (some e) pos :: rest) δ μ E := fun hs σ H as S D k =>
  ⟨tSeq (tRet (WE C e)) tNever, fun X hX => pss_cons (ps_ret (we hX)) pss_never, h hs σ H as S _ fun v H2 s μ2 as2 n m sv p => k.rt v H2 s μ2 as2 n m sv p⟩
theorem js_brk (h : E.bk δ μ) : JS C (.Break pos :: rest) δ μ E := fun hs σ H as S D k => ⟨tSeq tBreak tNever, fun X hX => pss_cons ps_break pss_never, k.bk σ H δ μ as (Nxt.refl _ _ _) S h⟩
theorem js_asg {tg : Expr} (h : JE C e δ μ fun s μ1 => JG C tg s δ μ1 fun δ2 μ2 => JS C rest δ2 μ2 E) (hs1 : ∀ env : Env, env.scope = C.sc → swapsWithSole [tg] e pos.line env = pure false := by intro env he; cases env; cases he; rfl)
    (hw : ∀ env : Env, env.scope = C.sc → swappedStores [tg] e env = pure none := by intro env he; cases env; cases he; rfl) (h1 : ∀ env, (assignEach [tg] env).map (·.2) = [assign tg env] := by intro _; rfl) : JS C (.Assign [tg] e pos :: rest) δ μ E := fun hs σ H as S D k =>
  ⟨tSeq (tAsg (WE C e) (WG C tg)) (WB C rest), fun X hX => pss_cons (ps_asg (we hX) (wg hX) (hs1 _ hX.sc) (hw _ hX.sc) (h1 _)) (wb hX), h hs σ H as S _ fun v H1 s1 μ1 as1 n1 m1 sv g =>
    g hs σ H1 as1 v (S.next n1 m1) sv _ fun σ2 H2 δ2 μ2 as2 n2 S2 r => r hs σ2 H2 as2 S2 D (k.after (n1.trans n2))⟩
theorem js_set (kk : Nat) {p' : Pos} (hN : Nm C kk x) (h : JE C e δ μ fun s μ1 => JS C rest (δ.set kk (some s)) μ1 E) (hs1 : ∀ env : Env, swapsWith e (some (.Name x p')) pos.line env = pure false := by intro _; rfl) : JS C (.Assign [.Name x p'] e pos :: rest) δ μ E := fun hs σ H as S D k =>
  ⟨tSeq (tAsg (WE C e) (gName kk)) (WB C rest), fun X hX => pss_cons (ps_set (by rw [hX.N]; exact hN.nd) (by rw [hX.N]; exact hN.at_) (by unfold L2.Loc; rw [hX.sc]; exact hN.loc) (we hX) (hs1 _) (by rw [hX.fn, hX.sc]; exact hN.fn)) (wb hX), h hs σ H as S _ fun v H1 s1 μ1 as1 n1 m1 sv g =>
    g hs _ H1 as1 ((S.next n1 m1).set sv) D (k.after n1)⟩
theorem js_setD (kk : Nat) {p' : Pos} (hN : Nm C kk x) (h : DE C e δ μ d) (r : JS C rest (δ.set kk (some (.dat d))) μ E) (hs1 : ∀ env : Env, swapsWith e (some (.Name x p')) pos.line env = pure false := by intro _; rfl) : JS C (.Assign [.Name x p'] e pos :: rest) δ μ E := js_set kk hN (h _ r) hs1
/-- a, b = e, f with two plain names -/
theorem js_par (k1 k2 : Nat) {y : Str} {px py pt : Pos} {kt k3 pt2} (hi : C.N[k1]? = some x) (hj : C.N[k2]? = some y) (hij : k1 ≠ k2) (hN : C.N.Nodup) (hx : C.sc.names.lookup x = some .local) (hy : C.sc.names.lookup y = some .local)
    (h : JE C a δ μ fun s1 μ1 => JE C b δ μ1 fun s2 μ2 => JS C rest ((δ.set k1 (some s1)).set k2 (some s2)) μ2 E)
    (hst1 : ∀ env, starEach [a, b] env = (false, eval a env) :: starEach [b] env := by intro _; rfl) (hst2 : ∀ env, starEach [b] env = (false, eval b env) :: starEach [] env := by intro _; rfl)
    (hw : ∀ env : Env, env.scope = C.sc → swappedStores [.Tuple [.Name x px, .Name y py] kt pt] (.Tuple [a, b] k3 pt2) env = pure (some [x, y]) := by intro env he; cases env; cases he; rfl)
    (hs1 : ∀ env : Env, swapsWithSole [.Tuple [.Name x px, .Name y py] kt pt] (.Tuple [a, b] k3 pt2) pos.line env = pure false := by intro _; rfl) :
    JS C (.Assign [.Tuple [.Name x px, .Name y py] kt pt] (.Tuple [a, b] k3 pt2) pos :: rest) δ μ E := fun hs σ H as S D k =>
  ⟨tSeq (tPar k1 k2 (tCons (WE C a) (tCons (WE C b) tNil))) (WB C rest), fun X hX => pss_cons (ps_par hX.calm (by rw [hX.N]; exact hN) (by rw [hX.N]; exact hi) (by rw [hX.N]; exact hj) hij (by rw [hX.sc]; exact hx) (by rw [hX.sc]; exact hy) (pa_cons (we hX) (pa_cons (we hX) pa_nil (hst2 _)) (hst1 _)) (hw _ hX.sc) (hs1 _)) (wb hX),
    h hs σ H as S _ fun v H1 s1 μ1 as1 n1 m1 sv1 g => g hs σ H1 as1 (S.next n1 m1) _ fun w' H2 s2 μ2 as2 n2 m2 sv2 r =>
      ⟨v, w', rfl, r hs _ H2 as2 ((((S.next n1 m1).next n2 m2).set (sv1.mono n2.ex n2.pre)).set sv2) D (k.after (n1.trans n2))⟩⟩
/-- if: N is what stands behind it -/
theorem js_if {u v : List Stmt} (N : En → Mem → Prop) (h : JT C c δ μ fun q μ1 => (q = true → JS C u δ μ1 { E with nx := N }) ∧ (q = false → JS C v δ μ1 { E with nx := N })) (r : ∀ δ' μ', N δ' μ' → JS C rest δ' μ' E) : JS C (.If c u v pos :: rest) δ μ E := fun hs σ H as S D k =>
  ⟨tSeq (tIfS (WT C c) (WB C u) (WB C v)) (WB C rest), fun X hX => pss_cons (ps_if (wt hX) (wb hX) (wb hX)) (wb hX), h hs σ H as S _ fun q H1 μ1 as1 n1 m1 ⟨h1, h2⟩ => by
    have ek : EOk C.K hs as1 μ1 H1 { E with nx := N } { D with nx := WB C rest D } := (k.after n1).nx' fun σ' H' δ' μ' as' n' S' p => r δ' μ' p hs σ' H' as' S' D (k.after (n1.trans n'))
    cases q with
    | true =>
      rw [if_pos rfl]
      exact h1 rfl hs σ H1 as1 (S.next n1 m1) _ ek
    | false =>
      rw [if_neg Bool.false_ne_true]
      exact h2 rfl hs σ H1 as1 (S.next n1 m1) _ ek⟩
/-- if c: .. return, the rest -/
theorem js_ifr {u : List Stmt} (h : DT C c δ μ q) (h1 : q = true → JS C u δ μ { E with nx := fun _ _ => False }) (r : q = false → JS C rest δ μ E) : JS C (.If c u [] pos :: rest) δ μ E := by
  cases q with
  | true => exact js_if (fun _ _ => False) (h _ ⟨fun _ => h1 rfl, fun z => nomatch z⟩) fun _ _ z => False.elim z
  | false => exact js_if (fun δ' μ' => δ' = δ ∧ μ' = μ) (h _ ⟨fun z => (nomatch z), fun _ => js_nil ⟨rfl, rfl⟩⟩) fun δ' μ' ⟨e1, e2⟩ => by rw [e1, e2]; exact r rfl
/-- if c: .. that goes on -/
theorem js_ifn {u : List Stmt} (N : En → Mem → Prop) (h : DT C c δ μ q) (h1 : q = true → JS C u δ μ { E with nx := N }) (h2 : q = false → N δ μ) (r : ∀ δ' μ', N δ' μ' → JS C rest δ' μ' E) : JS C (.If c u [] pos :: rest) δ μ E :=
  js_if N (h _ ⟨h1, fun z => js_nil (h2 z)⟩) r
theorem js_expr (h : JE C e δ μ fun _ μ1 => JS C rest δ μ1 E) (hs1 : ∀ env : Env, swapsWith e none pos.line env = pure false := by intro _; rfl) : JS C (.Expr e pos :: rest) δ μ E := fun hs σ H as S D k =>
  ⟨tSeq (tDrop (WE C e)) (WB C rest), fun X hX => pss_cons (ps_expr (we hX) (hs1 _)) (wb hX), h hs σ H as S _ fun v H1 s1 μ1 as1 n1 m1 sv g => g hs σ H1 as1 (S.next n1 m1) D (k.after n1)⟩
theorem JS.imp {E' : AE} (h : JS C rest δ μ E) (h1 : ∀ δ' μ', E.nx δ' μ' → E'.nx δ' μ') (h2 : ∀ s μ', E.rt s μ' → E'.rt s μ') (h3 : ∀ δ' μ', E.bk δ' μ' → E'.bk δ' μ') (h4 : ∀ δ' μ', E.ct δ' μ' → E'.ct δ' μ') : JS C rest δ μ E' := fun hs σ H as S D k =>
  h hs σ H as S D ⟨fun _ _ _ _ _ n S' p => k.nx _ _ _ _ _ n S' (h1 _ _ p), fun _ _ _ _ _ n m s p => k.rt _ _ _ _ _ n m s (h2 _ _ p), fun _ _ _ _ _ n S' p => k.bk _ _ _ _ _ n S' (h3 _ _ p), fun _ _ _ _ _ n S' p => k.ct _ _ _ _ _ n S' (h4 _ _ p)⟩
/-! ### loops -/
/-- over data: a list -/
theorem js_forL {y : Str} {py : Pos} (kk : Nat) (hN : Nm C kk y) (Iv : Nat → En → Mem → Prop) (hi : JE C a δ μ fun s μ1 => s = .dat (.list ds) ∧ Iv 0 δ μ1)
    (hs1 : ∀ n d δ1 μ1, ds[n]? = some d → Iv n δ1 μ1 → JS C body (δ1.set kk (some (.dat d))) μ1 { nx := Iv (n + 1), ct := Iv (n + 1), rt := E.rt, bk := fun δ2 μ2 => JS C rest δ2 μ2 E }) (hd : ∀ δ1 μ1, Iv ds.length δ1 μ1 → JS C rest δ1 μ1 E)
    (hf : ∀ env x, foldedSetIterable a env x = pure x := by intro _ _; rfl) : JS C (.For (.Name y py) a body [] pos :: rest) δ μ E := fun hs σ H as S D k =>
  ⟨tSeq (tFor (iList C.K (WE C a)) (gName kk) (WB C body)) (WB C rest), fun X hX => pss_cons (ps_for (by rw [hX.xe]; exact PassesOwn.never) hX.calm (by rw [← hX.K]; exact pi_list (we hX)) (hN.pg hX) (wb hX) (hf _)) (wb hX),
    hi hs σ H as S _ fun v H1 s1 μ1 as1 n1 m1 sv ⟨e1, i0⟩ => by
      subst e1
      obtain ⟨a', xs, r1, r2, r3⟩ := Dp.lst_inv sv
      refine ⟨a', r1, ⟨xs, Evl.ex_l (hide_ex _ _) r2⟩, ?_⟩
      refine for_list (xs := xs) (fun n σ' H' => ∃ as' δ' μ', Nxt as1 μ1 H1 as' μ' H' ∧ StOk C.K hs as' H' σ' δ' μ' ∧ Iv n δ' μ') ⟨as1, δ, μ1, Nxt.refl _ _ _, S.next n1 m1, i0⟩ ?_ ?_ ?_
      · rintro n σ' H' _ ⟨as', δ', μ', n2, S2, _⟩
        exact Evl.ex_l (hide_ex _ _) (Evl.ex_l n2.ex r2)
      · rintro n v σ' H' hv ⟨as', δ', μ', n2, S2, iv⟩
        obtain ⟨d, hd1, hd2⟩ := DpAll.get' r3 hv
        have ds := hs1 n d δ' μ' hd1 iv hs _ H' as' (S2.set (s := .dat d) (v := v) (Dp.mono n2.ex hd2))
        refine ds _ ⟨fun σ3 H3 δ3 μ3 as3 n3 S3 p => ⟨as3, δ3, μ3, n2.trans n3, S3, p⟩, fun w' H3 s3 μ3 as3 n3 m3 sv3 p => k.rt w' H3 s3 μ3 as3 ((n1.trans n2).trans n3) m3 sv3 p, fun σ3 H3 δ3 μ3 as3 n3 S3 p => p hs σ3 H3 as3 S3 D (k.after ((n1.trans n2).trans n3)), fun σ3 H3 δ3 μ3 as3 n3 S3 p => ⟨as3, δ3, μ3, n2.trans n3, S3, p⟩⟩
      · rintro σ' H' ⟨as', δ', μ', n2, S2, iv⟩
        rw [DpAll.len r3] at iv
        exact hd δ' μ' iv hs σ' H' as' S2 D (k.after (n1.trans n2))⟩
/-- .. a tuple -/
theorem js_forT {y : Str} {py : Pos} (kk : Nat) (hN : Nm C kk y) (Iv : Nat → En → Mem → Prop) (hi : JE C a δ μ fun s μ1 => s = .dat (.tuple ds) ∧ Iv 0 δ μ1)
    (hs1 : ∀ n d δ1 μ1, ds[n]? = some d → Iv n δ1 μ1 → JS C body (δ1.set kk (some (.dat d))) μ1 { nx := Iv (n + 1), ct := Iv (n + 1), rt := E.rt, bk := fun δ2 μ2 => JS C rest δ2 μ2 E }) (hd : ∀ δ1 μ1, Iv ds.length δ1 μ1 → JS C rest δ1 μ1 E)
    (hf : ∀ env x, foldedSetIterable a env x = pure x := by intro _ _; rfl) : JS C (.For (.Name y py) a body [] pos :: rest) δ μ E := fun hs σ H as S D k =>
  ⟨tSeq (tFor (iTup C.K (WE C a)) (gName kk) (WB C body)) (WB C rest), fun X hX => pss_cons (ps_for (by rw [hX.xe]; exact PassesOwn.never) hX.calm (by rw [← hX.K]; exact pi_tup (we hX)) (hN.pg hX) (wb hX) (hf _)) (wb hX),
    hi hs σ H as S _ fun v H1 s1 μ1 as1 n1 m1 sv ⟨e1, i0⟩ => by
      subst e1
      obtain ⟨a', xs, r1, r2, r3⟩ := Dp.tup_inv sv
      refine ⟨a', r1, ⟨xs, Evl.ex_t (hide_ex _ _) r2⟩, ?_⟩
      refine for_tup (xs := xs) (fun n σ' H' => ∃ as' δ' μ', Nxt as1 μ1 H1 as' μ' H' ∧ StOk C.K hs as' H' σ' δ' μ' ∧ Iv n δ' μ') ⟨as1, δ, μ1, Nxt.refl _ _ _, S.next n1 m1, i0⟩ ?_ ?_ ?_
      · rintro n σ' H' _ ⟨as', δ', μ', n2, S2, _⟩
        exact Evl.ex_t (hide_ex _ _) (Evl.ex_t n2.ex r2)
      · rintro n v σ' H' hv ⟨as', δ', μ', n2, S2, iv⟩
        obtain ⟨d, hd1, hd2⟩ := DpAll.get' r3 hv
        have ds := hs1 n d δ' μ' hd1 iv hs _ H' as' (S2.set (s := .dat d) (v := v) (Dp.mono n2.ex hd2))
        refine ds _ ⟨fun σ3 H3 δ3 μ3 as3 n3 S3 p => ⟨as3, δ3, μ3, n2.trans n3, S3, p⟩, fun w' H3 s3 μ3 as3 n3 m3 sv3 p => k.rt w' H3 s3 μ3 as3 ((n1.trans n2).trans n3) m3 sv3 p, fun σ3 H3 δ3 μ3 as3 n3 S3 p => p hs σ3 H3 as3 S3 D (k.after ((n1.trans n2).trans n3)), fun σ3 H3 δ3 μ3 as3 n3 S3 p => ⟨as3, δ3, μ3, n2.trans n3, S3, p⟩⟩
      · rintro σ' H' ⟨as', δ', μ', n2, S2, iv⟩
        rw [DpAll.len r3] at iv
        exact hd δ' μ' iv hs σ' H' as' S2 D (k.after (n1.trans n2))⟩
/-- .. range(n) -/
theorem js_forR {y : Str} {py pr pc : Pos} (kk : Nat) (hN : Nm C kk y) (Iv : Nat → En → Mem → Prop) (n : Nat) (hn : n ≤ 100000) (hm : NoC C "range") (hi : JE C a δ μ fun s μ1 => s = .dat (.int (n : Int)) ∧ Iv 0 δ μ1)
    (hs1 : ∀ m δ1 μ1, m < n → Iv m δ1 μ1 → JS C body (δ1.set kk (some (.dat (.int (m : Int))))) μ1 { nx := Iv (m + 1), ct := Iv (m + 1), rt := E.rt, bk := fun δ2 μ2 => JS C rest δ2 μ2 E }) (hd : ∀ δ1 μ1, Iv n δ1 μ1 → JS C rest δ1 μ1 E)
    (hg : GlC C "range" := by rfl) (hst : ∀ env, starEach [a] env = (false, eval a env) :: starEach [] env := by intro _; rfl) (hst2 : ∀ env, starEach [a] env = [(false, eval a env)] := by intro _; rfl)
    (hf : ∀ env x, foldedSetIterable (.Call (.Name "range" pr) [a] [] pc) env x = pure x := by intro _ _; rfl) : JS C (.For (.Name y py) (.Call (.Name "range" pr) [a] [] pc) body [] pos :: rest) δ μ E := fun hs σ H as S D k =>
  ⟨tSeq (tFor (iRng1 (tCons (WE C a) tNil)) (gName kk) (WB C body)) (WB C rest), fun X hX => pss_cons (ps_for (by rw [hX.xe]; exact PassesOwn.never) hX.calm (pi_range1 (gl hX hg) (by rw [hX.mg]; exact hm) (pa_cons (we hX) pa_nil (hst _)) (hst2 _)) (hN.pg hX) (wb hX) (hf _)) (wb hX),
    hi hs σ H as S _ fun v H1 s1 μ1 as1 n1 m1 sv ⟨e1, i0⟩ => by
      subst e1
      rw [Dp.int_inv sv]
      refine ⟨(n : Int), rfl, by omega, by omega, ?_⟩
      refine for_range (lo := 0) (n := n) (fun m σ' H' => ∃ as' δ' μ', Nxt as1 μ1 H1 as' μ' H' ∧ StOk C.K hs as' H' σ' δ' μ' ∧ Iv m δ' μ') ⟨as1, δ, μ1, Nxt.refl _ _ _, S.next n1 m1, i0⟩ ?_ ?_
      · rintro m σ' H' hm ⟨as', δ', μ', n2, S2, iv⟩
        rw [Int.zero_add]
        have ds := hs1 m δ' μ' hm iv hs _ H' as' (S2.set (s := .dat (.int (m : Int))) (v := .int (m : Int)) (.int _))
        refine ds _ ⟨fun σ3 H3 δ3 μ3 as3 n3 S3 p => ⟨as3, δ3, μ3, n2.trans n3, S3, p⟩, fun w' H3 s3 μ3 as3 n3 m3 sv3 p => k.rt w' H3 s3 μ3 as3 ((n1.trans n2).trans n3) m3 sv3 p, fun σ3 H3 δ3 μ3 as3 n3 S3 p => p hs σ3 H3 as3 S3 D (k.after ((n1.trans n2).trans n3)), fun σ3 H3 δ3 μ3 as3 n3 S3 p => ⟨as3, δ3, μ3, n2.trans n3, S3, p⟩⟩
      · rintro σ' H' ⟨as', δ', μ', n2, S2, iv⟩
        exact hd δ' μ' iv hs σ' H' as' S2 D (k.after (n1.trans n2))⟩
/-- while, by a measure -/
theorem js_while (Iv : Nat → En → Mem → Prop) (m0 : Nat) (h0 : Iv m0 δ μ)
    (hs1 : ∀ m δ1 μ1, Iv m δ1 μ1 → ∃ q, DT C c δ1 μ1 q ∧ (q = true → JS C body δ1 μ1 { nx := fun δ2 μ2 => ∃ m', m' < m ∧ Iv m' δ2 μ2, ct := fun δ2 μ2 => ∃ m', m' < m ∧ Iv m' δ2 μ2, rt := E.rt, bk := fun δ2 μ2 => JS C rest δ2 μ2 E }) ∧ (q = false → JS C rest δ1 μ1 E)) :
    JS C (.While c body [] pos :: rest) δ μ E := fun hs σ H as S D k =>
  ⟨tSeq (tWhile (WT C c) (WB C body)) (WB C rest), fun X hX => pss_cons (ps_while (by rw [hX.xe]; exact PassesOwn.never) (wt hX) (wb hX)) (wb hX), by
    refine ⟨fun m σ' H' => ∃ as' δ' μ', Nxt as μ H as' μ' H' ∧ StOk C.K hs as' H' σ' δ' μ' ∧ Iv m δ' μ', ⟨m0, as, δ, μ, Nxt.refl _ _ _, S, h0⟩, ?_⟩
    rintro m σ' H' ⟨as', δ', μ', n2, S2, iv⟩
    obtain ⟨q, ht, h1, h2⟩ := hs1 m δ' μ' iv
    refine ht (fun q' μ2 => q' = q ∧ μ2 = μ') ⟨rfl, rfl⟩ hs σ' H' as' S2 _ fun q' H3 μ3 as3 n3 m3 ⟨e1, e2⟩ => ?_
    subst e1 e2
    have n4 := n2.trans n3
    have S3 := S2.next n3 m3
    cases q' with
    | true =>
      rw [if_pos rfl]
      refine ⟨fun σ4 H4 => ∃ m', m' < m ∧ ∃ as' δ' μ', Nxt as μ H as' μ' H4 ∧ StOk C.K hs as' H4 σ4 δ' μ' ∧ Iv m' δ' μ', fun σ4 H4 h => h, ?_⟩
      exact h1 rfl hs σ' H3 as3 S3 _ ⟨fun σ5 H5 δ5 μ5 as5 n5 S5 ⟨m', hm, p⟩ => ⟨m', hm, as5, δ5, μ5, n4.trans n5, S5, p⟩, fun w' H5 s5 μ5 as5 n5 m5 sv5 p => k.rt w' H5 s5 μ5 as5 (n4.trans n5) m5 sv5 p, fun σ5 H5 δ5 μ5 as5 n5 S5 p => p hs σ5 H5 as5 S5 D (k.after (n4.trans n5)), fun σ5 H5 δ5 μ5 as5 n5 S5 ⟨m', hm, p⟩ => ⟨m', hm, as5, δ5, μ5, n4.trans n5, S5, p⟩⟩
    | false =>
      rw [if_neg Bool.false_ne_true]
      exact h2 rfl hs σ' H3 as3 S3 D (k.after n4)⟩
end K79
end
section
set_option Elab.async false
set_option linter.all false
set_option maxRecDepth 100000
namespace K79
open PySem PySem.Spec PyProof.Rows L2
open Evl (Ex)
variable {C : Ctx} {X : Cx} {e a b c : Expr} {es : List Expr} {δ : En} {μ : Mem} {Φ Ψ : SV → Mem → Prop} {pos : Pos} {d d1 d2 d3 : PyData} {ds : List PyData} {x : Str} {i j : Int} {p q : Bool} {E : AE} {rest body : List Stmt}
/-! ### lists that change -/
theorem je_lstM (h : JA C es δ μ fun ss μ1 => ∃ ds, ss = ds.map .dat ∧ ds.length ≤ 1000 ∧ Φ (.loc μ1.length) (μ1 ++ [some ds])) : JE C (.List es pos) δ μ Φ := fun hs σ H as S Q k =>
  ⟨tLst (WA C es), fun X hX => pe_lst (wa hX), h hs σ H as S _ fun vs H1 ss μ1 as1 n1 m1 svs ⟨ds, e1, hl, p⟩ => by
    subst e1
    have al := SVs.all svs
    refine ⟨sz (by rw [DpAll.len al]; exact hl), fun pp hp => ?_⟩
    obtain ⟨m2, n2⟩ := m1.lay (Ex.new hp) hp upd_same al
    exact k _ _ (.loc μ1.length) _ _ (n1.trans n2) m2 ⟨pp, by rw [← m1.len, List.getElem?_append_right (Nat.le_refl _)]; simp, rfl⟩ p⟩
theorem je_listM {pp : Pos} (hm : NoC C "list") (h : JE C a δ μ fun s μ1 => ∃ ds, (s = .dat (.tuple ds) ∨ s = .dat (.list ds)) ∧ Φ (.loc μ1.length) (μ1 ++ [some ds])) (hg : GlC C "list" := by rfl)
    (hst : ∀ env, starEach [a] env = (false, eval a env) :: starEach [] env := by intro _; rfl) (hpl : ∀ env, (backTo pos (starEach [] env)).any (·.1) = false := by intro _; rfl) : JE C (.Call (.Name "list" pp) [a] [] pos) δ μ Φ := fun hs σ H as S Q k =>
  ⟨tCB _ (tCons (WE C a) tNil), fun X hX => pe_callTy (lstR hX) (gl hX hg) (by rw [hX.mg]; exact hm) bList (pa_cons (we hX) pa_nil (hst _)) (by decide) (by decide) (hst _) (hpl _), h hs σ H as S _ fun v H1 s1 μ1 as1 n1 m1 sv ⟨ds, e1, p⟩ => by
    have key : ∃ a xs, v = .ref a ∧ (SqL C.K (kn hs as1 μ1 H1) a xs ∨ SqT C.K (kn hs as1 μ1 H1) a xs) ∧ DpAll C.K (kn hs as1 μ1 H1) xs ds := by
      rcases e1 with e1 | e1 <;> subst e1
      · obtain ⟨a, xs, r1, r2, r3⟩ := Dp.tup_inv sv
        exact ⟨a, xs, r1, .inr r2, r3⟩
      · obtain ⟨a, xs, r1, r2, r3⟩ := Dp.lst_inv sv
        exact ⟨a, xs, r1, .inl r2, r3⟩
    obtain ⟨a', xs, r1, r2, r3⟩ := key
    refine ⟨a', xs, by rw [r1], r2.imp (Evl.ex_l (hide_ex _ _)) (Evl.ex_t (hide_ex _ _)), fun l hl => ?_⟩
    obtain ⟨m2, n2⟩ := m1.lay (Ex.new hl) hl upd_same r3
    exact k _ _ (.loc μ1.length) _ _ (n1.trans n2) m2 ⟨l, by rw [← m1.len, List.getElem?_append_right (Nat.le_refl _)]; simp, rfl⟩ p⟩
theorem je_append {n : Nat} {apos : Pos} {ds0 : List PyData} (ha : DL C a δ μ n) (h0 : μ[n]? = some (some ds0)) (h : JE C b δ μ fun s μ1 => ∃ d ds, s = .dat d ∧ μ1[n]? = some (some ds) ∧ ds.length < 1000 ∧ Φ (.dat .none) (μ1.set n (some (ds ++ [d]))))
    (hbase : ∀ env, attributeBase a "append" env (eval a env) = eval a env := by intro _; rfl)
    (hfew : ∀ env, ((backTo pos (starEach [b] env)).all (fun x => !x.1) && (backToKw pos (keywordEach [] env)).all (fun x => x.1.isSome)
      && decide (([b] : List Expr).length + ([] : List Keyword).length + (if ([] : List Keyword).isEmpty then 0 else 1) < 30)) = true := by intro _; rfl)
    (hline : (apos.endLine == pos.line) = true := by rfl) (hst : ∀ env, starEach [b] env = (false, eval b env) :: starEach [] env := by intro _; rfl) (hpl : ∀ env, (backTo pos (starEach [] env)).any (·.1) = false := by intro _; rfl) :
    JE C (.Call (.Attribute a "append" apos) [b] [] pos) δ μ Φ := fun hs σ H as S Q k =>
  ⟨tBM C.K "list" rAppend (WE C a) (tCons (WE C b) tNil), fun X hX => by
    have := pe_bm (X := X) (apos := apos) (cpos := pos) PySem.F.plainAttrs_list PySem.F.slot_list_append PySem.F.type_list_append mt_append (we (e := a) hX) (pa_cons (we (e := b) hX) pa_nil (hst _)) (hbase _) (hfew _) hline (hst _) (hpl _)
    rw [hX.K] at this; exact this, ha (fun s μ1 => s = .loc n ∧ μ1 = μ) ⟨rfl, rfl⟩ hs σ H as S _ fun o H1 s1 μ1 as1 n1 m1 sv1 ⟨e1, e2⟩ => by
    subst e1 e2
    obtain ⟨l, ws0, q1, q2, q3, q4⟩ := m1.sq sv1 h0
    refine ⟨by rw [q1]; exact .inl ⟨rfl, ws0, Evl.sq_of q3⟩, ?_⟩
    refine h hs σ H1 as1 (S.next n1 m1) _ fun y H2 s2 μ2 as2 n2 m2 sv2 ⟨d, ds, e3, hμ, hz, p⟩ => ?_
    subst e3
    obtain ⟨l', ws, t1, t2, t3, t4⟩ := m2.sq (sv1.mono n2.ex n2.pre) hμ
    obtain ⟨m3, n3⟩ := m2.put t2 hμ (DpAll.app t4 (.cons sv2 .nil))
    exact ⟨l', ws, y, t1, rfl, t3, Nat.lt_of_lt_of_le (by rw [DpAll.len t4]; exact hz) (sz (Nat.le_refl _)), k .non _ (.dat .none) _ as2 ((n1.trans n2).trans n3) m3 .non p⟩⟩
theorem seqIx {n k : Nat} (h : k < n) : seqIndex? (k : Int) n = some k := (ixN_seq (ixN_nat h)).1
theorem je_pop {n : Nat} {apos : Pos} {ds0 : List PyData} (ha : DL C a δ μ n) (h0 : μ[n]? = some (some ds0)) (h : JE C b δ μ fun s μ1 => ∃ (kk : Nat) (d : PyData) (ds : List PyData), s = .dat (.int (kk : Int)) ∧ μ1[n]? = some (some ds) ∧ ds.length ≤ 1000 ∧ ds[kk]? = some d ∧ Φ (.dat d) (μ1.set n (some (ds.eraseIdx kk))))
    (hbase : ∀ env, attributeBase a "pop" env (eval a env) = eval a env := by intro _; rfl)
    (hfew : ∀ env, ((backTo pos (starEach [b] env)).all (fun x => !x.1) && (backToKw pos (keywordEach [] env)).all (fun x => x.1.isSome)
      && decide (([b] : List Expr).length + ([] : List Keyword).length + (if ([] : List Keyword).isEmpty then 0 else 1) < 30)) = true := by intro _; rfl)
    (hline : (apos.endLine == pos.line) = true := by rfl) (hst : ∀ env, starEach [b] env = (false, eval b env) :: starEach [] env := by intro _; rfl) (hpl : ∀ env, (backTo pos (starEach [] env)).any (·.1) = false := by intro _; rfl) :
    JE C (.Call (.Attribute a "pop" apos) [b] [] pos) δ μ Φ := fun hs σ H as S Q k =>
  ⟨tBM C.K "list" rPopAt (WE C a) (tCons (WE C b) tNil), fun X hX => by
    have := pe_bm (X := X) (apos := apos) (cpos := pos) PySem.F.plainAttrs_list PySem.F.slot_list_pop PySem.F.type_list_pop mt_popAt (we (e := a) hX) (pa_cons (we (e := b) hX) pa_nil (hst _)) (hbase _) (hfew _) hline (hst _) (hpl _)
    rw [hX.K] at this; exact this, ha (fun s μ1 => s = .loc n ∧ μ1 = μ) ⟨rfl, rfl⟩ hs σ H as S _ fun o H1 s1 μ1 as1 n1 m1 sv1 ⟨e1, e2⟩ => by
    subst e1 e2
    obtain ⟨l, ws0, q1, q2, q3, q4⟩ := m1.sq sv1 h0
    refine ⟨by rw [q1]; exact .inl ⟨rfl, ws0, Evl.sq_of q3⟩, ?_⟩
    refine h hs σ H1 as1 (S.next n1 m1) _ fun y H2 s2 μ2 as2 n2 m2 sv2 ⟨kk, d, ds, e3, hμ, hl, hd, p⟩ => ?_
    subst e3
    obtain ⟨l', ws, t1, t2, t3, t4⟩ := m2.sq (sv1.mono n2.ex n2.pre) hμ
    obtain ⟨z, z1, z2⟩ := DpAll.get t4 hd
    have hk : kk < ds.length := (List.getElem?_eq_some_iff.mp hd).1
    obtain ⟨m3, n3⟩ := m2.put t2 hμ (DpAll.erase kk t4)
    exact ⟨l', ws, (kk : Int), kk, z, t1, by rw [Dp.int_inv sv2], t3, by omega, by omega, seqIx (by rw [DpAll.len t4]; exact hk), z1, k z _ (.dat d) _ as2 ((n1.trans n2).trans n3) m3 (Dp.mono n3.ex z2) p⟩⟩
theorem de_lenM {n : Nat} {pp : Pos} (hm : NoC C "len") (ha : DL C a δ μ n) (hμ : μ[n]? = some (some ds) := by rfl) (hg : GlC C "len" := by rfl) (hst : ∀ env, starEach [a] env = (false, eval a env) :: starEach [] env := by intro _; rfl) (hpl : ∀ env, (backTo pos (starEach [] env)).any (·.1) = false := by intro _; rfl) : DE C (.Call (.Name "len" pp) [a] [] pos) δ μ (.int ds.length) := fun Φ q hs σ H as S Q k =>
  ⟨tCB _ (tCons (WE C a) tNil), fun X hX => pe_callB (lenR hX) (gl hX hg) (by rw [hX.mg]; exact hm) bLen (pa_cons (we hX) pa_nil (hst _)) (by decide) (by decide) (hst _) (hpl _), ha (fun s μ1 => s = .loc n ∧ μ1 = μ) ⟨rfl, rfl⟩ hs σ H as S _ fun v H1 s1 μ1 as1 n1 m1 sv ⟨e1, e2⟩ => by
    subst e1 e2
    obtain ⟨l, ws, q1, q2, q3, q4⟩ := m1.sq sv hμ
    exact ⟨l, ws, by rw [q1], .inl (Evl.sq_of q3), by rw [DpAll.len q4]; exact k _ H1 (.dat (.int ds.length)) _ as1 n1 m1 (.int _) q⟩⟩
/-- a text in a list that changes -/
theorem dt_notinM {n : Nat} {xs : List Str} {z : Str} (ha : DE C a δ μ (.str z)) (hb : DL C b δ μ n) (hμ : μ[n]? = some (some (xs.map .str))) (hbm : behindInMarks .NotIn b = false := by rfl) : DT C (.Compare a [.NotIn] [b] pos) δ μ (!xs.contains z) := fun Φ qq hs σ H as S Q k =>
  ⟨tTest (tOp (rIn C.K true) (WE C a) (WE C b)), fun X hX => pt_cmpR (by rw [← hX.K]; exact op_notIn_seq) (we hX) (we hX) hbm, ha (fun s μ1 => s = .dat (.str z) ∧ μ1 = μ) ⟨rfl, rfl⟩ hs σ H as S _ fun v H1 s1 μ1 as1 n1 m1 sv ⟨e1, e2⟩ => by
    subst e1 e2
    refine hb (fun s μ2 => s = .loc n ∧ μ2 = μ1) ⟨rfl, rfl⟩ hs σ H1 as1 (S.next n1 m1) _ fun y H2 s2 μ2 as2 n2 m2 sv2 ⟨e1, e2⟩ => ?_
    subst e1 e2
    obtain ⟨l, ws, q1, q2, q3, q4⟩ := m2.sq sv2 hμ
    have key : ∀ {vs : List V} {xs : List Str}, DpAll C.K (kn hs as2 μ2 H2) vs (xs.map .str) → vs = xs.map V.str := by
      intro vs xs
      induction xs generalizing vs with
      | nil => intro h; cases h; rfl
      | cons x r ih => intro h; cases h with | cons h1 h2 => rw [Dp.str_inv h1, ih h2]; rfl
    have e := key q4
    subst e
    have ev : v = .str z := Dp.str_inv sv
    refine ⟨l, _, q1, .inl (Evl.sq_of q3), by rw [ev]; rfl, by rw [List.all_map]; exact List.all_eq_true.mpr fun _ _ => rfl, !xs.contains z, ?_, k _ H2 _ as2 (n1.trans n2) m2 qq⟩
    have : inV v (xs.map V.str) = xs.contains z := by
      rw [ev]
      unfold inV
      rw [List.any_map, List.contains_eq_any_beq]
      congr 1
      funext w
      show eqV (.str w) (.str z) = (z == w)
      rw [Bool.eq_iff_iff]
      simp [eqV]
      exact eq_comm
    rw [if_pos rfl, this]⟩
/-- the list n changes no more -/
def frz (n : Nat) (ds : List PyData) (δ : En) : En := δ.map fun s => match s with
  | some (.loc m) => if m = n then some (.dat (.list ds)) else some (.loc m)
  | s => s
theorem js_freeze (n : Nat) (hn : 0 < n) (hμ : μ[n]? = some (some ds)) (h : JS C rest (frz n ds δ) (μ.set n none) E) : JS C rest δ μ E := fun hs σ H as S D k => by
  obtain ⟨m2, n2, hd⟩ := S.me.freeze hn hμ
  refine h hs σ H as ⟨⟨by rw [frz, List.length_map]; exact S.sl.1, fun i s hs' => ?_⟩, m2⟩ D (k.after n2)
  rw [frz, List.getElem?_map] at hs'
  cases e : δ[i]? with
  | none => rw [e] at hs'; cases hs'
  | some o =>
    rw [e] at hs'
    cases o with
    | none => simp at hs'
    | some t =>
      obtain ⟨v, h1, h2⟩ := S.sl.2 i t e
      refine ⟨v, h1, ?_⟩
      cases t with
      | dat d =>
        simp at hs'
        subst hs'
        exact Dp.mono n2.ex h2
      | loc m =>
        obtain ⟨a, h3, h4⟩ := h2
        by_cases hm : m = n
        · subst hm
          simp at hs'
          subst hs'
          rw [h4]
          exact hd a h3
        · simp [hm] at hs'
          subst hs'
          exact ⟨a, h3, h4⟩
      | raw u =>
        simp at hs'
        subst hs'
        exact h2
      | obj C0 fs =>
        simp at hs'
        subst hs'
        exact SVok.mono n2.ex (List.prefix_refl _) h2
/-! ### list comprehensions -/
def WTs (C : Ctx) (ifs : List Expr) : TT := fun σ H Q => ∃ t, (∀ X, InF C X → PTs X ifs t) ∧ t σ H Q
theorem wts {ifs : List Expr} (hX : InF C X) : PTs X ifs (WTs C ifs) := ⟨fun pins s σ H Q I ⟨t, h, q⟩ => (h X hX).run pins s σ H Q I q⟩
def DTs (C : Ctx) (ifs : List Expr) (δ : En) (μ : Mem) (b : Bool) : Prop := ∀ (hs : List Addr) (σ : L2.St) (H : Hp) (as : List Addr), StOk C.K hs as H σ δ μ → ∀ Q : Bool → Hp → Prop,
  (∀ H2 as2, Nxt as μ H as2 μ H2 → MemOk C.K hs as2 H2 μ → Q b H2) → WTs C ifs σ H Q
theorem dts_nil : DTs C [] δ μ true := fun hs σ H as S Q k => ⟨tYes, fun X _ => pts_nil, k H as (Nxt.refl _ _ _) S.me⟩
theorem dts_one (h : DT C c δ μ p) : DTs C [c] δ μ p := fun hs σ H as S Q k => ⟨WT C c, fun X hX => pts_one (wt hX), h (fun b μ1 => b = p ∧ μ1 = μ) ⟨rfl, rfl⟩ hs σ H as S _ fun b H2 μ2 as2 n m ⟨e1, e2⟩ => by
  subst e1 e2
  exact k H2 as2 n m⟩
theorem pre_eq {as as2 : List Addr} {K : PySem.W.Frag} {hs : List Addr} {H H2 : Hp} (p : as <+: as2) (m : MemOk K hs as H μ) (m2 : MemOk K hs as2 H2 μ) : as2 = as := by
  obtain ⟨t, rfl⟩ := p
  have h1 := m.len
  have h2 := m2.len
  rw [List.length_append] at h2
  have : t = [] := List.eq_nil_of_length_eq_zero (by omega)
  rw [this, List.append_nil]
theorem hide_sub {as bs : List Addr} {H : Hp} (h : ∀ b, b ∈ bs → b ∈ as) : Ex (hide as H) (hide bs H) := fun b o q => by
  by_cases hb : b ∈ as
  · rw [hide_in hb] at q; cases q
  · rw [hide_out hb] at q
    rw [hide_out fun z => hb (h b z)]
    exact q
/-- what stands at a turn: the new list L holds out -/
structure LcP (K : PySem.W.Frag) (hs as : List Addr) (μ : Mem) (H1 : Hp) (L : Addr) (out : List PyData) (H' : Hp) : Prop where
  nx : Nxt as μ H1 as μ H'
  me : MemOk K (hs ++ [L]) as H' μ
  at_ : ∃ acc, H' L = some (.lst acc) ∧ DpAll K (kn (hs ++ [L]) as μ H') acc out
theorem kn_more {hs as : List Addr} {H1 H' : Hp} {L : Addr} (hL : H1 L = none) (n : Nxt as μ H1 as μ H') : Ex (kn hs as μ H1) (kn (hs ++ [L]) as μ H') := fun b o q => by
  unfold kn at q ⊢
  by_cases hb : b ∈ hs ++ hid as μ
  · rw [hide_in hb] at q; cases q
  · rw [hide_out hb] at q
    rw [List.mem_append, not_or] at hb
    have hbL : b ≠ L := fun z => by rw [z, hL] at q; cases q
    rw [hide_out]
    · exact (n.keep b o hb.2 q).1
    · rw [List.mem_append, List.mem_append, List.mem_singleton]
      rintro ((z | z) | z)
      · exact hb.1 z
      · exact hbL z
      · exact hb.2 z
theorem LcP.st {K : PySem.W.Frag} {hs as : List Addr} {H1 H' : Hp} {L : Addr} {out : List PyData} {σ : L2.St} (S : StOk K hs as H1 σ δ μ) (hL : H1 L = none) (P : LcP K hs as μ H1 L out H') : StOk K (hs ++ [L]) as H' σ δ μ :=
  ⟨S.sl.mono (kn_more hL P.nx) (List.prefix_refl _), P.me⟩
theorem lc_start {K : PySem.W.Frag} {hs as : List Addr} {H1 : Hp} {L : Addr} {σ : L2.St} (S : StOk K hs as H1 σ δ μ) (hL : H1 L = none) : LcP K hs as μ H1 L [] (upd H1 L (.lst [])) := by
  have n : Nxt as μ H1 as μ (upd H1 L (.lst [])) := Nxt.grow (Ex.new hL)
  refine ⟨n, ⟨S.me.len, S.me.nd, fun a ha => HsOk.mono (Ex.new hL) S.me.tr a ha, fun a ha => ?_, fun i a h3 h4 => ?_, fun i a ds h3 h4 => ?_⟩, ⟨[], upd_same, .nil⟩⟩
  · rcases List.mem_append.mp ha with z | z
    · exact S.me.ho.mono (Ex.new hL) a z
    · rw [List.mem_singleton.mp z, upd_same]; exact fun z => by cases z
  · rw [List.mem_append, List.mem_singleton, not_or]
    refine ⟨S.me.ap i a h3 h4, fun z => ?_⟩
    have := S.me.tr a (List.mem_of_getElem? h3)
    rw [z, hL] at this
    exact this rfl
  · obtain ⟨ws, h5, h6⟩ := S.me.at_ i a ds h3 h4
    exact ⟨ws, Ex.new hL a _ h5, DpAll.mono (kn_more hL n) h6⟩
theorem MemOk.updL {K : PySem.W.Frag} {hs as : List Addr} {H : Hp} {L : Addr} {ws : List V} (m : MemOk K hs as H μ) (hs1 : L ∈ hs) (ha : L ∉ as) : MemOk K hs as (upd H L (.lst ws)) μ ∧ Ex (kn hs as μ H) (kn hs as μ (upd H L (.lst ws))) := by
  have e : Ex (kn hs as μ H) (kn hs as μ (upd H L (.lst ws))) := fun b o q => by
    unfold kn at q ⊢
    by_cases hb : b ∈ hs ++ hid as μ
    · rw [hide_in hb] at q; cases q
    · rw [hide_out hb] at q ⊢
      rw [upd_ne fun z => hb (by rw [z]; exact List.mem_append_left _ hs1)]
      exact q
  have tr : ∀ b, H b ≠ none → upd H L (.lst ws) b ≠ none := fun b q => by
    by_cases z : b = L
    · rw [z, upd_same]; exact fun z => by cases z
    · rw [upd_ne z]; exact q
  refine ⟨⟨m.len, m.nd, fun a h => tr a (m.tr a h), fun a h => tr a (m.ho a h), m.ap, fun i a ds h3 h4 => ?_⟩, e⟩
  obtain ⟨ws', h5, h6⟩ := m.at_ i a ds h3 h4
  exact ⟨ws', by rw [upd_ne fun z => ha (by rw [← z]; exact List.mem_of_getElem? h3)]; exact h5, DpAll.mono e h6⟩
theorem lc_turn {Cb : Ctx} {kk : Nat} {elt : Expr} {ifs : List Expr} (hK : Cb.K = C.K) {hs as : List Addr} {H1 H' : Hp} {L : Addr} {out : List PyData} {σ : L2.St} {v : V} (S : StOk C.K hs as H1 σ δ μ) (hL : H1 L = none) (P : LcP C.K hs as μ H1 L out H') (hv : Dp C.K (kn hs as μ H1) v d)
    (hl : out.length < 1000) (ht : DTs Cb ifs (δ.set kk (some (.dat d))) μ p) (he : p = true → DE Cb elt (δ.set kk (some (.dat d))) μ d1) :
    WTs Cb ifs ((wipe σ [kk]).set kk (some v)) H' fun b H3 => if b = true then WE Cb elt ((wipe σ [kk]).set kk (some v)) H3 fun z H4 => ∃ acc, H4 L = some (.lst acc) ∧ acc.length < sizeLine ∧ LcP C.K hs as μ H1 L (if p then out ++ [d1] else out) (upd H4 L (.lst (acc ++ [z]))) else LcP C.K hs as μ H1 L (if p then out ++ [d1] else out) H3 := by
  have S2 := P.st S hL
  have es : (wipe σ [kk]).set kk (some v) = σ.set kk (some v) := by
    show (σ.set kk none).set kk (some v) = _
    rw [List.set_set]
  rw [es]
  obtain ⟨acc, h1, h2⟩ := P.at_
  have S3 := S2.set (i := kk) (s := .dat d) (v := v) (Dp.mono (kn_more hL P.nx) hv)
  have La : L ∉ as := fun z => S.me.tr L z hL
  have Ln : L ∉ hid as μ := fun z => La (hid_sub z)
  have S3' : StOk Cb.K (hs ++ [L]) as H' (σ.set kk (some v)) (δ.set kk (some (.dat d))) μ := by rw [hK]; exact S3
  refine ht (hs ++ [L]) _ H' as S3' _ fun H3 as3 n3 m3 => ?_
  have ea := pre_eq n3.pre S3'.me m3
  subst ea
  have m3' : MemOk C.K (hs ++ [L]) as3 H3 μ := by rw [← hK]; exact m3
  have l3 := (n3.keep L _ Ln h1).1
  cases p with
  | false =>
    rw [if_neg Bool.false_ne_true, if_neg Bool.false_ne_true]
    exact ⟨P.nx.trans n3, m3', acc, l3, DpAll.mono n3.ex h2⟩
  | true =>
    rw [if_pos rfl, if_pos rfl]
    refine he rfl (fun s μ1 => s = .dat d1 ∧ μ1 = μ) ⟨rfl, rfl⟩ (hs ++ [L]) _ H3 as3 (S3'.next n3 m3) _ fun z H4 s4 μ4 as4 n4 m4 sv4 ⟨e1, e2⟩ => ?_
    subst e1 e2
    have ea := pre_eq n4.pre m3 m4
    subst ea
    have m4' : MemOk C.K (hs ++ [L]) as4 H4 μ4 := by rw [← hK]; exact m4
    have l4 := (n4.keep L _ Ln l3).1
    obtain ⟨m5, e5⟩ := m4'.updL (ws := acc ++ [z]) (List.mem_append_right _ (List.mem_singleton.mpr rfl)) La
    refine ⟨acc, l4, Nat.lt_of_lt_of_le (by rw [DpAll.len h2]; exact hl) (sz (Nat.le_refl _)), ⟨(P.nx.trans n3).pre, fun b o hb q => ?_⟩, m5, acc ++ [z], upd_same, ?_⟩
    · obtain ⟨q1, q2⟩ := ((P.nx.trans n3).trans n4).keep b o hb q
      exact ⟨by rw [upd_ne fun w => by rw [w, hL] at q; cases q]; exact q1, q2⟩
    · refine DpAll.mono e5 (DpAll.app (DpAll.mono (n3.trans n4).ex h2) (.cons ?_ .nil))
      rw [hK] at sv4
      exact sv4
theorem lc_end {hs as : List Addr} {H1 H' : Hp} {L : Addr} {out : List PyData} {σ : L2.St} {K : PySem.W.Frag} (S : StOk K hs as H1 σ δ μ) (hL : H1 L = none) (P : LcP K hs as μ H1 L out H') : MemOk K hs as H' μ ∧ Dp K (kn hs as μ H') (.ref L) (.list out) := by
  obtain ⟨acc, h1, h2⟩ := P.at_
  have e : Ex (kn (hs ++ [L]) as μ H') (kn hs as μ H') := hide_sub fun b hb => by
    rcases List.mem_append.mp hb with z | z
    · exact List.mem_append_left _ (List.mem_append_left _ z)
    · exact List.mem_append_right _ z
  refine ⟨⟨P.me.len, P.me.nd, P.me.tr, fun a ha => P.me.ho a (List.mem_append_left _ ha), S.me.ap, fun i a ds h3 h4 => ?_⟩, .lst (Evl.sq_of ?_) (DpAll.mono e h2)⟩
  · obtain ⟨ws, h5, h6⟩ := P.me.at_ i a ds h3 h4
    exact ⟨ws, h5, DpAll.mono e h6⟩
  · unfold kn
    rw [hide_out]
    · exact h1
    · intro z
      rcases List.mem_append.mp z with z | z
      · exact S.me.ho L z hL
      · exact S.me.tr L (hid_sub z) hL
def outs (p : PyData → Bool) (f : PyData → PyData) (ds : List PyData) : List PyData := (ds.filter p).map f
theorem outs_len (p : PyData → Bool) (f : PyData → PyData) (ds : List PyData) : (outs p f ds).length ≤ ds.length := by
  unfold outs
  rw [List.length_map]
  exact List.length_filter_le _ _
theorem outs_succ (p : PyData → Bool) (f : PyData → PyData) {n : Nat} (h : ds[n]? = some d) : outs p f (ds.take (n + 1)) = if p d then outs p f (ds.take n) ++ [f d] else outs p f (ds.take n) := by
  unfold outs
  rw [List.take_add_one, h, List.filter_append, List.map_append]
  cases e : p d with
  | true => simp [e]
  | false => simp [e]
theorem outs_all (f : PyData → PyData) : outs (fun _ => true) f ds = ds.map f := by
  unfold outs
  rw [List.filter_eq_self.mpr fun _ _ => rfl]
section
variable {y : Str} {py : Pos} {kk : Nat} {scope : Scope} {elt iter : Expr} {ifs : List Expr} {pf : PyData → Bool} {f : PyData → PyData}
/-- the reading of a comprehension over data: a list | a tuple -/
theorem lc_readL (hi : DE C iter δ μ (.list ds)) (hl : ds.length ≤ 1000) (ht : ∀ d, d ∈ ds → DTs (C.blk scope) ifs (δ.set kk (some (.dat d))) μ (pf d)) (he : ∀ d, d ∈ ds → pf d = true → DE (C.blk scope) elt (δ.set kk (some (.dat d))) μ (f d))
    {hs as : List Addr} {σ : L2.St} {H : Hp} (S : StOk C.K hs as H σ δ μ) {Q : VK} (k : ∀ v H2 as2, Nxt as μ H as2 μ H2 → MemOk C.K hs as2 H2 μ → Dp C.K (kn hs as2 μ H2) v (.list (outs pf f ds)) → Q v H2) :
    tLc (iList C.K (WE C iter)) (gName kk) (WTs (C.blk scope) ifs) (WE (C.blk scope) elt) [kk] σ H Q := hi (fun s μ1 => s = .dat (.list ds) ∧ μ1 = μ) ⟨rfl, rfl⟩ hs σ H as S _ fun v H1 s1 μ1 as1 n1 m1 sv ⟨e1, e2⟩ => by
  subst e1 e2
  obtain ⟨a', xs, r1, r2, r3⟩ := Dp.lst_inv sv
  have S1 := S.next n1 m1
  refine ⟨a', r1, ⟨xs, Evl.ex_l (hide_ex _ _) r2⟩, fun L hL => ?_⟩
  refine lc_list (xs := xs) (fun n H' => LcP C.K hs as1 _ H1 L (outs pf f (ds.take n)) H') (lc_start S1 hL) (fun n H' _ P => ?_) (fun n x H' hx P => ⟨by show ((σ.set kk none).set kk (some x)).set kk none = σ.set kk none; rw [List.set_set, List.set_set], ?_⟩) fun H' P => ?_
  · exact Evl.ex_l (hide_ex _ _) (Evl.ex_l (kn_more hL P.nx) r2)
  · obtain ⟨d, hd1, hd2⟩ := DpAll.get' r3 hx
    have hm := List.mem_of_getElem? hd1
    have T := lc_turn (Cb := C.blk scope) (kk := kk) (elt := elt) (ifs := ifs) rfl S1 hL P hd2 (by have := outs_len pf f (ds.take n); have := (List.getElem?_eq_some_iff.mp hd1).1; rw [List.length_take] at *; omega) (ht d hm) (he d hm)
    rw [← outs_succ pf f hd1] at T
    exact T
  · rw [DpAll.len r3, List.take_length] at P
    obtain ⟨m5, d5⟩ := lc_end S1 hL P
    exact k _ H' as1 (n1.trans P.nx) m5 d5
theorem lc_readT (hi : DE C iter δ μ (.tuple ds)) (hl : ds.length ≤ 1000) (ht : ∀ d, d ∈ ds → DTs (C.blk scope) ifs (δ.set kk (some (.dat d))) μ (pf d)) (he : ∀ d, d ∈ ds → pf d = true → DE (C.blk scope) elt (δ.set kk (some (.dat d))) μ (f d))
    {hs as : List Addr} {σ : L2.St} {H : Hp} (S : StOk C.K hs as H σ δ μ) {Q : VK} (k : ∀ v H2 as2, Nxt as μ H as2 μ H2 → MemOk C.K hs as2 H2 μ → Dp C.K (kn hs as2 μ H2) v (.list (outs pf f ds)) → Q v H2) :
    tLc (iTup C.K (WE C iter)) (gName kk) (WTs (C.blk scope) ifs) (WE (C.blk scope) elt) [kk] σ H Q := hi (fun s μ1 => s = .dat (.tuple ds) ∧ μ1 = μ) ⟨rfl, rfl⟩ hs σ H as S _ fun v H1 s1 μ1 as1 n1 m1 sv ⟨e1, e2⟩ => by
  subst e1 e2
  obtain ⟨a', xs, r1, r2, r3⟩ := Dp.tup_inv sv
  have S1 := S.next n1 m1
  refine ⟨a', r1, ⟨xs, Evl.ex_t (hide_ex _ _) r2⟩, fun L hL => ?_⟩
  refine lc_tup (xs := xs) (fun n H' => LcP C.K hs as1 _ H1 L (outs pf f (ds.take n)) H') (lc_start S1 hL) (fun n H' _ P => ?_) (fun n x H' hx P => ⟨by show ((σ.set kk none).set kk (some x)).set kk none = σ.set kk none; rw [List.set_set, List.set_set], ?_⟩) fun H' P => ?_
  · exact Evl.ex_t (hide_ex _ _) (Evl.ex_t (kn_more hL P.nx) r2)
  · obtain ⟨d, hd1, hd2⟩ := DpAll.get' r3 hx
    have hm := List.mem_of_getElem? hd1
    have T := lc_turn (Cb := C.blk scope) (kk := kk) (elt := elt) (ifs := ifs) rfl S1 hL P hd2 (by have := outs_len pf f (ds.take n); have := (List.getElem?_eq_some_iff.mp hd1).1; rw [List.length_take] at *; omega) (ht d hm) (he d hm)
    rw [← outs_succ pf f hd1] at T
    exact T
  · rw [DpAll.len r3, List.take_length] at P
    obtain ⟨m5, d5⟩ := lc_end S1 hL P
    exact k _ H' as1 (n1.trans P.nx) m5 d5
/-- a comprehension's own name -/
structure Own (C : Ctx) (scope : Scope) (kk : Nat) (y : Str) : Prop where
  nd : C.N.Nodup
  blk : BlkOk C.N C.sc scope [(y, kk)]
  nm : Nm (C.blk scope) kk y
theorem peL (O : Own C scope kk y) (hX : InF C X) (hf : ∀ env x, foldedSetIterable iter env x = pure x) : PE X (.ListComp elt [⟨.Name y py, iter, ifs, 0⟩] scope pos) (tLc (iList C.K (WE C iter)) (gName kk) (WTs (C.blk scope) ifs) (WE (C.blk scope) elt) [kk]) :=
  pe_lc (own := [(y, kk)]) hX.calm (by rw [hX.N]; exact O.nd) (by rw [← hX.K]; exact pi_list (we hX)) (by rw [hX.N, hX.sc]; exact O.blk) (fun s H A cl fp => O.nm.pg (hX.blk scope s H A cl fp)) (fun s H A cl fp => wts (hX.blk scope s H A cl fp)) (fun s H A cl fp => we (hX.blk scope s H A cl fp)) (hf _)
theorem peT (O : Own C scope kk y) (hX : InF C X) (hf : ∀ env x, foldedSetIterable iter env x = pure x) : PE X (.ListComp elt [⟨.Name y py, iter, ifs, 0⟩] scope pos) (tLc (iTup C.K (WE C iter)) (gName kk) (WTs (C.blk scope) ifs) (WE (C.blk scope) elt) [kk]) :=
  pe_lc (own := [(y, kk)]) hX.calm (by rw [hX.N]; exact O.nd) (by rw [← hX.K]; exact pi_tup (we hX)) (by rw [hX.N, hX.sc]; exact O.blk) (fun s H A cl fp => O.nm.pg (hX.blk scope s H A cl fp)) (fun s H A cl fp => wts (hX.blk scope s H A cl fp)) (fun s H A cl fp => we (hX.blk scope s H A cl fp)) (hf _)
theorem de_lcL (pf : PyData → Bool) (f : PyData → PyData) (O : Own C scope kk y) (hi : DE C iter δ μ (.list ds)) (hl : ds.length ≤ 1000) (ht : ∀ d, d ∈ ds → DTs (C.blk scope) ifs (δ.set kk (some (.dat d))) μ (pf d)) (he : ∀ d, d ∈ ds → pf d = true → DE (C.blk scope) elt (δ.set kk (some (.dat d))) μ (f d))
    (hf : ∀ env x, foldedSetIterable iter env x = pure x := by intro _ _; rfl) : DE C (.ListComp elt [⟨.Name y py, iter, ifs, 0⟩] scope pos) δ μ (.list (outs pf f ds)) := fun Φ q hs σ H as S Q k =>
  ⟨_, fun X hX => peL O hX hf, lc_readL hi hl ht he S fun v H2 as2 n m dv => k v H2 (.dat _) μ as2 n m dv q⟩
theorem de_lcT (pf : PyData → Bool) (f : PyData → PyData) (O : Own C scope kk y) (hi : DE C iter δ μ (.tuple ds)) (hl : ds.length ≤ 1000) (ht : ∀ d, d ∈ ds → DTs (C.blk scope) ifs (δ.set kk (some (.dat d))) μ (pf d)) (he : ∀ d, d ∈ ds → pf d = true → DE (C.blk scope) elt (δ.set kk (some (.dat d))) μ (f d))
    (hf : ∀ env x, foldedSetIterable iter env x = pure x := by intro _ _; rfl) : DE C (.ListComp elt [⟨.Name y py, iter, ifs, 0⟩] scope pos) δ μ (.list (outs pf f ds)) := fun Φ q hs σ H as S Q k =>
  ⟨_, fun X hX => peT O hX hf, lc_readT hi hl ht he S fun v H2 as2 n m dv => k v H2 (.dat _) μ as2 n m dv q⟩
/-- x = [..], on one line, x a plain name -/
theorem js_setLcL {z : Str} {pz spos : Pos} (k2 : Nat) (pf : PyData → Bool) (f : PyData → PyData) (O : Own C scope kk y) (hz : C.N[k2]? = some z) (hzl : C.sc.names.lookup z = some .local) (hi : DE C iter δ μ (.list ds)) (hl : ds.length ≤ 1000)
    (ht : ∀ d, d ∈ ds → DTs (C.blk scope) ifs (δ.set kk (some (.dat d))) μ (pf d)) (he : ∀ d, d ∈ ds → pf d = true → DE (C.blk scope) elt (δ.set kk (some (.dat d))) μ (f d)) (h : JS C rest (δ.set k2 (some (.dat (.list (outs pf f ds))))) μ E)
    (hline : (pz.line == pos.line) = true := by rfl) (hany : (scope.names.any fun (n, k) => n == z && (k == .local || k == .cell)) = false := by decide +kernel) (hkd : C.sc.kind = .function := by rfl)
    (hf : ∀ env x, foldedSetIterable iter env x = pure x := by intro _ _; rfl) : JS C (.Assign [.Name z pz] (.ListComp elt [⟨.Name y py, iter, ifs, 0⟩] scope pos) spos :: rest) δ μ E := fun hs σ H as S D k =>
  ⟨tSeq (tAsg (tLc (iList C.K (WE C iter)) (gName kk) (WTs (C.blk scope) ifs) (WE (C.blk scope) elt) [kk]) (gName k2)) (WB C rest), fun X hX => pss_cons (ps_setLc (own := [(y, kk)]) hX.calm (by rw [hX.N]; exact O.nd) (by rw [hX.N]; exact hz) (by rw [hX.sc]; exact hzl) (sw_true (by rw [hX.sc]; exact hkd) (by rw [hX.sc]; exact hzl) hline hany) (by rw [← hX.K]; exact pi_list (we hX)) (by rw [hX.N, hX.sc]; exact O.blk)
      (fun s H A cl fp => O.nm.pg (hX.blk scope s H A cl fp)) (fun s H A cl fp => wts (hX.blk scope s H A cl fp)) (fun s H A cl fp => we (hX.blk scope s H A cl fp)) (hf _)) (wb hX),
    lc_readL hi hl ht he S fun v H2 as2 n m dv => h hs _ H2 as2 ((S.next n m).set (s := .dat _) dv) D (k.after n)⟩
theorem js_setLcT {z : Str} {pz spos : Pos} (k2 : Nat) (pf : PyData → Bool) (f : PyData → PyData) (O : Own C scope kk y) (hz : C.N[k2]? = some z) (hzl : C.sc.names.lookup z = some .local) (hi : DE C iter δ μ (.tuple ds)) (hl : ds.length ≤ 1000)
    (ht : ∀ d, d ∈ ds → DTs (C.blk scope) ifs (δ.set kk (some (.dat d))) μ (pf d)) (he : ∀ d, d ∈ ds → pf d = true → DE (C.blk scope) elt (δ.set kk (some (.dat d))) μ (f d)) (h : JS C rest (δ.set k2 (some (.dat (.list (outs pf f ds))))) μ E)
    (hline : (pz.line == pos.line) = true := by rfl) (hany : (scope.names.any fun (n, k) => n == z && (k == .local || k == .cell)) = false := by decide +kernel) (hkd : C.sc.kind = .function := by rfl)
    (hf : ∀ env x, foldedSetIterable iter env x = pure x := by intro _ _; rfl) : JS C (.Assign [.Name z pz] (.ListComp elt [⟨.Name y py, iter, ifs, 0⟩] scope pos) spos :: rest) δ μ E := fun hs σ H as S D k =>
  ⟨tSeq (tAsg (tLc (iTup C.K (WE C iter)) (gName kk) (WTs (C.blk scope) ifs) (WE (C.blk scope) elt) [kk]) (gName k2)) (WB C rest), fun X hX => pss_cons (ps_setLc (own := [(y, kk)]) hX.calm (by rw [hX.N]; exact O.nd) (by rw [hX.N]; exact hz) (by rw [hX.sc]; exact hzl) (sw_true (by rw [hX.sc]; exact hkd) (by rw [hX.sc]; exact hzl) hline hany) (by rw [← hX.K]; exact pi_tup (we hX)) (by rw [hX.N, hX.sc]; exact O.blk)
      (fun s H A cl fp => O.nm.pg (hX.blk scope s H A cl fp)) (fun s H A cl fp => wts (hX.blk scope s H A cl fp)) (fun s H A cl fp => we (hX.blk scope s H A cl fp)) (hf _)) (wb hX),
    lc_readT hi hl ht he S fun v H2 as2 n m dv => h hs _ H2 as2 ((S.next n m).set (s := .dat _) dv) D (k.after n)⟩
end
/-! ### a def keeps its promise -/
section
variable {P : Program} {w : World} {K : PySem.W.Frag} {mg : Str → Option Value} {base : Heap}
/-- where a def of the module stands -/
def DefAt (K : PySem.W.Frag) (mg : Str → Option Value) (x : Str) (st : Stmt) : Prop := ∃ f fd, mg x = some (.ref f) ∧ FunD K x x (defArgs st) (defBody st) (defScope st) [] [] f fd
abbrev fC (P : Program) (w : World) (K : PySem.W.Frag) (mg : Str → Option Value) (base : Heap) (k : Nat) (N : List Str) (sc : Scope) : Ctx := ⟨P, w, K, mg, base, k, N, sc, fun _ => true⟩
def en0 (N : List Str) (ss : List SV) : En := ss.map some ++ List.replicate (N.length - ss.length) none
theorem inF_of {k : Nat} {N : List Str} {q : Str} {sc : Scope} {f : Addr} {cd : Value} {A : Around} {outer : List Env} {s : Shared} {H : Hp} {E : XK} (hr : Room k (A.deeper (envOfC q sc s.heap.objs.size f cd))) : InF (fC P w K mg base k N sc) (cxOf CX0 P w K mg base N q sc f cd A outer s H E).nox :=
  ⟨rfl, rfl, rfl, rfl, rfl, rfl, rfl, rfl, rfl, hr, rfl⟩
theorem slots0 {G : Hp} {as : List Addr} {N : List Str} : ∀ {vs : List V} {ss : List SV}, SVs K G as vs ss → SlotsOk K G as (start N vs) (en0 N ss) := fun {vs ss} h => by
  have hl : vs.length = ss.length := by
    induction vs generalizing ss with
    | nil => cases ss with
      | nil => rfl
      | cons _ _ => exact False.elim h
    | cons v vs ih => cases ss with
      | nil => exact False.elim h
      | cons s ss => simp only [List.length_cons, ih h.2]
  refine ⟨by simp [L2.start, en0, hl], fun i s e => ?_⟩
  unfold en0 at e
  have hi : i < ss.length := by
    by_cases hi : i < ss.length
    · exact hi
    · rw [List.getElem?_append_right (by simp; omega), List.getElem?_replicate] at e
      split at e <;> cases e
  rw [List.getElem?_append_left (by simpa using hi), List.getElem?_map] at e
  have key : ∀ {vs : List V} {ss : List SV} {i : Nat}, SVs K G as vs ss → ss[i]? = some s → ∃ v, vs[i]? = some v ∧ SVok K G as v s := by
    intro vs
    induction vs with
    | nil => intro ss i h e; cases ss with
      | nil => simp at e
      | cons _ _ => exact False.elim h
    | cons v vs ih => intro ss i h e; cases ss with
      | nil => exact False.elim h
      | cons t ss => cases i with
        | zero => simp at e; subst e; exact ⟨v, rfl, h.1⟩
        | succ i =>
          obtain ⟨z, e1, e2⟩ := ih h.2 (by simpa using e)
          exact ⟨z, by simpa using e1, e2⟩
  have e2 : ss[i]? = some s := by
    cases q : ss[i]? with
    | none => rw [q] at e; cases e
    | some t => rw [q] at e; simp at e; rw [e]
  obtain ⟨v, e3, e4⟩ := key h e2
  exact ⟨v, by unfold L2.start; rw [List.getElem?_append_left (by simp; omega), List.getElem?_map, e3]; rfl, e4⟩
theorem okD {x : Str} {st : Stmt} {N ps : List Str} {k : Nat} {α : Type} {args : α → List PyData} {pre : α → Prop} {g : α → PyData} (D : DefAt K mg x st) (S : FnScope N ps (defScope st))
    (hb : ∀ (kV doc pm : Value) (an : Option Addr) (cdv ct : Value) (us : List Value), us.length = ps.length → bindArgs (PySem.W.fnOf x x (defArgs st) (defBody st) (defScope st) .none kV doc pm an cdv ct) ⟨us, []⟩ = pure (ps.zip us))
    (hlen : ∀ y, (args y).length = ps.length) (body : ∀ y, pre y → JS (fC P w K mg base k N (defScope st)) (defBody st) (en0 N ((args y).map .dat)) [] ⟨fun _ _ => g y = .none, fun s _ => s = .dat (g y), fun _ _ => False, fun _ _ => False⟩) : OKs P w K mg base x (k + 1) ps (SpD K args pre g) := by
  obtain ⟨f, fd, hm, F⟩ := D
  refine ⟨f, fd, hm, F.kp, F.bindsN hb, F.ok S (fun vs H Q E h => ?_) fun cdv A outer s H vs Q E hr h => ?_⟩
  · obtain ⟨hs, y, _, h1, h2, _⟩ := h
    rw [DpAll.len h1]; exact hlen y
  · obtain ⟨hs, y, ho, h1, h2, q⟩ := h
    have eq0 : ∀ G : Hp, kn hs [] [] G = hide hs G := fun G => by unfold kn hid; rw [List.append_nil]
    have S0 : StOk K hs [] H (start N vs) (en0 N ((args y).map .dat)) [] := ⟨by rw [show hide (hs ++ hid [] []) H = hide hs H from eq0 H]; exact slots0 (SVs.of h1), ⟨rfl, List.nodup_nil, fun a ha => (by cases ha), ho, fun i a h => (by simp at h), fun i a ds h => (by simp at h)⟩⟩
    have R := body y h2 hs (start N vs) H [] S0 { nx := fun _ H' => Q .non H', rt := Q } ⟨fun σ' H' δ' μ' as' n St e => ?_, fun v H' s μ' as' n m sv e => ?_, fun _ _ _ _ _ _ _ e => False.elim e, fun _ _ _ _ _ _ _ e => False.elim e⟩
    · exact ⟨_, PSs.nox (wb (inF_of hr)), R⟩
    · refine q .non H' (fun b o hb => (n.keep b o (fun z => by cases z) hb).1) ?_
      rw [e]; exact .non
    · subst e
      refine q v H' (fun b o hb => (n.keep b o (fun z => by cases z) hb).1) ?_
      exact Dp.mono (hide_sub fun b hb => List.mem_append_left _ hb) sv
theorem okS {x : Str} {st : Stmt} {N ps : List Str} {k : Nat} {α : Type} {args : α → List PyData} {pre : α → Sg → Prop} {post : α → Sg → PyData → Sg → Prop} (D : DefAt K mg x st) (S : FnScope N ps (defScope st))
    (hb : ∀ (kV doc pm : Value) (an : Option Addr) (cdv ct : Value) (us : List Value), us.length = ps.length → bindArgs (PySem.W.fnOf x x (defArgs st) (defBody st) (defScope st) .none kV doc pm an cdv ct) ⟨us, []⟩ = pure (ps.zip us))
    (hlen : ∀ y, (args y).length + 1 = ps.length) (body : ∀ y ss, pre y ss → JS (fC P w K mg base k N (defScope st)) (defBody st) (en0 N (.loc 0 :: (args y).map .dat)) [some (dS ss)] ⟨fun _ _ => False, fun s μ' => ∃ d st', s = .dat d ∧ μ'[0]? = some (some (dS st')) ∧ post y ss d st', fun _ _ => False, fun _ _ => False⟩) :
    OKs P w K mg base x (k + 1) ps (SpS K args pre post) := by
  obtain ⟨f, fd, hm, F⟩ := D
  refine ⟨f, fd, hm, F.kp, F.bindsN hb, F.ok S (fun vs H Q E h => ?_) fun cdv A outer s H vs Q E hr h => ?_⟩
  · obtain ⟨hs, a, vs', y, ss, ws, e, _, _, _, h1, h2, _⟩ := h
    rw [e, List.length_cons, DpAll.len h1]; exact hlen y
  · obtain ⟨hs, a, vs', y, ss, ws, e, ho, ha, hw, h1, h2, q⟩ := h
    subst e
    have S0 : StOk K hs [a] H (start N (.ref a :: vs')) (en0 N (.loc 0 :: (args y).map .dat)) [some (dS ss)] := by
      refine ⟨slots0 ⟨⟨a, rfl, rfl⟩, SVs.of h1⟩, ⟨rfl, by simp, fun b hb => ?_, ho, fun i b hi h0 => ?_, fun i b fs hi h0 => ?_⟩⟩
      · rw [List.mem_singleton.mp hb, ha]; exact fun z => by cases z
      · cases i with
        | zero => exact absurd h0 (Nat.lt_irrefl _)
        | succ i => simp at hi
      · cases i with
        | zero =>
          simp at hi h0
          subst hi h0
          exact ⟨ws, ha, hw⟩
        | succ i => simp at hi
    have R := body y ss h2 hs _ H [a] S0 { nx := fun _ H' => Q .non H', rt := Q } ⟨fun _ _ _ _ _ _ _ e => False.elim e, fun v H' s μ' as' n m sv e => ?_, fun _ _ _ _ _ _ _ e => False.elim e, fun _ _ _ _ _ _ _ e => False.elim e⟩
    · exact ⟨_, PSs.nox (wb (inF_of hr)), R⟩
    · obtain ⟨d, st', e1, e2, e3⟩ := e
      subst e1
      have ea : as'[0]? = some a := by
        obtain ⟨t, ht⟩ := n.pre
        rw [← ht]; rfl
      obtain ⟨ws', h5, h6⟩ := m.at_ 0 a (dS st') ea e2
      have sub : ∀ b, b ∈ hs ++ [a] → b ∈ hs ++ hid as' μ' := fun b hb => by
        rcases List.mem_append.mp hb with z | z
        · exact List.mem_append_left _ z
        · rw [List.mem_singleton.mp z]
          exact List.mem_append_right _ (hid_get ea e2)
      exact q v H' d st' ws' (fun b o hb hq => (n.keep b o (fun z => hb (List.mem_singleton.mp z)) hq).1) h5 (DpAll.mono (hide_sub sub) h6) (Dp.mono (hide_sub sub) sv) e3
end
end K79
end
section
set_option Elab.async false
set_option linter.all false
set_option maxRecDepth 100000
namespace K79
open PySem PySem.Spec PyProof.Rows L2
open Evl (Ex)
variable {C : Ctx} {X : Cx} {e a b c : Expr} {es : List Expr} {δ : En} {μ : Mem} {Φ Ψ : SV → Mem → Prop} {pos : Pos} {d d1 d2 d3 : PyData} {ds : List PyData} {x : Str} {i j : Int} {p q : Bool} {E : AE} {rest body : List Stmt}
/-! ### in -/
theorem dp_map {α : Type} {f : α → PyData} {g : α → V} {K : PySem.W.Frag} {G : Hp} (inj : ∀ {v : V} {x : α}, Dp K G v (f x) → v = g x) : ∀ {vs : List V} {xs : List α}, DpAll K G vs (xs.map f) → vs = xs.map g
  | [], [], _ => rfl
  | _ :: _, x :: r, .cons h1 h2 => by rw [inj h1, dp_map inj h2]; rfl
theorem opInG {α : Type} {f : α → PyData} {g : α → V} {K : PySem.W.Frag} {xs : List α} {z : α} {neg : Bool} (inj : ∀ {G : Hp} {v : V} {x : α}, Dp K G v (f x) → v = g x) (fl : ∀ x, flatV (g x) = true) (hd : d = .tuple (xs.map f) ∨ d = .list (xs.map f)) : OpD K (rIn K neg) (f z) d (.bool (if neg then !inV (g z) (xs.map g) else inV (g z) (xs.map g))) := fun hs H x y Q ok h1 h2 k => by
  have ex : x = g z := inj h1
  subst ex
  have fx : (xs.map g).all flatV = true := by rw [List.all_map]; exact List.all_eq_true.mpr fun _ _ => fl _
  rcases hd with hd | hd <;> subst hd
  · obtain ⟨a, vs, r1, r2, r3⟩ := Dp.tup_inv h2
    have e := dp_map inj r3
    subst e
    exact ⟨a, _, r1, .inr (Evl.ex_t (hide_ex _ _) r2), fl z, fx, k _ H (Evl.Ex.refl H) (.bl _)⟩
  · obtain ⟨a, vs, r1, r2, r3⟩ := Dp.lst_inv h2
    have e := dp_map inj r3
    subst e
    exact ⟨a, _, r1, .inl (Evl.ex_l (hide_ex _ _) r2), fl z, fx, k _ H (Evl.Ex.refl H) (.bl _)⟩
theorem inV_str {z : Str} {xs : List Str} : inV (.str z) (xs.map V.str) = xs.contains z := by
  unfold inV
  rw [List.any_map, List.contains_eq_any_beq]
  congr 1
  funext w
  show eqV (.str w) (.str z) = (z == w)
  rw [Bool.eq_iff_iff]
  simp [eqV]
  exact eq_comm
theorem inV_int {z : Int} {xs : List Int} : inV (.int z) (xs.map V.int) = xs.contains z := by
  unfold inV
  rw [List.any_map, List.contains_eq_any_beq]
  congr 1
  funext w
  show eqV (.int w) (.int z) = (z == w)
  rw [Bool.eq_iff_iff]
  simp [eqV]
  exact eq_comm
theorem inR (hX : InF C X) : OpR X (compareOp .In) (rIn C.K false) := by rw [← hX.K]; exact op_in_seq
theorem ninR (hX : InF C X) : OpR X (compareOp .NotIn) (rIn C.K true) := by rw [← hX.K]; exact op_notIn_seq
theorem opInS {K : PySem.W.Frag} {xs : List Str} {z : Str} (hd : d = .tuple (xs.map .str) ∨ d = .list (xs.map .str)) : OpD K (rIn K false) (.str z) d (.bool (xs.contains z)) := by
  have h := opInG (K := K) (neg := false) (f := PyData.str) (g := V.str) (z := z) (fun h => Dp.str_inv h) (fun _ => rfl) hd
  rw [if_neg Bool.false_ne_true, inV_str] at h
  exact h
theorem opNinS {K : PySem.W.Frag} {xs : List Str} {z : Str} (hd : d = .tuple (xs.map .str) ∨ d = .list (xs.map .str)) : OpD K (rIn K true) (.str z) d (.bool (!xs.contains z)) := by
  have h := opInG (K := K) (neg := true) (f := PyData.str) (g := V.str) (z := z) (fun h => Dp.str_inv h) (fun _ => rfl) hd
  rw [if_pos rfl, inV_str] at h
  exact h
theorem opInI {K : PySem.W.Frag} {xs : List Int} {z : Int} (hd : d = .tuple (xs.map .int) ∨ d = .list (xs.map .int)) : OpD K (rIn K false) (.int z) d (.bool (xs.contains z)) := by
  have h := opInG (K := K) (neg := false) (f := PyData.int) (g := V.int) (z := z) (fun h => Dp.int_inv h) (fun _ => rfl) hd
  rw [if_neg Bool.false_ne_true, inV_int] at h
  exact h
section
variable {xs : List Str} {ns : List Int} {z : Str}
theorem de_inT (ha : DE C a δ μ (.str z)) (hb : DE C b δ μ (.tuple (xs.map .str))) (hbm : behindInMarks .In b = false := by rfl) : DE C (.Compare a [.In] [b] pos) δ μ (.bool (xs.contains z)) := de_cmp (fun _ hX => inR hX) hbm ha hb (opInS (.inl rfl))
theorem dt_inT (ha : DE C a δ μ (.str z)) (hb : DE C b δ μ (.tuple (xs.map .str))) (hbm : behindInMarks .In b = false := by rfl) : DT C (.Compare a [.In] [b] pos) δ μ (xs.contains z) := dt_cmp (fun _ hX => inR hX) hbm ha hb (opInS (.inl rfl))
theorem dt_ninT (ha : DE C a δ μ (.str z)) (hb : DE C b δ μ (.tuple (xs.map .str))) (hbm : behindInMarks .NotIn b = false := by rfl) : DT C (.Compare a [.NotIn] [b] pos) δ μ (!xs.contains z) := dt_cmp (fun _ hX => ninR hX) hbm ha hb (opNinS (.inl rfl))
theorem dt_inL (ha : DE C a δ μ (.str z)) (hb : DE C b δ μ (.list (xs.map .str))) (hbm : behindInMarks .In b = false := by rfl) : DT C (.Compare a [.In] [b] pos) δ μ (xs.contains z) := dt_cmp (fun _ hX => inR hX) hbm ha hb (opInS (.inr rfl))
theorem de_inI (ha : DE C a δ μ (.int i)) (hb : DE C b δ μ (.tuple (ns.map .int))) (hbm : behindInMarks .In b = false := by rfl) : DE C (.Compare a [.In] [b] pos) δ μ (.bool (ns.contains i)) := de_cmp (fun _ hX => inR hX) hbm ha hb (opInI (.inl rfl))
end
theorem opInD {K : PySem.W.Frag} (s1 : SeqAt.shaped d = true) (s2 : SeqAt.shaped (.list ds) = true) : OpD K (rInD K) d (.list ds) (.bool (ds.any fun z => PyData.eqv z d)) := fun hs H x y Q ok h1 h2 k =>
  ⟨d, ds, Dp.mono (hide_ex _ _) h1, Dp.mono (hide_ex _ _) h2, s1, s2, k _ H (Evl.Ex.refl H) (.bl _)⟩
theorem inDR (hX : InF C X) : OpR X (compareOp .In) (rInD C.K) := by rw [← hX.K]; exact op_inD (by have := hX.room.un; omega)
theorem dt_inD (ha : DE C a δ μ d) (hb : DE C b δ μ (.list ds)) (s1 : SeqAt.shaped d = true := by rfl) (s2 : SeqAt.shaped (.list ds) = true := by rfl) (hbm : behindInMarks .In b = false := by rfl) : DT C (.Compare a [.In] [b] pos) δ μ (ds.any fun z => PyData.eqv z d) := dt_cmp (fun _ hX => inDR hX) hbm ha hb (opInD s1 s2)
/-- i <= j <= k -/
theorem de_chain {k : Int} (ha : DE C a δ μ (.int i)) (hb : DE C b δ μ (.int j)) (hc : DE C c δ μ (.int k)) (hm : lastMarks [.LtE, .LtE] [b, c] = false := by rfl) : DE C (.Compare a [.LtE, .LtE] [b, c] pos) δ μ (.bool (decide (i ≤ j) && decide (j ≤ k))) := fun Φ h hs σ H as S Q kk =>
  ⟨tChain _ _ (WE C a) (WE C b) (WE C c), fun X hX => pe_chain op_le op_le (we hX) (we hX) (we hX) hm, ha (fun s μ1 => s = .dat (.int i) ∧ μ1 = μ) ⟨rfl, rfl⟩ hs σ H as S _ fun v H1 s1 μ1 as1 n1 m1 sv1 ⟨e1, e2⟩ => by
    subst e1 e2
    refine hb (fun s μ2 => s = .dat (.int j) ∧ μ2 = μ1) ⟨rfl, rfl⟩ hs σ H1 as1 (S.next n1 m1) _ fun v2 H2 s2 μ2 as2 n2 m2 sv2 ⟨e1, e2⟩ => ?_
    subst e1 e2
    refine ⟨i, j, Dp.int_inv sv1, Dp.int_inv sv2, decide (i ≤ j), rfl, ?_⟩
    by_cases hij : i ≤ j
    · rw [decide_eq_true hij, if_pos rfl]
      refine hc (fun s μ3 => s = .dat (.int k) ∧ μ3 = μ2) ⟨rfl, rfl⟩ hs σ H2 as2 ((S.next n1 m1).next n2 m2) _ fun v3 H3 s3 μ3 as3 n3 m3 sv3 ⟨e1, e2⟩ => ?_
      subst e1 e2
      refine ⟨j, k, Dp.int_inv sv2, Dp.int_inv sv3, kk _ H3 (.dat (.bool (true && decide (j ≤ k)))) _ as3 ((n1.trans n2).trans n3) m3 (.bl _) ?_⟩
      rw [decide_eq_true hij] at h
      exact h
    · rw [decide_eq_false hij, if_neg Bool.false_ne_true]
      refine kk _ H2 (.dat (.bool (false && decide (j ≤ k)))) _ as2 (n1.trans n2) m2 (.bl _) ?_
      rw [decide_eq_false hij] at h
      exact h⟩
/-! ### f(a = .., b = ..) -/
def kwG {α : Type} (us ws : List α) : List α := match us with
  | [] => ws
  | _ :: _ => []
def OKk (P : Program) (w : World) (K : PySem.W.Frag) (mg : Str → Option Value) (base : Heap) (x : Str) (k : Nat) (ps : List Str) (sp : Sp) : Prop :=
  ∃ f fd, mg x = some (.ref f) ∧ PySem.W.keepIn K (.ref f) = true ∧ KBinds K fd ps ps kwG kwG ∧ FnOk P w K mg base CX0 k f fd ps sp
theorem pe_kw {k : Nat} {f : Addr} {fd : FuncData} {ps : List Str} {sp : Sp} {n1 n2 : Option Str} {p1 p2 pp : Pos} {ta tb : TE} (F : FnOk X.prog X.w X.K X.mg X.base CX0 k f fd ps sp) (hr : Room k X.A) (hg : Gl X x) (hm : X.mg x = some (.ref f)) (hk : PySem.W.keepIn X.K (.ref f) = true) (hb : KBinds X.K fd ps ps kwG kwG) (ha : PE X a ta) (hb2 : PE X b tb)
    (hall : (backToKw pos (keywordEach [⟨n1, a, p1⟩, ⟨n2, b, p2⟩] X.env)).all (·.1.isSome) = true) (hks : (backToKw pos (keywordEach [⟨n1, a, p1⟩, ⟨n2, b, p2⟩] X.env)).filterMap (·.1) = ps)
    (hdb : (x == ("__debug__" : Str)) = false) (hpl : ((backTo pos (starEach [] X.env)).any (·.1) || (backToKw pos (keywordEach [⟨n1, a, p1⟩, ⟨n2, b, p2⟩] X.env)).any (·.1.isNone)) = false) :
    PE X (.Call (.Name x pp) [] [⟨n1, a, p1⟩, ⟨n2, b, p2⟩] pos) (fun σ H Q => tCons ta (tCons tb tNil) σ H fun zs H2 => sp zs H2 Q E0) := by
  refine ⟨fun pins s σ H Q I h => ?_⟩
  refine wpAny_Call_Name_kw (ld_glob I hg hm ?_ hdb)
  refine PySem.W.callWith_KW0 (h₀ := X.base) I.ok.mod.kin hk hall (thn ((pk_cons ha (pk_cons hb2 pk_nil)).run pos pins s σ H _ I h) fun ws s2 ⟨zs, H2, I2, rz, q2⟩ => ⟨I2.kIn, ?_⟩) hpl
  rw [hks]
  exact run_fnk (vs := []) F hr hb pass0 I2 .nil rz q2
theorem de_kw {k : Nat} {ps : List Str} {α : Type} {args : α → List PyData} {pre : α → Prop} {g : α → PyData} {pp p1 p2 : Pos} {k1 k2 : Option Str} (F : OKk C.P C.w C.K C.mg C.base x k ps (SpD C.K args pre g)) (y : α) (ha : DE C a δ μ d1) (hb : DE C b δ μ d2) (hy : args y = [d1, d2]) (hp : pre y) (hr : g y = d := by rfl) (hk : k ≤ C.k := by exact Nat.le_of_ble_eq_true rfl) (hg : GlC C x := by rfl) (hdb : (x == ("__debug__" : Str)) = false := by decide)
    (hall : ∀ env, (backToKw pos (keywordEach [⟨k1, a, p1⟩, ⟨k2, b, p2⟩] env)).all (·.1.isSome) = true := by intro _; rfl) (hks : ∀ env, (backToKw pos (keywordEach [⟨k1, a, p1⟩, ⟨k2, b, p2⟩] env)).filterMap (·.1) = ps := by intro _; rfl)
    (hpl : ∀ env, ((backTo pos (starEach [] env)).any (·.1) || (backToKw pos (keywordEach [⟨k1, a, p1⟩, ⟨k2, b, p2⟩] env)).any (·.1.isNone)) = false := by intro _; rfl) : DE C (.Call (.Name x pp) [] [⟨k1, a, p1⟩, ⟨k2, b, p2⟩] pos) δ μ d := fun Φ h hs σ H as S Q kk => by
  obtain ⟨f, fd, h1, h2, h3, h4⟩ := F
  refine ⟨_, fun X hX => pe_kw (k := k) (f := f) (fd := fd) (ps := ps) (sp := SpD C.K args pre g) (by rw [hX.prog, hX.w, hX.K, hX.mg, hX.base]; exact h4) (hX.room.mono hk) (gl hX hg) (by rw [hX.mg]; exact h1) (by rw [hX.K]; exact h2) (by rw [hX.K]; exact h3) (we hX) (we hX) (hall _) (hks _) hdb (hpl _), ?_⟩
  refine ha (fun s μ1 => s = .dat d1 ∧ μ1 = μ) ⟨rfl, rfl⟩ hs σ H as S _ fun v H1 s1 μ1 as1 n1 m1 sv1 ⟨e1, e2⟩ => ?_
  subst e1 e2
  refine hb (fun s μ2 => s = .dat d2 ∧ μ2 = μ1) ⟨rfl, rfl⟩ hs σ H1 as1 (S.next n1 m1) _ fun v2 H2 s2 μ2 as2 n2 m2 sv2 ⟨e1, e2⟩ => ?_
  subst e1 e2
  refine ⟨hs ++ hid as2 μ2, y, m2.hso, by rw [hy]; exact .cons (Dp.mono n2.ex sv1) (.cons sv2 .nil), hp, fun v H' ex dv => ?_⟩
  exact kk v H' (.dat (g y)) μ2 as2 ((n1.trans n2).trans (Nxt.grow ex)) (m2.grow ex) dv (by rw [hr]; exact h)
theorem kbinds {K : PySem.W.Frag} {st : Stmt} {f : Addr} {fd : FuncData} {ps : List Str} (F : FunD K x x (defArgs st) (defBody st) (defScope st) [] [] f fd) (hps : ps ≠ [])
    (h : ∀ (kV doc pm : Value) (an : Option Addr) (cdv ct : Value) (ws : List Value), ws.length = ps.length → bindArgs (PySem.W.fnOf x x (defArgs st) (defBody st) (defScope st) .none kV doc pm an cdv ct) ⟨[], ps.zip ws⟩ = pure (ps.zip ws)) : KBinds K fd ps ps kwG kwG := by
  obtain ⟨oc, od, dV, kV, doc, pm, an, cdv, ct, osl, rfl, lk, hcd, hD, hK⟩ := F.ex
  rcases hD with ⟨_, rfl⟩ | ⟨e, _⟩
  · refine ⟨fun s us ws X hl => ?_, fun r rz => ?_⟩
    · cases us with
      | nil => exact BindsTo.of_looks fun M => PySem.W.Looks.of_pure (h kV doc pm an cdv ct ws hl)
      | cons u r => exact absurd (List.eq_nil_of_length_eq_zero hl.symm) hps
    · cases r with
      | nil => exact rz
      | cons _ _ => exact .nil
  · exact absurd rfl e
end K79
end
section
set_option Elab.async false
set_option linter.all false
set_option maxRecDepth 100000
namespace PySem
open Sem (wp)
set_option maxHeartbeats 1000000 in
theorem k79_enum_new {v : Value} {o : Obj} {H : Heap → Prop} (B : Begins v o H) :
    Meets (Builtin.«enumerate.__new__» ⟨[.type "enumerate", v], []⟩) (fun _ R s => H s.heap ∧
      R (.ok (.ret (.ref (s.heap.push o).objs.size))) { s with heap := (s.heap.push o).push { cls := .type "enumerate", data := .fields #[.none, .bool false, .ref s.heap.objs.size, rawInt 0, .none, .none] } }) :=
  .of_wp fun prog w A R s h => by
    obtain ⟨hp, g, d, tk, os⟩ := s; obtain ⟨h1, h⟩ := h
    have hsub := sub_enumerate
    have q1 : ∀ {A' : Around} {E : Value → Shared → Prop} {Q : Value → Shared → Prop}, Q (.ref hp.objs.size) ⟨hp.push o, g, d, tk, os⟩ → wpAny (model prog w) A' (pyIter v) Q E ⟨hp, g, d, tk, os⟩ :=
      fun q => B.iter prog w _ _ ⟨hp, g, d, tk, os⟩ _ h1 q
    wp_walk using q1
    refine wpAny_stack_any fun st => wpAny_pure ?_
    split
    · rename_i c _ _ _ _ _
      cases (c == Value.type "enumerate")
      · wp_walk using q1
        exact ⟨_, rfl, h⟩
      · wp_walk using q1
        exact ⟨_, rfl, h⟩
    · wp_walk using q1
      exact ⟨_, rfl, h⟩
theorem k79_enum_tuple {prog : Program} {w : World} {A : Around} {E : Value → Shared → Prop} {s : Shared} {l : Addr} {items : Array Value} {Q : Value → Shared → Prop} (hL : s.heap.IsTuple l items)
    (h : ∀ h', IsEnum h' (s.heap.objs.size + 1) s.heap.objs.size 0 .none → h'.IsTupleIter s.heap.objs.size l 0 → h'.objs.size = s.heap.objs.size + 2 →
      (∀ b o, s.heap.get? b = some o → h'.get? b = some o) → Q (.ref (s.heap.objs.size + 1)) { s with heap := h' }) :
    wpAny (model prog w) A (call (.type "enumerate") [.ref l]) Q E s := by
  refine callType_new F.called_enumerate (by decide) (F.typeCall_enumerate_1 _) (F.newCall_enumerate_1 _) (fun obj => F.args_object_init_2 obj _) F.entry_enumerate_new
    (k79_enum_new (begins_tuple l items)) ⟨hL, ?_⟩
  have hz : (s.heap.push { cls := .type "tuple_iterator", data := .fields #[.ref l, .int 0 0] }).objs.size = s.heap.objs.size + 1 := Heap.size_push ..
  show _ ∧ _
  rw [hz]
  have he : IsEnum ((s.heap.push { cls := .type "tuple_iterator", data := .fields #[.ref l, .int 0 0] }).push
      { cls := .type "enumerate", data := .fields #[.none, .bool false, .ref s.heap.objs.size, rawInt 0, .none, .none] }) (s.heap.objs.size + 1) s.heap.objs.size 0 .none := by
    have := Heap.get?_push_size (s.heap.push { cls := .type "tuple_iterator", data := .fields #[.ref l, .int 0 0] })
      (o := { cls := .type "enumerate", data := .fields #[.none, .bool false, .ref s.heap.objs.size, rawInt 0, .none, .none] }) rfl
    rw [hz] at this; exact this
  refine ⟨⟨_, he, rfl⟩, h _ he ⟨_, Heap.get?_push_of_some _ (Heap.get?_push_size _ rfl), rfl, rfl⟩ (by rw [Heap.size_push, hz]) fun b o x => Heap.get?_push_of_some _ (Heap.get?_push_of_some _ x)⟩
end PySem
namespace K79
open PySem PySem.Spec PyProof.Rows L2
open Evl (Ex)
/-- the tuple at a, each item in a new pair with its place -/
def ItU (K : PySem.W.Frag) (a : Addr) : It :=
  ⟨fun i H => ∃ (xs : List V) (x : V), SqT K H a xs ∧ xs[i]? = some x, fun i H v H' => ∃ T x, v = .ref T ∧ H T = none ∧ H' = upd H T (.tup [.int (i : Nat), x]) ∧ ∀ xs, SqT K H a xs → xs[i]? = some x, fun i H => ∃ xs : List V, SqT K H a xs ∧ xs.length ≤ i⟩
theorem turn_enumT {P : Program} {w : World} {K : PySem.W.Frag} {elts : List Expr} {kk : Nat} {tpos : Pos} (a e it : Addr) (ha : a ≠ e) (hb : a ≠ it) :
    Turn P w K (.Tuple elts kk tpos) (ItU K a) [e, it] e (fun i h => (∃ old, IsEnum h e it ((i : Nat) : Int) old) ∧ h.IsTupleIter it a i ∧ e ≠ it) where
  mem := by simp
  obj := fun i h st b hb => by
    obtain ⟨⟨old, he⟩, ⟨o, ho, hc, hd⟩, _⟩ := st
    have e' : b = e ∨ b = it := by simpa using hb
    rcases e' with z | z
    · rw [z]; exact ⟨_, he, fun v q => nomatch q⟩
    · rw [z]; exact ⟨o, ho, fun v q => by rw [hd] at q; cases q⟩
  keep := fun i h h' st k => let ⟨⟨old, he⟩, hi, hne⟩ := st; ⟨⟨old, k e (by simp) _ he⟩, hi.at fun o q => k it (by simp) o q, hne⟩
  item := by
    intro X hP hw hK hc i pins s σ H E I hf st hg
    subst hP hw hK
    obtain ⟨⟨old, he⟩, hit, hne⟩ := st
    obtain ⟨xs, x, hq, hx⟩ := hg
    obtain ⟨its, rv, p, hz⟩ := I.tuple hq
    obtain ⟨u, hu, ru⟩ := rv.get hx
    have hel : e < s.heap.objs.size := Heap.lt_size he
    have hil : it < s.heap.objs.size := by obtain ⟨_, q, _⟩ := hit; exact Heap.lt_size q
    have D := Draws.tuple (prog := X.prog) (w := X.w) (A := X.A.in1) (I.ok.hd hc) it a hb its.toArray
    have hlt : i < its.toArray.size := by
      have := (List.getElem?_eq_some_iff.mp hu).1
      simpa using this
    refine wpAny_pyNext_enum_itemD D he ⟨hit, show s.heap.IsTuple a its.toArray from p⟩ hlt hne (by
      intro z
      have e' : e = it ∨ e = a := by simpa using z
      rcases e' with z | z
      · exact hne z
      · exact ha z.symm) fun u' h' tk hP ho hst hT hsz hk => ?_
    have hit' := hst.1
    have eu : u' = u := by
      have q : its.toArray[i]? = some u := by simpa using hu
      rw [q] at hP
      exact (Option.some.inj hP).symm
    subst eu
    refine ⟨_, rfl, wpAny_letOwnedTupleGo_enum (s := { s with heap := h', toks := tk + 1 }) ho fun h'' he' sb => ?_⟩
    have hT2 : h''.get? s.heap.objs.size = some { cls := .type "tuple", data := .seq #[.int i tk, u'] } := (sb.2 _ (Nat.ne_of_gt hel)).trans hT
    have new : ObjOk X.prog X.w (upd H s.heap.objs.size (.tup [.int (i : Nat), x])) h'' s.heap.objs.size (.tup [.int (i : Nat), x]) :=
      ⟨by show 2 ≤ sizeLine; decide, [.int i tk, u'], .cons ⟨_, rfl⟩ (.cons ru .nil), ⟨_, hT2, rfl, _, rfl⟩⟩
    have I1 : Inv X pins σ (upd H s.heap.objs.size (.tup [.int (i : Nat), x])) { s with heap := h'', toks := tk + 1 } :=
      I.turnedNew (ch := [e, it]) (fun b ob hb q => (sb.2 b (fun z => hb (by simp [z]))).trans (hk b ob (fun z => hb (by simp [z])) (fun z => hb (by simp [z])) q)) hf (Nat.le_refl _) new
    refine ⟨.ref s.heap.objs.size, _, I1, rfl, ⟨_, x, rfl, I.hok.fresh (Nat.le_refl _), rfl, fun ys hy => by rw [I.tuple_inj hy hq]; exact hx⟩, ⟨⟨u', ?_⟩, hit'.at fun o q => (sb.2 it (Ne.symm hne)).trans q, hne⟩, fun b hb => ?_⟩
    · have e1 : ((i + 1 : Nat) : Int) = (i : Int) + 1 := by omega
      rw [e1]; exact he'
    · have hb' : b < s.heap.objs.size := by
        have e' : b = e ∨ b = it := by simpa using hb
        rcases e' with z | z
        · rw [z]; exact hel
        · rw [z]; exact hil
      rw [upd_ne (Nat.ne_of_lt hb')]
      exact (hf b hb).1
  done := by
    intro X hP hw hK hc i pins s σ H E I hf st hg
    subst hP hw hK
    obtain ⟨⟨old, he⟩, hit, hne⟩ := st
    obtain ⟨xs, hq, hx⟩ := hg
    obtain ⟨its, rv, p, hz⟩ := I.tuple hq
    obtain ⟨f0, f1, f2, f3, f4, f5⟩ := hf it (by simp)
    have hl := rv.length
    have hT : s.TypeIs (.ref e) "enumerate" := ⟨_, he, rfl⟩
    unfold pyNext
    refine wpAny_bind (wpAny_attempt (wpAny_callSpecial?_slot (name := Str.ofString "__next__") hT F.slot_enumerate_next
      (wpAny_call_entry F.slot_enumerate_next hT F.entry_enumerate_next ?_ (F.args_enumerate_next_1 _))))
    show wpAny _ _ (field (.ref e) 2 >>= _) _ _ _
    refine wpAny_bind (wpAny_field he rfl (x := .ref it) rfl ?_)
    refine wpAny_bind (wpAny_nextOf_tuple_end (I.ok.hd hc) hit (show s.heap.IsTuple a its.toArray from p) (by simp; omega) fun h' x eb hx' => ?_)
    obtain ⟨o, ho, hc'⟩ := hx'
    refine wpAny_bind (wpAny_isInstance (T := "StopIteration") (b := true) ⟨o, ho, hc'⟩ isSubtype_stop ?_)
    exact wpAny_pure ⟨rfl, I.turned (t' := s.toks) (fun b o hb q => eb b o hb q) f0 f1 f3 f4 f5⟩
  self := fun A i s Q E st h => let ⟨⟨_, he⟩, _⟩ := st; wpAny_pyIter_enum he h
def iEnumT (K : PySem.W.Frag) (ta : TA) : TI := fun σ H R => ta σ H fun vs H1 => ∃ a xs, vs = [.ref a] ∧ SqT K H1 a xs ∧ R (ItU K a) H1
theorem pi_enumT {X : Cx} {e : Expr} {ta : TA} {p pos tpos : Pos} {elts : List Expr} {kk : Nat} (hg : Gl X "enumerate") (hm : X.mg "enumerate" = none) (ha : PA X [e] ta) (hs : starEach [e] X.env = [(false, eval e X.env)] := by rfl) :
    PI X (.Tuple elts kk tpos) (.Call (.Name "enumerate" p) [e] [] pos) (iEnumT X.K ta) := by
  refine ⟨fun pins s σ H R I h => ?_⟩
  refine Call_ (ld_blt I hg hm boot_enumerate (PyProof.Rows.callWith_type1 (thn (ha.run pos pins s σ H _ I h) fun us s1 ⟨vs, H1, I1, r1, q1⟩ => ?_) hs rfl))
  obtain ⟨a, xs, ex, hq, q⟩ := q1
  subst ex
  cases r1 with
  | cons r rr =>
    cases rr
    cases r
    obtain ⟨its, rv, p', hz⟩ := I1.tuple hq
    have hal : a < s1.heap.objs.size := by obtain ⟨o, ho, _⟩ := p'; exact Heap.lt_size ho
    refine k79_enum_tuple (show s1.heap.IsTuple a its.toArray from p') fun h' he hit hsz hk => wpAny_pyIter_enum he ?_
    have I2 : Inv X pins σ H1 { s1 with heap := h' } := I1.kept (t' := s1.toks) hk
    refine ⟨s1.heap.objs.size + 1, [s1.heap.objs.size + 1, s1.heap.objs.size], _, _, H1, rfl, I2, turn_enumT a (s1.heap.objs.size + 1) s1.heap.objs.size (Nat.ne_of_lt (Nat.lt_succ_of_lt hal)) (Nat.ne_of_lt hal), ⟨⟨.none, he⟩, hit, Nat.succ_ne_self _⟩, fun b hb => ?_, q⟩
    have e' : b = s1.heap.objs.size + 1 ∨ b = s1.heap.objs.size := by simpa using hb
    have hle : s1.heap.objs.size ≤ b := by
      rcases e' with z | z
      · rw [z]; exact Nat.le_add_right _ _
      · rw [z]; exact Nat.le_refl _
    exact I1.fpOk hle (I1.hok.fresh hle)
theorem for_enumT {K : PySem.W.Frag} {a : Addr} {xs : List V} {g : TG} {tb : TS} {D : Ends} {σ : L2.St} {H : Hp} (Pv : Nat → L2.St → Hp → Prop) (h0 : Pv 0 σ H) (hl : ∀ i σ H, i ≤ xs.length → Pv i σ H → SqT K H a xs)
    (hs : ∀ i x σ H T, xs[i]? = some x → Pv i σ H → H T = none → g (.ref T) σ (upd H T (.tup [.int (i : Nat), x])) fun σ2 H2 => tb { D with nx := Pv (i + 1), ct := Pv (i + 1), bk := D.nx } σ2 H2) (hd : ∀ σ H, Pv xs.length σ H → D.nx σ H) :
    ∃ W : Nat → Nat → L2.St → Hp → Prop, (∃ m, W 0 m σ H) ∧ ∀ i m σ H, W i m σ H →
      ((ItU K a).stop i H ∧ D.nx σ H) ∨ ((ItU K a).go i H ∧ ∃ N : L2.St → Hp → Prop, (∀ σ' H', N σ' H' → ∃ m', m' < m ∧ W (i + 1) m' σ' H') ∧ ∀ x H', (ItU K a).yld i H x H' → g x σ H' fun σ2 H2 => tb { D with nx := N, ct := N, bk := D.nx } σ2 H2) := by
  refine ⟨fun i m σ H => m = xs.length - i ∧ i ≤ xs.length ∧ Pv i σ H, ⟨xs.length, by simp, Nat.zero_le _, h0⟩, ?_⟩
  rintro i m σ H ⟨rfl, hi, p⟩
  have q := hl i σ H hi p
  by_cases hlt : i < xs.length
  · refine .inr ⟨⟨xs, xs[i], q, by simp [hlt]⟩, Pv (i + 1), fun σ' H' p' => ⟨xs.length - (i + 1), by omega, rfl, hlt, p'⟩, fun x H' y => ?_⟩
    obtain ⟨T, x', e, hT, eH, y⟩ := y
    subst e eH
    exact hs i x' σ H T (y xs q) p hT
  · have e : i = xs.length := by omega
    subst e
    exact .inl ⟨⟨xs, q, Nat.le_refl _⟩, hd σ H p⟩
section
variable {C : Ctx} {a : Expr} {δ : En} {μ : Mem} {pos : Pos} {ds : List PyData} {E : AE} {rest body : List Stmt}
/-- for i, y in enumerate(a), a a tuple -/
theorem js_forE {yi yw : Str} {pi pw pr pc pt : Pos} {kt : Nat} (k1 k2 : Nat) (h1 : Nm C k1 yi) (h2 : Nm C k2 yw) (hm : NoC C "enumerate") (Iv : Nat → En → Mem → Prop) (hi : JE C a δ μ fun s μ1 => s = .dat (.tuple ds) ∧ Iv 0 δ μ1)
    (hs1 : ∀ n d δ1 μ1, ds[n]? = some d → Iv n δ1 μ1 → JS C body ((δ1.set k1 (some (.dat (.int (n : Nat))))).set k2 (some (.dat d))) μ1 { nx := Iv (n + 1), ct := Iv (n + 1), rt := E.rt, bk := fun δ2 μ2 => JS C rest δ2 μ2 E }) (hd : ∀ δ1 μ1, Iv ds.length δ1 μ1 → JS C rest δ1 μ1 E)
    (hg : GlC C "enumerate" := by rfl) (hst : ∀ env, starEach [a] env = (false, eval a env) :: starEach [] env := by intro _; rfl) (hst2 : ∀ env, starEach [a] env = [(false, eval a env)] := by intro _; rfl)
    (hf : ∀ env x, foldedSetIterable (.Call (.Name "enumerate" pr) [a] [] pc) env x = pure x := by intro _ _; rfl)
    (ha1 : ∀ env, (assignEach [.Name yi pi, .Name yw pw] env).map (·.2) = assign (.Name yi pi) env :: (assignEach [.Name yw pw] env).map (·.2) := by intro _; rfl)
    (ha2 : ∀ env, (assignEach [.Name yw pw] env).map (·.2) = assign (.Name yw pw) env :: (assignEach [] env).map (·.2) := by intro _; rfl)
    (ha3 : ∀ env, (assignEach [.Name yi pi, .Name yw pw] env).length = 2 := by intro _; rfl) (ha4 : ∀ env, (assignEach [.Name yi pi, .Name yw pw] env).findIdx? (·.1) = none := by intro _; rfl) :
    JS C (.For (.Tuple [.Name yi pi, .Name yw pw] kt pt) (.Call (.Name "enumerate" pr) [a] [] pc) body [] pos :: rest) δ μ E := fun hs σ H as S D k =>
  ⟨tSeq (tFor (iEnumT C.K (tCons (WE C a) tNil)) (WG C (.Tuple [.Name yi pi, .Name yw pw] kt pt)) (WB C body)) (WB C rest), fun X hX => pss_cons (ps_for (by rw [hX.xe]; exact PassesOwn.never) hX.calm (by rw [← hX.K]; exact pi_enumT (gl hX hg) (by rw [hX.mg]; exact hm) (pa_cons (we hX) pa_nil (hst _)) (hst2 _)) (wg hX) (wb hX) (hf _)) (wb hX),
    hi hs σ H as S _ fun v H1 s1 μ1 as1 n1 m1 sv ⟨e1, i0⟩ => by
      subst e1
      obtain ⟨a', xs, r1, r2, r3⟩ := Dp.tup_inv sv
      refine ⟨a', xs, by rw [r1], Evl.ex_t (hide_ex _ _) r2, ?_⟩
      refine for_enumT (xs := xs) (fun n σ' H' => ∃ as' δ' μ', Nxt as1 μ1 H1 as' μ' H' ∧ StOk C.K hs as' H' σ' δ' μ' ∧ Iv n δ' μ') ⟨as1, δ, μ1, Nxt.refl _ _ _, S.next n1 m1, i0⟩ ?_ ?_ ?_
      · rintro n σ' H' _ ⟨as', δ', μ', n2, S2, _⟩
        exact Evl.ex_t (hide_ex _ _) (Evl.ex_t n2.ex r2)
      · rintro n v σ' H' T hv ⟨as', δ', μ', n2, S2, iv⟩ hT
        obtain ⟨d, hd1, hd2⟩ := DpAll.get' r3 hv
        have n3 : Nxt as' μ' H' as' μ' (upd H' T (.tup [.int (n : Nat), v])) := Nxt.grow (Ex.new hT)
        have S3 := S2.next n3 (S2.me.grow (Ex.new hT))
        have dv : Dp C.K (kn hs as' μ' (upd H' T (.tup [.int (n : Nat), v]))) (.ref T) (.tuple [.int (n : Nat), d]) := new_tup S2.me.hso hT (.cons (.int _) (.cons (Dp.mono n2.ex hd2) .nil))
        have jg : JG C (.Tuple [.Name yi pi, .Name yw pw] kt pt) (.dat (.tuple [.int (n : Nat), d])) δ' μ' (fun δ2 μ2 => δ2 = (δ'.set k1 (some (.dat (.int (n : Nat))))).set k2 (some (.dat d)) ∧ μ2 = μ') :=
          jg_tup (jgs_cons (jg_name h1 (jgs_cons (jg_name h2 (jgs_nil ⟨rfl, rfl⟩)) ha2)) ha1) rfl ha3 ha4
        refine jg hs σ' _ as' (.ref T) S3 dv _ fun σ4 H4 δ4 μ4 as4 n4 S4 ⟨e1, e2⟩ => ?_
        subst e1 e2
        have n5 := n2.trans (n3.trans n4)
        exact hs1 n d δ' _ hd1 iv hs _ H4 as4 S4 _ ⟨fun σ3 H3 δ3 μ3 as3 n3 S3 p => ⟨as3, δ3, μ3, n5.trans n3, S3, p⟩, fun w' H3 s3 μ3 as3 n3 m3 sv3 p => k.rt w' H3 s3 μ3 as3 ((n1.trans n5).trans n3) m3 sv3 p, fun σ3 H3 δ3 μ3 as3 n3 S3 p => p hs σ3 H3 as3 S3 D (k.after ((n1.trans n5).trans n3)), fun σ3 H3 δ3 μ3 as3 n3 S3 p => ⟨as3, δ3, μ3, n5.trans n3, S3, p⟩⟩
      · rintro σ' H' ⟨as', δ', μ', n2, S2, iv⟩
        rw [DpAll.len r3] at iv
        exact hd δ' μ' iv hs σ' H' as' S2 D (k.after (n1.trans n2))⟩
end
end K79
end
section
set_option Elab.async false
set_option linter.all false
set_option maxRecDepth 100000
namespace K79
open PySem PySem.Spec PyProof.Rows L2
open Evl (Ex)
variable {P : Program} {w : World} {K : PySem.W.Frag} {mg : Str → Option Value} {base : Heap}
theorem okK {x : Str} {st : Stmt} {N ps : List Str} {k : Nat} {α : Type} {args : α → List PyData} {pre : α → Prop} {g : α → PyData} (D : DefAt K mg x st) (S : FnScope N ps (defScope st))
    (hkw : ∀ (kV doc pm : Value) (an : Option Addr) (cdv ct : Value) (ws : List Value), ws.length = ps.length → bindArgs (PySem.W.fnOf x x (defArgs st) (defBody st) (defScope st) .none kV doc pm an cdv ct) ⟨[], ps.zip ws⟩ = pure (ps.zip ws)) (hps : ps ≠ [])
    (hlen : ∀ y, (args y).length = ps.length) (body : ∀ y, pre y → JS (fC P w K mg base k N (defScope st)) (defBody st) (en0 N ((args y).map .dat)) [] ⟨fun _ _ => g y = .none, fun s _ => s = .dat (g y), fun _ _ => False, fun _ _ => False⟩) : OKk P w K mg base x (k + 1) ps (SpD K args pre g) := by
  obtain ⟨f, fd, hm, F⟩ := D
  refine ⟨f, fd, hm, F.kp, kbinds F hps hkw, F.ok S (fun vs H Q E h => ?_) fun cdv A outer s H vs Q E hr h => ?_⟩
  · obtain ⟨hs, y, _, h1, h2, _⟩ := h
    rw [DpAll.len h1]; exact hlen y
  · obtain ⟨hs, y, ho, h1, h2, q⟩ := h
    have eq0 : ∀ G : Hp, kn hs [] [] G = hide hs G := fun G => by unfold kn hid; rw [List.append_nil]
    have S0 : StOk K hs [] H (start N vs) (en0 N ((args y).map .dat)) [] := ⟨by rw [show hide (hs ++ hid [] []) H = hide hs H from eq0 H]; exact slots0 (SVs.of h1), ⟨rfl, List.nodup_nil, fun a ha => (by cases ha), ho, fun i a h => (by simp at h), fun i a ds h => (by simp at h)⟩⟩
    have R := body y h2 hs (start N vs) H [] S0 { nx := fun _ H' => Q .non H', rt := Q } ⟨fun σ' H' δ' μ' as' n St e => ?_, fun v H' s μ' as' n m sv e => ?_, fun _ _ _ _ _ _ _ e => False.elim e, fun _ _ _ _ _ _ _ e => False.elim e⟩
    · exact ⟨_, PSs.nox (wb (inF_of hr)), R⟩
    · refine q .non H' (fun b o hb => (n.keep b o (fun z => by cases z) hb).1) ?_
      rw [e]; exact .non
    · subst e
      refine q v H' (fun b o hb => (n.keep b o (fun z => by cases z) hb).1) ?_
      exact Dp.mono (hide_sub fun b hb => List.mem_append_left _ hb) sv
end K79
end
section
set_option Elab.async false
set_option linter.all false
set_option maxRecDepth 100000
namespace K79
open PySem PySem.Spec PyProof.Rows L2
def topS (i : Nat) : Stmt := PySem.Challenge.pw_drawarms_k79_whole_no_arm_beats_the_fewe.main.body.getD i (.Pass ⟨0, 0, 0, 0⟩)
/-- a complex number as Python holds it -/
@[reducible] def dC (z : GI) : PyData := .tuple [.int z.re, .int z.im]
@[reducible] def dP (p : Int × Int × Int) : PyData := .tuple [.int p.1, .int p.2.1, .int p.2.2]
@[reducible] def dF (f : Bool) : PyData := .int (if f then 1 else 0)
@[reducible] def dM (x : Ch) : PyData := .tuple [dF x.f, dC x.m.a, dC x.m.b, dC x.m.c, dC x.m.d]
def wordsS : List Str := ["carry", "grow", "turnabout", "mirror"]
/-! ### sizes -/
def Sz (n : Nat) (z : GI) : Prop := z.re.natAbs < 2 ^ n ∧ z.im.natAbs < 2 ^ n
theorem nz {n m : Nat} {i : Int} (h : i.natAbs < 2 ^ n) (hm : n ≤ m) : i.natAbs < 2 ^ m := Nat.lt_of_lt_of_le h (Nat.pow_le_pow_right (by decide) hm)
theorem cm {i j : Int} {n m : Nat} (h1 : i.natAbs < 2 ^ n) (h2 : j.natAbs < 2 ^ m) (hn : n + m ≤ 999000 := by decide) : CMulW i j :=
  wide_mul (a := n + 1) (b := m + 1) (nz h1 (by omega)) (nz h2 (by omega)) (by omega) (by omega) (by omega)
theorem dv2 {j : Int} (h : j.natAbs < 2 ^ 8900) : (2 * j).natAbs.log2 < 9000 := by
  have e : (2 * j).natAbs < 2 ^ 8901 := by
    rw [Int.natAbs_mul, Nat.pow_succ]
    show 2 * j.natAbs < _
    omega
  exact Nat.lt_of_lt_of_le (PySem.Flt.log2_lt_of (by decide) e) (by decide)
end K79
end
section
set_option Elab.async false
set_option linter.all false
set_option maxRecDepth 100000
namespace K79
open PySem PySem.Spec PyProof.Rows L2 GI Mx Ch
variable {P : Program} {w : World} {K : PySem.W.Frag} {mg : Str → Option Value} {base : Heap}

abbrev sp_plus (K : PySem.W.Frag) : Sp := SpD K (α := GI × GI) (fun p => [dC p.1, dC p.2]) (fun _ => True) (fun p => dC (p.1 + p.2))
theorem sc15 : FnScope ["number", "other"] ["number", "other"] (defScope (topS 15)) := ⟨rfl, rfl, rfl, by decide +kernel, rfl, by decide +kernel, by decide +kernel⟩
theorem ok_plus (D : DefAt K mg "plus" (topS 15)) : OKs P w K mg base "plus" 1 ["number", "other"] (sp_plus K) := by
  refine okD (k := 0) D sc15 (fun _ _ _ _ _ _ us hl => match us, hl with | [_, _], _ => rfl) (fun _ => rfl) (fun y hp => ?_)
  refine js_ret (je (de_tup (da_cons (de_add (de_ixT (de_name 0) de_int) (de_ixT (de_name 1) de_int)) (da_cons (de_add (de_ixT (de_name 0) de_int) (de_ixT (de_name 1) de_int)) da_nil))) rfl)
abbrev sp_minus (K : PySem.W.Frag) : Sp := SpD K (α := GI × GI) (fun p => [dC p.1, dC p.2]) (fun _ => True) (fun p => dC (p.1 - p.2))
theorem sc16 : FnScope ["number", "other"] ["number", "other"] (defScope (topS 16)) := ⟨rfl, rfl, rfl, by decide +kernel, rfl, by decide +kernel, by decide +kernel⟩
theorem ok_minus (D : DefAt K mg "minus" (topS 16)) : OKs P w K mg base "minus" 1 ["number", "other"] (sp_minus K) := by
  refine okD (k := 0) D sc16 (fun _ _ _ _ _ _ us hl => match us, hl with | [_, _], _ => rfl) (fun _ => rfl) (fun y hp => ?_)
  refine js_ret (je (de_tup (da_cons (de_sub (de_ixT (de_name 0) de_int) (de_ixT (de_name 1) de_int)) (da_cons (de_sub (de_ixT (de_name 0) de_int) (de_ixT (de_name 1) de_int)) da_nil))) rfl)
abbrev sp_times (K : PySem.W.Frag) : Sp := SpD K (α := GI × GI) (fun p => [dC p.1, dC p.2]) (fun p => Sz 200000 p.1 ∧ Sz 200000 p.2) (fun p => dC (p.1 * p.2))
theorem sc17 : FnScope ["number", "other"] ["number", "other"] (defScope (topS 17)) := ⟨rfl, rfl, rfl, by decide +kernel, rfl, by decide +kernel, by decide +kernel⟩
theorem ok_times (D : DefAt K mg "times" (topS 17)) : OKs P w K mg base "times" 1 ["number", "other"] (sp_times K) := by
  refine okD (k := 0) D sc17 (fun _ _ _ _ _ _ us hl => match us, hl with | [_, _], _ => rfl) (fun _ => rfl) (fun y hp => ?_)
  refine js_ret (je (de_tup (da_cons (de_sub (de_mul ?_ (de_ixT (de_name 0) de_int) (de_ixT (de_name 1) de_int)) (de_mul ?_ (de_ixT (de_name 0) de_int) (de_ixT (de_name 1) de_int))) (da_cons (de_add (de_mul ?_ (de_ixT (de_name 0) de_int) (de_ixT (de_name 1) de_int)) (de_mul ?_ (de_ixT (de_name 0) de_int) (de_ixT (de_name 1) de_int))) da_nil))) rfl)
  · exact cm hp.1.1 hp.2.1
  · exact cm hp.1.2 hp.2.2
  · exact cm hp.1.1 hp.2.2
  · exact cm hp.1.2 hp.2.1
abbrev sp_scaled (K : PySem.W.Frag) : Sp := SpD K (α := GI × Int) (fun p => [dC p.1, .int p.2]) (fun p => Sz 200000 p.1 ∧ p.2.natAbs < 2 ^ 200000) (fun p => dC ⟨p.2 * p.1.re, p.2 * p.1.im⟩)
theorem sc18 : FnScope ["number", "factor"] ["number", "factor"] (defScope (topS 18)) := ⟨rfl, rfl, rfl, by decide +kernel, rfl, by decide +kernel, by decide +kernel⟩
theorem ok_scaled (D : DefAt K mg "scaled" (topS 18)) : OKs P w K mg base "scaled" 1 ["number", "factor"] (sp_scaled K) := by
  refine okD (k := 0) D sc18 (fun _ _ _ _ _ _ us hl => match us, hl with | [_, _], _ => rfl) (fun _ => rfl) (fun y hp => ?_)
  refine js_ret (je (de_tup (da_cons (de_mul ?_ (de_name 1) (de_ixT (de_name 0) de_int)) (da_cons (de_mul ?_ (de_name 1) (de_ixT (de_name 0) de_int)) da_nil))) rfl)
  · exact cm hp.2 hp.1.1
  · exact cm hp.2 hp.1.2
abbrev sp_turned_over (K : PySem.W.Frag) : Sp := SpD K (α := GI) (fun z => [dC z]) (fun _ => True) (fun z => dC (bar z))
theorem sc19 : FnScope ["number"] ["number"] (defScope (topS 19)) := ⟨rfl, rfl, rfl, by decide +kernel, rfl, by decide +kernel, by decide +kernel⟩
theorem ok_turned_over (D : DefAt K mg "turned_over" (topS 19)) : OKs P w K mg base "turned_over" 1 ["number"] (sp_turned_over K) := by
  refine okD (k := 0) D sc19 (fun _ _ _ _ _ _ us hl => match us, hl with | [_], _ => rfl) (fun _ => rfl) (fun y hp => ?_)
  refine js_ret (je (de_tup (da_cons (de_ixT (de_name 0) de_int) (da_cons (de_neg (de_ixT (de_name 0) de_int)) da_nil))) rfl)
abbrev sp_square_size (K : PySem.W.Frag) : Sp := SpD K (α := GI) (fun z => [dC z]) (fun z => Sz 200000 z) (fun z => .int (nrm z))
theorem sc20 : FnScope ["number"] ["number"] (defScope (topS 20)) := ⟨rfl, rfl, rfl, by decide +kernel, rfl, by decide +kernel, by decide +kernel⟩
theorem ok_square_size (D : DefAt K mg "square_size" (topS 20)) : OKs P w K mg base "square_size" 1 ["number"] (sp_square_size K) := by
  refine okD (k := 0) D sc20 (fun _ _ _ _ _ _ us hl => match us, hl with | [_], _ => rfl) (fun _ => rfl) (fun y hp => ?_)
  refine js_ret (je (de_add (de_mul ?_ (de_ixT (de_name 0) de_int) (de_ixT (de_name 0) de_int)) (de_mul ?_ (de_ixT (de_name 0) de_int) (de_ixT (de_name 0) de_int))) rfl)
  · exact cm hp.1 hp.1
  · exact cm hp.2 hp.2
abbrev sp_nearest (K : PySem.W.Frag) : Sp := SpD K (α := Int × Int) (fun p => [.int p.1, .int p.2]) (fun p => p.1.natAbs < 2 ^ 200000 ∧ 0 < p.2 ∧ p.2.natAbs < 2 ^ 8900) (fun p => .int (near p.1 p.2))
theorem sc22 : FnScope ["number", "below"] ["number", "below"] (defScope (topS 22)) := ⟨rfl, rfl, rfl, by decide +kernel, rfl, by decide +kernel, by decide +kernel⟩
theorem ok_nearest (D : DefAt K mg "nearest" (topS 22)) : OKs P w K mg base "nearest" 1 ["number", "below"] (sp_nearest K) := by
  refine okD (k := 0) D sc22 (fun _ _ _ _ _ _ us hl => match us, hl with | [_, _], _ => rfl) (fun _ => rfl) (fun y hp => ?_)
  refine js_ret (je (de_fdiv ?_ (de_add (de_mul ?_ de_int (de_name 0)) (de_name 1)) (de_mul ?_ de_int (de_name 1))) rfl)
  · exact ⟨by have := hp.2.1; show 0 < 2 * y.2; omega, dv2 hp.2.2⟩
  · exact cm (n := 2) (by decide) hp.1
  · exact cm (n := 2) (by decide) hp.2.2
abbrev sp__law_plus (K : PySem.W.Frag) : Sp := SpD K (α := GI × GI) (fun p => [dC p.1, dC p.2]) (fun _ => True) (fun p => dC (p.1 + p.2))
theorem sc70 : FnScope ["_law_one", "_law_two"] ["_law_one", "_law_two"] (defScope (topS 70)) := ⟨rfl, rfl, rfl, by decide +kernel, rfl, by decide +kernel, by decide +kernel⟩
theorem ok__law_plus (D : DefAt K mg "_law_plus" (topS 70)) : OKs P w K mg base "_law_plus" 1 ["_law_one", "_law_two"] (sp__law_plus K) := by
  refine okD (k := 0) D sc70 (fun _ _ _ _ _ _ us hl => match us, hl with | [_, _], _ => rfl) (fun _ => rfl) (fun y hp => ?_)
  refine js_ret (je (de_tup (da_cons (de_add (de_ixT (de_name 0) de_int) (de_ixT (de_name 1) de_int)) (da_cons (de_add (de_ixT (de_name 0) de_int) (de_ixT (de_name 1) de_int)) da_nil))) rfl)
abbrev sp__law_minus (K : PySem.W.Frag) : Sp := SpD K (α := GI × GI) (fun p => [dC p.1, dC p.2]) (fun _ => True) (fun p => dC (p.1 - p.2))
theorem sc71 : FnScope ["_law_one", "_law_two"] ["_law_one", "_law_two"] (defScope (topS 71)) := ⟨rfl, rfl, rfl, by decide +kernel, rfl, by decide +kernel, by decide +kernel⟩
theorem ok__law_minus (D : DefAt K mg "_law_minus" (topS 71)) : OKs P w K mg base "_law_minus" 1 ["_law_one", "_law_two"] (sp__law_minus K) := by
  refine okD (k := 0) D sc71 (fun _ _ _ _ _ _ us hl => match us, hl with | [_, _], _ => rfl) (fun _ => rfl) (fun y hp => ?_)
  refine js_ret (je (de_tup (da_cons (de_sub (de_ixT (de_name 0) de_int) (de_ixT (de_name 1) de_int)) (da_cons (de_sub (de_ixT (de_name 0) de_int) (de_ixT (de_name 1) de_int)) da_nil))) rfl)
abbrev sp__law_times (K : PySem.W.Frag) : Sp := SpD K (α := GI × GI) (fun p => [dC p.1, dC p.2]) (fun p => Sz 200000 p.1 ∧ Sz 200000 p.2) (fun p => dC (p.1 * p.2))
theorem sc69 : FnScope ["_law_one", "_law_two"] ["_law_one", "_law_two"] (defScope (topS 69)) := ⟨rfl, rfl, rfl, by decide +kernel, rfl, by decide +kernel, by decide +kernel⟩
theorem ok__law_times (D : DefAt K mg "_law_times" (topS 69)) : OKs P w K mg base "_law_times" 1 ["_law_one", "_law_two"] (sp__law_times K) := by
  refine okD (k := 0) D sc69 (fun _ _ _ _ _ _ us hl => match us, hl with | [_, _], _ => rfl) (fun _ => rfl) (fun y hp => ?_)
  refine js_ret (je (de_tup (da_cons (de_sub (de_mul ?_ (de_ixT (de_name 0) de_int) (de_ixT (de_name 1) de_int)) (de_mul ?_ (de_ixT (de_name 0) de_int) (de_ixT (de_name 1) de_int))) (da_cons (de_add (de_mul ?_ (de_ixT (de_name 0) de_int) (de_ixT (de_name 1) de_int)) (de_mul ?_ (de_ixT (de_name 0) de_int) (de_ixT (de_name 1) de_int))) da_nil))) rfl)
  · exact cm hp.1.1 hp.2.1
  · exact cm hp.1.2 hp.2.2
  · exact cm hp.1.1 hp.2.2
  · exact cm hp.1.2 hp.2.1
abbrev sp__law_bar (K : PySem.W.Frag) : Sp := SpD K (α := GI) (fun z => [dC z]) (fun _ => True) (fun z => dC (bar z))
theorem sc72 : FnScope ["_law_one"] ["_law_one"] (defScope (topS 72)) := ⟨rfl, rfl, rfl, by decide +kernel, rfl, by decide +kernel, by decide +kernel⟩
theorem ok__law_bar (D : DefAt K mg "_law_bar" (topS 72)) : OKs P w K mg base "_law_bar" 1 ["_law_one"] (sp__law_bar K) := by
  refine okD (k := 0) D sc72 (fun _ _ _ _ _ _ us hl => match us, hl with | [_], _ => rfl) (fun _ => rfl) (fun y hp => ?_)
  refine js_ret (je (((de_tup (da_cons (de_ixT (de_name 0) de_int) (da_cons (de_sub de_int (de_ixT (de_name 0) de_int)) da_nil)))).is ?_) rfl)
  show PyData.tuple [.int y.re, .int (0 - y.im)] = .tuple [.int y.re, .int (-y.im)]
  rw [Int.zero_sub]
abbrev sp__law_norm (K : PySem.W.Frag) : Sp := SpD K (α := GI) (fun z => [dC z]) (fun z => Sz 200000 z) (fun z => .int (nrm z))
theorem sc73 : FnScope ["_law_one"] ["_law_one"] (defScope (topS 73)) := ⟨rfl, rfl, rfl, by decide +kernel, rfl, by decide +kernel, by decide +kernel⟩
theorem ok__law_norm (D : DefAt K mg "_law_norm" (topS 73)) : OKs P w K mg base "_law_norm" 1 ["_law_one"] (sp__law_norm K) := by
  refine okD (k := 0) D sc73 (fun _ _ _ _ _ _ us hl => match us, hl with | [_], _ => rfl) (fun _ => rfl) (fun y hp => ?_)
  refine js_ret (je (de_add (de_mul ?_ (de_ixT (de_name 0) de_int) (de_ixT (de_name 0) de_int)) (de_mul ?_ (de_ixT (de_name 0) de_int) (de_ixT (de_name 0) de_int))) rfl)
  · exact cm hp.1 hp.1
  · exact cm hp.2 hp.2
end K79
end
section
set_option Elab.async false
set_option linter.all false
set_option maxRecDepth 100000
namespace K79
open PySem PySem.Spec PyProof.Rows L2 GI Mx Ch
variable {P : Program} {w : World} {K : PySem.W.Frag} {mg : Str → Option Value} {base : Heap}

theorem Sz.mono {n m : Nat} {z : GI} (h : Sz n z) (hm : n ≤ m := by decide) : Sz m z := ⟨nz h.1 hm, nz h.2 hm⟩
theorem nat_add {a b n : Nat} (h1 : a < 2 ^ n) (h2 : b < 2 ^ n) : a + b < 2 ^ (n + 1) := by rw [Nat.pow_succ]; omega
theorem ab_add {i j : Int} {n : Nat} (h1 : i.natAbs < 2 ^ n) (h2 : j.natAbs < 2 ^ n) : (i + j).natAbs < 2 ^ (n + 1) := Nat.lt_of_le_of_lt (Int.natAbs_add_le i j) (nat_add h1 h2)
theorem ab_sub {i j : Int} {n : Nat} (h1 : i.natAbs < 2 ^ n) (h2 : j.natAbs < 2 ^ n) : (i - j).natAbs < 2 ^ (n + 1) := by
  have := ab_add h1 (show (-j).natAbs < 2 ^ n by rw [Int.natAbs_neg]; exact h2)
  rw [← Int.sub_eq_add_neg] at this; exact this
theorem ab_mul {i j : Int} {n m : Nat} (h1 : i.natAbs < 2 ^ n) (h2 : j.natAbs < 2 ^ m) : (i * j).natAbs < 2 ^ (n + m) := wide_lt h1 h2
theorem Sz.mul {n m : Nat} {z w : GI} (h1 : Sz n z) (h2 : Sz m w) : Sz (n + m + 1) (z * w) := ⟨ab_sub (ab_mul h1.1 h2.1) (ab_mul h1.2 h2.2), ab_add (ab_mul h1.1 h2.2) (ab_mul h1.2 h2.1)⟩
theorem Sz.add {n : Nat} {z w : GI} (h1 : Sz n z) (h2 : Sz n w) : Sz (n + 1) (z + w) := ⟨ab_add h1.1 h2.1, ab_add h1.2 h2.2⟩
theorem Sz.sub {n : Nat} {z w : GI} (h1 : Sz n z) (h2 : Sz n w) : Sz (n + 1) (z - w) := ⟨ab_sub h1.1 h2.1, ab_sub h1.2 h2.2⟩
theorem Sz.bar {n : Nat} {z : GI} (h : Sz n z) : Sz n (GI.bar z) := ⟨h.1, by show (-z.im).natAbs < _; rw [Int.natAbs_neg]; exact h.2⟩
theorem Sz.neg {n : Nat} {z : GI} (h : Sz n z) : Sz n (-z) := ⟨by show (-z.re).natAbs < _; rw [Int.natAbs_neg]; exact h.1, by show (-z.im).natAbs < _; rw [Int.natAbs_neg]; exact h.2⟩
theorem Sz.nrm {n : Nat} {z : GI} (h : Sz n z) : (GI.nrm z).natAbs < 2 ^ (n + n + 1) := ab_add (ab_mul h.1 h.1) (ab_mul h.2 h.2)
theorem pow_cast (n : Nat) : ((2 ^ n : Nat) : Int) = 2 ^ n := by
  induction n with
  | zero => rfl
  | succ n ih => rw [Nat.pow_succ, Int.pow_succ, ← ih]; simp
theorem sq_lt {x : Int} {n : Nat} (h : x * x < 2 ^ (n + n)) : x.natAbs < 2 ^ n := by
  refine Nat.lt_of_not_le fun hh => ?_
  have h1 : 2 ^ n * 2 ^ n ≤ x.natAbs * x.natAbs := Nat.mul_le_mul hh hh
  rw [← Nat.pow_add] at h1
  have h2 : ((x.natAbs * x.natAbs : Nat) : Int) = x * x := Int.natAbs_mul_self
  have h3 : ((2 ^ (n + n) : Nat) : Int) ≤ x * x := by rw [← h2]; exact Int.ofNat_le.mpr h1
  rw [pow_cast] at h3
  omega
/-- a norm's bound bounds the parts -/
theorem Sz.of {n : Nat} {z : GI} (h : GI.nrm z < 2 ^ (n + n)) : Sz n z := by
  have a := GI.sq_nonneg z.re
  have b := GI.sq_nonneg z.im
  unfold GI.nrm at h
  exact ⟨sq_lt (by omega), sq_lt (by omega)⟩
theorem Lo.sz {z : GI} (h : Lo z) : Sz 2000 z := Sz.of (n := 2000) h
theorem eqv_C (z w : GI) : PyData.eqv (dC z) (dC w) = decide (z = w) := by
  have e : PyData.eqv (dC z) (dC w) = ((z.re == w.re) && ((z.im == w.im) && true)) := by simp only [dC, PyData.eqv, PyData.eqvAll]
  rw [e, Bool.and_true, Bool.eq_iff_iff]
  simp only [Bool.and_eq_true, beq_iff_eq, decide_eq_true_eq]
  exact ⟨fun h => GI.ext h.1 h.2, fun h => by rw [h]; exact ⟨rfl, rfl⟩⟩
theorem eqv_int (i j : Int) : PyData.eqv (.int i) (.int j) = decide (i = j) := by
  show PyData.eqv (.int i) (.int j) = _
  simp only [PyData.eqv]
  rw [Bool.eq_iff_iff, beq_iff_eq, decide_eq_true_eq]

def tryU (z : GI) : List GI → Option GI
  | [] => none
  | u :: r => if QF (z * u) then some u else tryU z r
theorem szu {n : Nat} {z u : GI} (h : Sz 100000 z) (hu : u = 1 ∨ u = ui ∨ u = -1) : Sz 200000 z ∧ Sz 200000 u := by
  refine ⟨h.mono, ?_⟩
  rcases hu with rfl | rfl | rfl <;> exact Sz.mono (n := 1) ⟨by decide, by decide⟩
theorem unit_at {n : Nat} {d : PyData} (h : [dC 1, dC ui, dC (-1)][n]? = some d) : ∃ u, d = dC u ∧ (u = 1 ∨ u = ui ∨ u = -1) ∧ [(1 : GI), ui, -1][n]? = some u := by
  match n, h with
  | 0, h => exact ⟨1, (Option.some.inj h).symm, .inl rfl, rfl⟩
  | 1, h => exact ⟨ui, (Option.some.inj h).symm, .inr (.inl rfl), rfl⟩
  | 2, h => exact ⟨-1, (Option.some.inj h).symm, .inr (.inr rfl), rfl⟩
  | n + 3, h => simp at h
theorem unitF_of {z u : GI} {n : Nat} (h : [(1 : GI), ui, -1][n]? = some u) (hq : QF (z * u)) (hb : ∀ m, m < n → ∀ v, [(1 : GI), ui, -1][m]? = some v → ¬ QF (z * v)) : unitF z = u := by
  unfold unitF
  match n, h with
  | 0, h => rw [← Option.some.inj h] at hq; rw [if_pos hq]; exact Option.some.inj h
  | 1, h =>
    rw [← Option.some.inj h] at hq
    rw [if_neg (hb 0 (by decide) 1 rfl), if_pos hq]; exact Option.some.inj h
  | 2, h =>
    rw [← Option.some.inj h] at hq
    rw [if_neg (hb 0 (by decide) 1 rfl), if_neg (hb 1 (by decide) ui rfl), if_pos hq]; exact Option.some.inj h
  | n + 3, h => simp at h
theorem unitF_last {z : GI} (hb : ∀ m, m < 3 → ∀ v, [(1 : GI), ui, -1][m]? = some v → ¬ QF (z * v)) : unitF z = -ui := by
  unfold unitF
  rw [if_neg (hb 0 (by decide) 1 rfl), if_neg (hb 1 (by decide) ui rfl), if_neg (hb 2 (by decide) (-1) rfl)]
abbrev sp_unit_for (K : PySem.W.Frag) : Sp := SpD K (α := GI) (fun z => [dC z]) (fun z => z ≠ 0 ∧ Sz 100000 z) (fun z => dC (unitF z))
theorem sc21 : FnScope ["number", "unit", "found"] ["number"] (defScope (topS 21)) := ⟨rfl, rfl, rfl, by decide +kernel, rfl, by decide +kernel, by decide +kernel⟩
theorem ok_unit_for (D : DefAt K mg "unit_for" (topS 21)) (c_UNITS : CnK K mg "UNITS" (.tuple [dC 1, dC ui, dC (-1), dC (-ui)])) (h_times : OKs P w K mg base "times" 1 ["number", "other"] (sp_times K)) : OKs P w K mg base "unit_for" 2 ["number"] (sp_unit_for K) := by
  refine okD (k := 1) D sc21 (fun _ _ _ _ _ _ us hl => match us, hl with | [_], _ => rfl) (fun _ => rfl) (fun y hp => ?_)
  refine js_forT (ds := [dC 1, dC ui, dC (-1)]) 1 ⟨sc21.nd, rfl, .inl rfl, .inl rfl⟩ (fun n δ' μ' => δ' = δ' ∧ μ' = [] ∧ (∃ s1 s2, δ' = [some (.dat (dC y)), s1, s2]) ∧ ∀ m, m < n → ∀ v, [(1 : GI), ui, -1][m]? = some v → ¬ QF (y * v)) (je (DE.is (de_slT (de_glob c_UNITS) do_none (do_some de_int)) rfl) ⟨rfl, rfl, rfl, ⟨_, _, rfl⟩, fun m hm => absurd hm (Nat.not_lt_zero m)⟩) (fun n d δ' μ' hd iv => ?_) (fun δ' μ' iv => ?_)
  · obtain ⟨_, rfl, ⟨s1, s2, rfl⟩, hb⟩ := iv
    obtain ⟨u, rfl, hu, hn⟩ := unit_at hd
    refine js_setD 2 ⟨sc21.nd, rfl, .inl rfl, .inl rfl⟩ (de_call h_times (_, _) (da_cons (de_name 0) (da_cons (de_name 1) da_nil)) (szu (n := 0) hp.2 hu)) ?_
    refine js_ifr (dt_and (dt_gt (de_ixT (de_name 2) de_int) de_int) fun hq => (dt_ge (de_ixT (de_name 2) de_int) de_int)) (fun hq => js_ret (je (de_name 1) ?_)) (fun hq => js_nil ⟨rfl, rfl, ⟨_, _, rfl⟩, fun m hm v hv => ?_⟩)
    · have hq' : QF (y * u) := by
        simp only [Bool.and_eq_true, decide_eq_true_eq] at hq
        exact hq
      show SV.dat (dC u) = .dat (dC (unitF y))
      rw [unitF_of hn hq' hb]
    · rcases Nat.lt_or_ge m n with h | h
      · exact hb m h v hv
      · have : m = n := by omega
        subst this
        rw [hn] at hv
        cases hv
        intro hq'
        simp only [Bool.and_eq_false_iff, decide_eq_false_iff_not] at hq
        rcases hq with h1 | h1
        · exact h1 hq'.1
        · exact h1 hq'.2
  · obtain ⟨_, rfl, ⟨s1, s2, rfl⟩, hb⟩ := iv
    refine js_ret (je (de_ixT (de_glob c_UNITS) de_int) ?_)
    show SV.dat (dC (-ui)) = .dat (dC (unitF y))
    rw [unitF_last hb]
theorem nr0 {b : GI} (lb : Lo b) (hz : b ≠ 0) : 0 < nrm b ∧ (nrm b).natAbs < 2 ^ 8900 := ⟨nrm_pos hz, nz (Sz.nrm lb.sz) (by decide)⟩
theorem nr1 {a b : GI} (la : Lo a) (lb : Lo b) (hz : b ≠ 0) : (a * bar b).re.natAbs < 2 ^ 200000 ∧ 0 < nrm b ∧ (nrm b).natAbs < 2 ^ 8900 := ⟨nz (Sz.mul la.sz lb.sz.bar).1 (by decide), nr0 lb hz⟩
theorem nr2 {a b : GI} (la : Lo a) (lb : Lo b) (hz : b ≠ 0) : (a * bar b).im.natAbs < 2 ^ 200000 ∧ 0 < nrm b ∧ (nrm b).natAbs < 2 ^ 8900 := ⟨nz (Sz.mul la.sz lb.sz.bar).2 (by decide), nr0 lb hz⟩
theorem lo_stp {a b : GI} (lb : Lo b) (hz : b ≠ 0) : Lo (stp a b) := by
  have h1 := stp_nrm a b hz
  have h2 := nrm_nonneg (stp a b)
  unfold Lo at *
  omega
/-- the whole quotient is not too great -/
theorem quo_sz {a b : GI} (la : Lo a) (lb : Lo b) (hz : b ≠ 0) : Sz 200000 (quoG a b) := by
  have e : quoG a b * b = a - stp a b := by unfold stp; grind
  have l2 := lo_stp (a := a) lb hz
  have h1 : nrm (quoG a b) ≤ nrm (quoG a b * b) := nrm_le_mul hz
  rw [e] at h1
  have h2 : nrm (a - stp a b) ≤ 2 * (nrm a + nrm (stp a b)) := by
    have := nrm_add a (-(stp a b))
    rw [nrm_neg] at this
    have e2 : a + -(stp a b) = a - stp a b := by grind
    rw [e2] at this; exact this
  unfold Lo at *
  have p2 : (2 : Int) ^ (2010 + 2010) = 2 ^ 4000 * 2 ^ 20 := by rw [← Int.pow_add]
  have p3 : (2 : Int) ^ 20 = 1048576 := by decide
  rw [p3] at p2
  refine Sz.mono (n := 2010) (Sz.of (n := 2010) ?_)
  rw [p2]
  generalize (2 : Int) ^ 4000 = B at *
  omega
/-- what is left of the turns -/
structure GW (a b x z : GI) (m : Nat) : Prop where
  la : Lo x
  lb : Lo z
  lt : nrm z < 2 ^ m
  hm : m ≤ 4000
  eq : gcdO a b = gcdF m x z
theorem GW.step {a b x z : GI} {m : Nat} (h : GW a b x z m) (hz : z ≠ 0) : ∃ m', m' < m ∧ GW a b z (stp x z) m' := by
  cases m with
  | zero => exact absurd (nrm_lt_one h.lt) hz
  | succ m =>
    refine ⟨m, Nat.lt_succ_self m, h.lb, lo_stp h.lb hz, stp_lt hz h.lt, by have := h.hm; omega, ?_⟩
    rw [h.eq, gcdF, if_neg hz]
theorem GW.done {a b x : GI} {m : Nat} (h : GW a b x 0 m) : gcdO a b = x := by rw [h.eq, gcdF_zero]
abbrev sp_divisor_of_two (K : PySem.W.Frag) : Sp := SpD K (α := GI × GI) (fun p => [dC p.1, dC p.2]) (fun p => Lo p.1 ∧ Lo p.2) (fun p => dC (gcdO p.1 p.2))
theorem sc23 : FnScope ["number", "other", "one", "two", "product", "whole"] ["number", "other"] (defScope (topS 23)) := ⟨rfl, rfl, rfl, by decide +kernel, rfl, by decide +kernel, by decide +kernel⟩
theorem ok_divisor_of_two (D : DefAt K mg "divisor_of_two" (topS 23)) (c_ZERO : CnK K mg "ZERO" (dC 0)) (h_times : OKs P w K mg base "times" 1 ["number", "other"] (sp_times K)) (h_turned_over : OKs P w K mg base "turned_over" 1 ["number"] (sp_turned_over K)) (h_nearest : OKs P w K mg base "nearest" 1 ["number", "below"] (sp_nearest K)) (h_minus : OKs P w K mg base "minus" 1 ["number", "other"] (sp_minus K)) (h_square_size : OKs P w K mg base "square_size" 1 ["number"] (sp_square_size K)) : OKs P w K mg base "divisor_of_two" 2 ["number", "other"] (sp_divisor_of_two K) := by
  refine okD (k := 1) D sc23 (fun _ _ _ _ _ _ us hl => match us, hl with | [_, _], _ => rfl) (fun _ => rfl) (fun y hp => ?_)
  refine js_par 2 3 rfl rfl (by decide) sc23.nd rfl rfl (je (de_name 0) (je (de_name 1) ?_))
  refine js_while (fun m δ' μ' => μ' = [] ∧ ∃ x z s4 s5, δ' = [some (.dat (dC y.1)), some (.dat (dC y.2)), some (.dat (dC x)), some (.dat (dC z)), s4, s5] ∧ GW y.1 y.2 x z m) 4000 ⟨rfl, _, _, _, _, rfl, hp.1, hp.2, hp.2, Nat.le_refl _, rfl⟩ fun m δ' μ' iv => ?_
  obtain ⟨rfl, x, z, s4, s5, rfl, gw⟩ := iv
  refine ⟨_, (dt_ne (de_name 3) (de_glob c_ZERO)), fun hq => ?_, fun hq => ?_⟩
  · have hz : z ≠ 0 := by
      rw [eqv_C] at hq
      simpa using hq
    have la := gw.la
    have lb := gw.lb
    refine js_setD (d := dC (x * GI.bar z)) 4 ⟨sc23.nd, rfl, .inl rfl, .inl rfl⟩ (de_call h_times (_, _) (da_cons (de_name 2) (da_cons (de_call h_turned_over _ (da_cons (de_name 3) da_nil) trivial) da_nil)) ⟨la.sz.mono, lb.sz.bar.mono⟩) ?_
    refine js_setD (d := dC (quoG x z)) 5 ⟨sc23.nd, rfl, .inl rfl, .inl rfl⟩ (de_tup (da_cons (de_call h_nearest (_, _) (da_cons (de_ixT (de_name 4) de_int) (da_cons (de_call h_square_size _ (da_cons (de_name 3) da_nil) lb.sz.mono) da_nil)) (nr1 la lb hz)) (da_cons (de_call h_nearest (_, _) (da_cons (de_ixT (de_name 4) de_int) (da_cons (de_call h_square_size _ (da_cons (de_name 3) da_nil) lb.sz.mono) da_nil)) (nr2 la lb hz)) da_nil))) ?_
    exact js_par 2 3 rfl rfl (by decide) sc23.nd rfl rfl (je (de_name 3) (je (de_call h_minus (_, _) (da_cons (de_name 2) (da_cons (de_call h_times (_, _) (da_cons (de_name 5) (da_cons (de_name 3) da_nil)) ⟨quo_sz la lb hz, lb.sz.mono⟩) da_nil)) trivial) (js_nil (by
      obtain ⟨m', hm, g'⟩ := gw.step hz
      exact ⟨m', hm, rfl, _, _, _, _, rfl, g'⟩))))
  · have hz : z = 0 := by
      rw [eqv_C] at hq
      simpa using hq
    subst hz
    refine js_ret (je (de_name 2) ?_)
    show SV.dat (dC x) = .dat (dC (gcdO y.1 y.2))
    rw [gw.done]
end K79
end
section
set_option Elab.async false
set_option linter.all false
set_option maxRecDepth 100000
namespace K79
open PySem PySem.Spec PyProof.Rows L2 GI Mx Ch
variable {P : Program} {w : World} {K : PySem.W.Frag} {mg : Str → Option Value} {base : Heap}

theorem map_at {α : Type} {f : α → PyData} {l : List α} {n : Nat} {d : PyData} (h : (l.map f)[n]? = some d) : ∃ z, d = f z ∧ l[n]? = some z := by
  rw [List.getElem?_map] at h
  cases e : l[n]? with
  | none => rw [e] at h; cases h
  | some z =>
    rw [e] at h
    exact ⟨z, (Option.some.inj h).symm, rfl⟩
theorem foldl_take {α β : Type} {f : β → α → β} {b : β} {l : List α} {n : Nat} {z : α} (h : l[n]? = some z) : (l.take (n + 1)).foldl f b = f ((l.take n).foldl f b) z := by
  rw [List.take_add_one, h, List.foldl_append]; rfl
theorem lo_fold : ∀ (l : List GI) (g : GI), Lo g → (∀ z ∈ l, Lo z) → Lo (l.foldl gcdO g)
  | [], g, h, _ => h
  | x :: r, g, h, hl => by
    refine lo_fold r (gcdO g x) ?_ fun z hz => hl z (List.mem_cons_of_mem _ hz)
    have hx := hl x List.mem_cons_self
    unfold Lo at *
    have := gcdF_nrm (m := 2 ^ 4000 - 1) 4000 g x (by omega) (by omega)
    unfold gcdO
    omega
theorem lo_zero : Lo 0 := by
  unfold Lo
  rw [nrm_zero]
  exact pow2_pos 4000
abbrev sp_divisor_of_all (K : PySem.W.Frag) : Sp := SpD K (α := List GI) (fun l => [.tuple (l.map dC)]) (fun l => ∀ z ∈ l, Lo z) (fun l => dC (gcdL l))
theorem sc24 : FnScope ["numbers", "found", "number"] ["numbers"] (defScope (topS 24)) := ⟨rfl, rfl, rfl, by decide +kernel, rfl, by decide +kernel, by decide +kernel⟩
theorem ok_divisor_of_all (D : DefAt K mg "divisor_of_all" (topS 24)) (c_ZERO : CnK K mg "ZERO" (dC 0)) (h_divisor_of_two : OKs P w K mg base "divisor_of_two" 2 ["number", "other"] (sp_divisor_of_two K)) : OKs P w K mg base "divisor_of_all" 3 ["numbers"] (sp_divisor_of_all K) := by
  refine okD (k := 2) D sc24 (fun _ _ _ _ _ _ us hl => match us, hl with | [_], _ => rfl) (fun _ => rfl) (fun y hp => ?_)
  refine js_setD 1 ⟨sc24.nd, rfl, .inl rfl, .inl rfl⟩ (de_glob c_ZERO) ?_
  refine js_forT (ds := y.map dC) 2 ⟨sc24.nd, rfl, .inl rfl, .inl rfl⟩ (fun n δ' μ' => μ' = [] ∧ ∃ s2, δ' = [some (.dat (.tuple (y.map dC))), some (.dat (dC ((y.take n).foldl gcdO 0))), s2]) (je (de_name 0) ⟨rfl, rfl, _, rfl⟩) (fun n d δ' μ' hd iv => ?_) (fun δ' μ' iv => ?_)
  · obtain ⟨rfl, s2, rfl⟩ := iv
    obtain ⟨z, rfl, hz⟩ := map_at hd
    have lg : Lo ((y.take n).foldl gcdO 0) := lo_fold _ _ lo_zero fun z hz => hp z (List.mem_of_mem_take hz)
    refine js_setD 1 ⟨sc24.nd, rfl, .inl rfl, .inl rfl⟩ (de_call h_divisor_of_two (_, _) (da_cons (de_name 1) (da_cons (de_name 2) da_nil)) ⟨lg, hp z (List.mem_of_getElem? hz)⟩) (js_nil ⟨rfl, some (.dat (dC z)), ?_⟩)
    rw [foldl_take hz]
    rfl
  · obtain ⟨rfl, s2, rfl⟩ := iv
    refine js_ret (je (de_name 1) ?_)
    rw [List.length_map, List.take_length]
    rfl
theorem dv1 {j : Int} (h : j.natAbs < 2 ^ 8900) : j.natAbs.log2 < 9000 := Nat.lt_of_lt_of_le (PySem.Flt.log2_lt_of (by decide) h) (by decide)
abbrev sp_divided (K : PySem.W.Frag) : Sp := SpD K (α := GI × GI) (fun p => [dC p.1, dC p.2]) (fun p => p.2 ≠ 0 ∧ Dv p.2 p.1 ∧ Lo p.1 ∧ Lo p.2) (fun p => dC (quo p.1 p.2))
theorem sc25 : FnScope ["number", "other", "product", "below"] ["number", "other"] (defScope (topS 25)) := ⟨rfl, rfl, rfl, by decide +kernel, rfl, by decide +kernel, by decide +kernel⟩
theorem ok_divided (D : DefAt K mg "divided" (topS 25)) (h_times : OKs P w K mg base "times" 1 ["number", "other"] (sp_times K)) (h_square_size : OKs P w K mg base "square_size" 1 ["number"] (sp_square_size K)) (h_turned_over : OKs P w K mg base "turned_over" 1 ["number"] (sp_turned_over K)) : OKs P w K mg base "divided" 2 ["number", "other"] (sp_divided K) := by
  refine okD (k := 1) D sc25 (fun _ _ _ _ _ _ us hl => match us, hl with | [_, _], _ => rfl) (fun _ => rfl) (fun y hp => ?_)
  refine ?_
  obtain ⟨hz, hd, la, lb⟩ := hp
  obtain ⟨c, hc⟩ := hd
  obtain ⟨q1, q2⟩ := quo_rem c y.2 hz
  rw [← hc] at q1 q2
  have hn := nr0 lb hz
  refine js_par 2 3 rfl rfl (by decide) sc25.nd rfl rfl (jed (dC (y.1 * GI.bar y.2)) (de_call h_times (y.1, GI.bar y.2) (da_cons (de_name 0) (da_cons (de_call h_turned_over _ (da_cons (de_name 1) da_nil) trivial) da_nil)) ⟨la.sz.mono, lb.sz.bar.mono⟩) (je (de_call h_square_size _ (da_cons (de_name 1) da_nil) lb.sz.mono) ?_))
  refine js_ifr (((dt_or (dt_ne (de_mod hn.1 (de_ixT (de_name 2) de_int) (de_name 3)) de_int) fun hq => (dt_ne (de_mod hn.1 (de_ixT (de_name 2) de_int) (de_name 3)) de_int))).is (b' := false) ?_) (fun hq => nomatch hq) (fun _ => js_ret (je (de_tup (da_cons (de_fdiv ⟨hn.1, dv1 hn.2⟩ (de_ixT (de_name 2) de_int) (de_name 3)) (da_cons (de_fdiv ⟨hn.1, dv1 hn.2⟩ (de_ixT (de_name 2) de_int) (de_name 3)) da_nil))) rfl))
  rw [eqv_int, eqv_int, decide_eq_true q1, decide_eq_true q2]
  rfl
def gcdI (l : List Int) : Int := l.foldl (fun g i => ((Nat.gcd g.natAbs i.natAbs : Nat) : Int)) 0
def toI : PyData → Int
  | .int i => i
  | _ => 0
def divT (l : List Int) : PyData := .tuple (l.map fun i => .int (i / gcdI l))
abbrev sp_divisor_of (K : PySem.W.Frag) : Sp := SpD K (α := List Int) (fun l => [.tuple (l.map .int)]) (fun _ => True) (fun l => .int (gcdI l))
theorem sc8 : FnScope ["numbers", "found", "number"] ["numbers"] (defScope (topS 8)) := ⟨rfl, rfl, rfl, by decide +kernel, rfl, by decide +kernel, by decide +kernel⟩
theorem ok_divisor_of (D : DefAt K mg "divisor_of" (topS 8)) (g_gcd : mg "gcd" = some (.builtin "math.gcd")) : OKs P w K mg base "divisor_of" 1 ["numbers"] (sp_divisor_of K) := by
  refine okD (k := 0) D sc8 (fun _ _ _ _ _ _ us hl => match us, hl with | [_], _ => rfl) (fun _ => rfl) (fun y hp => ?_)
  refine js_setD 1 ⟨sc8.nd, rfl, .inl rfl, .inl rfl⟩ de_int ?_
  refine js_forT (ds := y.map .int) 2 ⟨sc8.nd, rfl, .inl rfl, .inl rfl⟩ (fun n δ' μ' => μ' = [] ∧ ∃ s2, δ' = [some (.dat (.tuple (y.map .int))), some (.dat (.int ((y.take n).foldl (fun g i => ((Nat.gcd g.natAbs i.natAbs : Nat) : Int)) 0))), s2]) (je (de_name 0) ⟨rfl, rfl, _, rfl⟩) (fun n d δ' μ' hd iv => ?_) (fun δ' μ' iv => ?_)
  · obtain ⟨rfl, s2, rfl⟩ := iv
    obtain ⟨z, rfl, hz⟩ := map_at hd
    refine js_setD 1 ⟨sc8.nd, rfl, .inl rfl, .inl rfl⟩ (de_callBf (fun _ _ => cr_gcd) g_gcd (da_cons (de_name 1) (da_cons (de_name 2) da_nil)) caGcd) (js_nil ⟨rfl, some (.dat (.int z)), ?_⟩)
    rw [foldl_take hz]
    rfl
  · obtain ⟨rfl, s2, rfl⟩ := iv
    refine js_ret (je (de_name 1) ?_)
    rw [List.length_map, List.take_length]
    rfl
abbrev sp_lowest (K : PySem.W.Frag) : Sp := SpD K (α := List Int) (fun l => [.tuple (l.map .int)]) (fun l => 0 < gcdI l ∧ (gcdI l).natAbs < 2 ^ 8900 ∧ l.length ≤ 1000) (fun l => divT l)
theorem sc9 : FnScope ["numbers", "divisor", "number"] ["numbers"] (defScope (topS 9)) := ⟨rfl, rfl, rfl, by decide +kernel, rfl, by decide +kernel, by decide +kernel⟩
theorem ok_lowest (D : DefAt K mg "lowest" (topS 9)) (h_divisor_of : OKs P w K mg base "divisor_of" 1 ["numbers"] (sp_divisor_of K)) (n_tuple : mg "tuple" = none) : OKs P w K mg base "lowest" 2 ["numbers"] (sp_lowest K) := by
  refine okD (k := 1) D sc9 (fun _ _ _ _ _ _ us hl => match us, hl with | [_], _ => rfl) (fun _ => rfl) (fun y hp => ?_)
  refine js_setD 1 ⟨sc9.nd, rfl, .inr rfl, .inl rfl⟩ (de_call h_divisor_of _ (da_cons (de_name 0) da_nil) trivial) ?_
  refine js_ret (je (de_tupleL n_tuple (de_lcT (kk := 2) (fun _ => true) (fun d => .int (toI d / gcdI y)) ⟨sc9.nd, blkOk_by (by dsimp only [fC]; decide +kernel), ⟨sc9.nd, rfl, .inl rfl, .inr rfl⟩⟩ (de_name 0) (by rw [List.length_map]; exact hp.2.2) (fun d hd => dts_nil) (fun d hd _ => ?_))) ?_)
  · obtain ⟨z, _, rfl⟩ := List.mem_map.mp hd
    exact de_fdiv ⟨hp.1, dv1 hp.2.1⟩ (de_name 2) (de_name 1)
  · rw [outs_all, List.map_map]
    rfl
def low3 (p : Int × Int × Int) : Int × Int × Int := (p.1 / gcdI [p.1, p.2.1, p.2.2], p.2.1 / gcdI [p.1, p.2.1, p.2.2], p.2.2 / gcdI [p.1, p.2.1, p.2.2])
def qp (z w : GI) : Int × Int × Int := if w = 0 then (1, 0, 0) else low3 ((z * GI.bar w).re, (z * GI.bar w).im, nrm w)
theorem gcdI3 (a b c : Int) : gcdI [a, b, c] = ((Nat.gcd (Nat.gcd a.natAbs b.natAbs) c.natAbs : Nat) : Int) := by
  simp only [gcdI, List.foldl, Int.natAbs_natCast, Int.natAbs_zero, Nat.gcd_zero_left]
theorem g3 {a b c : Int} (hc : 0 < c) (hb : c.natAbs < 2 ^ 8900) : 0 < gcdI [a, b, c] ∧ (gcdI [a, b, c]).natAbs < 2 ^ 8900 ∧ [a, b, c].length ≤ 1000 := by
  rw [gcdI3, Int.natAbs_natCast]
  have h1 : 0 < Nat.gcd (Nat.gcd a.natAbs b.natAbs) c.natAbs := Nat.gcd_pos_of_pos_right _ (by omega)
  have h2 : Nat.gcd (Nat.gcd a.natAbs b.natAbs) c.natAbs ≤ c.natAbs := Nat.gcd_le_right _ (by omega)
  exact ⟨by omega, Nat.lt_of_le_of_lt h2 hb, Nat.le_of_ble_eq_true rfl⟩
abbrev sp_quotient_place (K : PySem.W.Frag) : Sp := SpD K (α := GI × GI) (fun p => [dC p.1, dC p.2]) (fun p => Sz 4400 p.1 ∧ Sz 4400 p.2) (fun p => dP (qp p.1 p.2))
theorem sc28 : FnScope ["number", "other", "product"] ["number", "other"] (defScope (topS 28)) := ⟨rfl, rfl, rfl, by decide +kernel, rfl, by decide +kernel, by decide +kernel⟩
theorem ok_quotient_place (D : DefAt K mg "quotient_place" (topS 28)) (c_ZERO : CnK K mg "ZERO" (dC 0)) (c_FAR : CnK K mg "FAR" (dP (1, 0, 0))) (h_times : OKs P w K mg base "times" 1 ["number", "other"] (sp_times K)) (h_lowest : OKs P w K mg base "lowest" 2 ["numbers"] (sp_lowest K)) (h_turned_over : OKs P w K mg base "turned_over" 1 ["number"] (sp_turned_over K)) (h_square_size : OKs P w K mg base "square_size" 1 ["number"] (sp_square_size K)) : OKs P w K mg base "quotient_place" 3 ["number", "other"] (sp_quotient_place K) := by
  refine okD (k := 2) D sc28 (fun _ _ _ _ _ _ us hl => match us, hl with | [_, _], _ => rfl) (fun _ => rfl) (fun y hp => ?_)
  refine js_ifr (dt_eq (de_name 1) (de_glob c_ZERO)) (fun hq => js_ret (je (de_glob c_FAR) ?_)) (fun hq => ?_)
  · rw [eqv_C] at hq
    show SV.dat (dP (1, 0, 0)) = .dat (dP (qp y.1 y.2))
    unfold qp
    rw [if_pos (of_decide_eq_true hq)]
  · rw [eqv_C] at hq
    have hz := of_decide_eq_false hq
    refine js_setD (d := dC (y.1 * GI.bar y.2)) 2 ⟨sc28.nd, rfl, .inl rfl, .inl rfl⟩ (de_call h_times (y.1, GI.bar y.2) (da_cons (de_name 0) (da_cons (de_call h_turned_over _ (da_cons (de_name 1) da_nil) trivial) da_nil)) ⟨hp.1.mono, hp.2.bar.mono⟩) (js_ret (je (de_call h_lowest [(y.1 * GI.bar y.2).re, (y.1 * GI.bar y.2).im, nrm y.2] (da_cons (de_tup (da_cons (de_ixT (de_name 2) de_int) (da_cons (de_ixT (de_name 2) de_int) (da_cons (de_call h_square_size _ (da_cons (de_name 1) da_nil) hp.2.mono) da_nil)))) da_nil) (g3 (nrm_pos hz) (nz hp.2.nrm (by decide)))) ?_))
    show SV.dat (divT _) = .dat (dP (qp y.1 y.2))
    unfold qp
    rw [if_neg hz]
    rfl
end K79
end
section
set_option Elab.async false
set_option linter.all false
set_option maxRecDepth 100000
namespace K79
open PySem PySem.Spec PyProof.Rows L2 GI Mx Ch
variable {P : Program} {w : World} {K : PySem.W.Frag} {mg : Str → Option Value} {base : Heap}

theorem k_int_int : kitB "int" "int" = some true := by decide +kernel
theorem k_int_bool : kitB "int" "bool" = some false := by decide +kernel
theorem k_tuple_tuple : kitB "tuple" "tuple" = some true := by decide +kernel
theorem k_str_str : kitB "str" "str" = some true := by decide +kernel
def toC : PyData → GI
  | .tuple [.int a, .int b] => ⟨a, b⟩
  | _ => 0
theorem eqv5 (a b c d e a' b' c' d' e' : PyData) : PyData.eqv (.tuple [a, b, c, d, e]) (.tuple [a', b', c', d', e']) = (PyData.eqv a a' && (PyData.eqv b b' && (PyData.eqv c c' && (PyData.eqv d d' && (PyData.eqv e e' && true))))) := by simp only [PyData.eqv, PyData.eqvAll]
theorem eqv3 (a b c a' b' c' : PyData) : PyData.eqv (.tuple [a, b, c]) (.tuple [a', b', c']) = (PyData.eqv a a' && (PyData.eqv b b' && (PyData.eqv c c' && true))) := by simp only [PyData.eqv, PyData.eqvAll]
theorem eqv_F (f g : Bool) : PyData.eqv (dF f) (dF g) = decide (f = g) := by
  rw [eqv_int]; cases f <;> cases g <;> rfl
theorem dF0 (f : Bool) : PyData.eqv (dF f) (.int 0) = !f := by
  rw [eqv_int]; cases f <;> rfl
theorem dF1 (f : Bool) : PyData.eqv (dF f) (.int 1) = f := by
  rw [eqv_int]; cases f <;> rfl
theorem eqv_M (x y : Ch) : PyData.eqv (dM x) (dM y) = decide (x = y) := by
  rw [eqv5, eqv_F, eqv_C, eqv_C, eqv_C, eqv_C]
  obtain ⟨f, ⟨a, b, c, d⟩⟩ := x
  obtain ⟨f', ⟨a', b', c', d'⟩⟩ := y
  rw [Bool.eq_iff_iff]
  simp only [Bool.and_eq_true, decide_eq_true_eq, Ch.mk.injEq, Mx.mk.injEq, and_true]
theorem eqv_P (p q : Int × Int × Int) : PyData.eqv (dP p) (dP q) = decide (p = q) := by
  rw [eqv3, eqv_int, eqv_int, eqv_int]
  obtain ⟨a, b, c⟩ := p
  obtain ⟨a', b', c'⟩ := q
  rw [Bool.eq_iff_iff]
  simp only [Bool.and_eq_true, decide_eq_true_eq, Prod.mk.injEq, and_true]
theorem lo_e {M : Mx} (h : M.Lo) : K79.Lo M.a ∧ K79.Lo M.b ∧ K79.Lo M.c ∧ K79.Lo M.d := ⟨h _ (by simp [lst]), h _ (by simp [lst]), h _ (by simp [lst]), h _ (by simp [lst])⟩
theorem qs_lo {M : Mx} (h : M.Lo) (hd : M.det ≠ 0) : M.qs.Lo := by
  have e := qs_eq h hd
  have hg := g_ne h hd
  have f := fun z => nrm_le_mul (z := z) hg
  obtain ⟨h1, h2, h3, h4⟩ := lo_e h
  have ea : M.a = M.qs.a * M.g := congrArg Mx.a e
  have eb : M.b = M.qs.b * M.g := congrArg Mx.b e
  have ec : M.c = M.qs.c * M.g := congrArg Mx.c e
  have ed : M.d = M.qs.d * M.g := congrArg Mx.d e
  have fa := f M.qs.a
  have fb := f M.qs.b
  have fc := f M.qs.c
  have fd := f M.qs.d
  rw [← ea] at fa
  rw [← eb] at fb
  rw [← ec] at fc
  rw [← ed] at fd
  intro z hz
  unfold K79.Lo at *
  simp only [lst, List.mem_cons, List.not_mem_nil, or_false] at hz
  rcases hz with rfl | rfl | rfl | rfl <;> omega
theorem g_lo {M : Mx} (h : M.Lo) : K79.Lo M.g := lo_fold _ _ lo_zero h
theorem unit_sz (z : GI) : Sz 200000 (unitF z) := by
  unfold unitF
  split
  · exact Sz.mono (n := 1) ⟨by decide, by decide⟩
  · split
    · exact Sz.mono (n := 1) ⟨by decide, by decide⟩
    · split <;> exact Sz.mono (n := 1) ⟨by decide, by decide⟩
theorem first_nz (M : Mx) (hd : M.det ≠ 0) : atI (outs (fun d => !PyData.eqv d (dC 0)) (fun d => d) [dC M.a, dC M.b, dC M.c, dC M.d]) 0 = some (dC M.fst) := by
  unfold outs fst
  rw [List.map_id']
  by_cases ha : M.a = 0
  · by_cases hb : M.b = 0
    · by_cases hc : M.c = 0
      · have hdd : M.d ≠ 0 := fun e => hd (by unfold Mx.det; rw [ha, hb]; grind)
        simp only [List.filter_cons, eqv_C, ha, hb, hc, hdd, decide_true, decide_false, Bool.not_true, Bool.not_false, if_true, List.filter_nil, ne_eq, not_true_eq_false, not_false_eq_true, if_false, Bool.false_eq_true]
        rfl
      · simp only [List.filter_cons, eqv_C, ha, hb, hc, decide_true, decide_false, Bool.not_true, Bool.not_false, if_true, List.filter_nil, ne_eq, not_true_eq_false, not_false_eq_true, if_false, Bool.false_eq_true]
        split <;> rfl
    · simp only [List.filter_cons, eqv_C, ha, hb, decide_true, decide_false, Bool.not_true, Bool.not_false, if_true, List.filter_nil, ne_eq, not_true_eq_false, not_false_eq_true, if_false, Bool.false_eq_true]
      repeat' split
      all_goals rfl
  · simp only [List.filter_cons, eqv_C, ha, decide_true, decide_false, Bool.not_true, Bool.not_false, if_true, List.filter_nil, ne_eq, not_true_eq_false, not_false_eq_true, if_false, Bool.false_eq_true]
    repeat' split
    all_goals rfl
abbrev sp_is_whole (K : PySem.W.Frag) : Sp := SpD K (α := Int) (fun i => [.int i]) (fun _ => True) (fun _ => .bool true)
theorem sc6 : FnScope ["value"] ["value"] (defScope (topS 6)) := ⟨rfl, rfl, rfl, by decide +kernel, rfl, by decide +kernel, by decide +kernel⟩
theorem ok_is_whole (D : DefAt K mg "is_whole" (topS 6)) (n_isinstance : mg "isinstance" = none) (n_int : mg "int" = none) (n_bool : mg "bool" = none) : OKs P w K mg base "is_whole" 1 ["value"] (sp_is_whole K) := by
  refine okD (k := 0) D sc6 (fun _ _ _ _ _ _ us hl => match us, hl with | [_], _ => rfl) (fun _ => rfl) (fun y hp => ?_)
  refine js_ret (je (de_and (de_isi (k := true) n_isinstance n_int bInt (de_name 0) (by exact k_int_int)) fun _ => (de_one (de_not (de_isi (k := false) n_isinstance n_bool bBool (de_name 0) (by exact k_int_bool))))) rfl)
abbrev sp__law_is_whole (K : PySem.W.Frag) : Sp := SpD K (α := Int) (fun i => [.int i]) (fun _ => True) (fun _ => .bool true)
theorem sc93 : FnScope ["_law_one"] ["_law_one"] (defScope (topS 93)) := ⟨rfl, rfl, rfl, by decide +kernel, rfl, by decide +kernel, by decide +kernel⟩
theorem ok__law_is_whole (D : DefAt K mg "_law_is_whole" (topS 93)) (n_isinstance : mg "isinstance" = none) (n_int : mg "int" = none) (n_bool : mg "bool" = none) : OKs P w K mg base "_law_is_whole" 1 ["_law_one"] (sp__law_is_whole K) := by
  refine okD (k := 0) D sc93 (fun _ _ _ _ _ _ us hl => match us, hl with | [_], _ => rfl) (fun _ => rfl) (fun y hp => ?_)
  refine js_ret (je (de_and (de_isi (k := true) n_isinstance n_int bInt (de_name 0) (by exact k_int_int)) fun _ => (de_one (de_not (de_isi (k := false) n_isinstance n_bool bBool (de_name 0) (by exact k_int_bool))))) rfl)
abbrev sp_are_wholes (K : PySem.W.Frag) : Sp := SpD K (α := GI) (fun z => [dC z, .int 2]) (fun _ => True) (fun _ => .bool true)
theorem sc7 : FnScope ["value", "many", "number"] ["value", "many"] (defScope (topS 7)) := ⟨rfl, rfl, rfl, by decide +kernel, rfl, by decide +kernel, by decide +kernel⟩
theorem ok_are_wholes (D : DefAt K mg "are_wholes" (topS 7)) (n_isinstance : mg "isinstance" = none) (n_tuple : mg "tuple" = none) (n_all : mg "all" = none) (n_len : mg "len" = none) (h_is_whole : OKs P w K mg base "is_whole" 1 ["value"] (sp_is_whole K)) : OKs P w K mg base "are_wholes" 2 ["value", "many"] (sp_are_wholes K) := by
  refine okD (k := 1) D sc7 (fun _ _ _ _ _ _ us hl => match us, hl with | [_, _], _ => rfl) (fun _ => rfl) (fun y hp => ?_)
  refine js_ret (je (de_and (de_isi (k := true) n_isinstance n_tuple bTuple (de_name 0) (by exact k_tuple_tuple)) fun _ => (de_and (de_eq (de_lenT n_len (de_name 0)) (de_name 1)) fun _ => (de_one (de_all (bs := [true, true]) n_all (DE.is (de_lcT (kk := 2) (fun _ => true) (fun _ => .bool true) ⟨sc7.nd, blkOk_by (by dsimp only [fC]; decide +kernel), ⟨sc7.nd, rfl, .inl rfl, .inr rfl⟩⟩ (de_name 0) (Nat.le_of_ble_eq_true rfl) (fun d hd => dts_nil) (fun d hd _ => ?_)) rfl))))) rfl)
  obtain ⟨i, rfl⟩ : ∃ i, d = .int i := by
    simp only [List.mem_cons, List.not_mem_nil, or_false] at hd
    rcases hd with rfl | rfl <;> exact ⟨_, rfl⟩
  exact (de_call h_is_whole i (da_cons (de_name 2) da_nil) trivial)
abbrev sp_is_complex (K : PySem.W.Frag) : Sp := SpD K (α := GI) (fun z => [dC z]) (fun _ => True) (fun _ => .bool true)
theorem sc14 : FnScope ["value"] ["value"] (defScope (topS 14)) := ⟨rfl, rfl, rfl, by decide +kernel, rfl, by decide +kernel, by decide +kernel⟩
theorem ok_is_complex (D : DefAt K mg "is_complex" (topS 14)) (h_are_wholes : OKs P w K mg base "are_wholes" 2 ["value", "many"] (sp_are_wholes K)) : OKs P w K mg base "is_complex" 3 ["value"] (sp_is_complex K) := by
  refine okD (k := 2) D sc14 (fun _ _ _ _ _ _ us hl => match us, hl with | [_], _ => rfl) (fun _ => rfl) (fun y hp => ?_)
  refine js_ret (je (de_call h_are_wholes y (da_cons (de_name 0) (da_cons de_int da_nil)) trivial) rfl)
abbrev sp_determinant (K : PySem.W.Frag) : Sp := SpD K (α := Ch) (fun x => [dM x]) (fun x => x.m.Lo) (fun x => dC x.m.det)
theorem sc31 : FnScope ["chart"] ["chart"] (defScope (topS 31)) := ⟨rfl, rfl, rfl, by decide +kernel, rfl, by decide +kernel, by decide +kernel⟩
theorem ok_determinant (D : DefAt K mg "determinant" (topS 31)) (h_minus : OKs P w K mg base "minus" 1 ["number", "other"] (sp_minus K)) (h_times : OKs P w K mg base "times" 1 ["number", "other"] (sp_times K)) : OKs P w K mg base "determinant" 2 ["chart"] (sp_determinant K) := by
  refine okD (k := 1) D sc31 (fun _ _ _ _ _ _ us hl => match us, hl with | [_], _ => rfl) (fun _ => rfl) (fun y hp => ?_)
  refine js_ret (je (de_call h_minus (y.m.a * y.m.d, y.m.b * y.m.c) (da_cons (de_call h_times (y.m.a, y.m.d) (da_cons (de_ixT (de_name 0) de_int) (da_cons (de_ixT (de_name 0) de_int) da_nil)) ⟨(lo_e hp).1.sz.mono, (lo_e hp).2.2.2.sz.mono⟩) (da_cons (de_call h_times (y.m.b, y.m.c) (da_cons (de_ixT (de_name 0) de_int) (da_cons (de_ixT (de_name 0) de_int) da_nil)) ⟨(lo_e hp).2.1.sz.mono, (lo_e hp).2.2.1.sz.mono⟩) da_nil)) trivial) rfl)
theorem mem4 {M : Mx} {d : PyData} (hd : d ∈ [dC M.a, dC M.b, dC M.c, dC M.d]) : ∃ z, d = dC z ∧ z ∈ M.lst := by
  simp only [List.mem_cons, List.not_mem_nil, or_false] at hd
  rcases hd with rfl | rfl | rfl | rfl <;> exact ⟨_, rfl, by simp [lst]⟩
theorem g_dv4 {M : Mx} (h : M.Lo) {z : GI} (hz : z ∈ M.lst) : Dv M.g z := (gcdL_dv M.lst 0 h).2 z hz
abbrev sp_form_of (K : PySem.W.Frag) : Sp := SpD K (α := Bool × Mx) (fun p => [dF p.1, .tuple [dC p.2.a, dC p.2.b, dC p.2.c, dC p.2.d]]) (fun p => p.2.Lo ∧ p.2.det ≠ 0) (fun p => dM ⟨p.1, p.2.form⟩)
theorem sc32 : FnScope ["is_mirrored", "numbers", "common", "found", "unit", "number"] ["is_mirrored", "numbers"] (defScope (topS 32)) := ⟨rfl, rfl, rfl, by decide +kernel, rfl, by decide +kernel, by decide +kernel⟩
theorem ok_form_of (D : DefAt K mg "form_of" (topS 32)) (h_divisor_of_all : OKs P w K mg base "divisor_of_all" 3 ["numbers"] (sp_divisor_of_all K)) (h_unit_for : OKs P w K mg base "unit_for" 2 ["number"] (sp_unit_for K)) (h_divided : OKs P w K mg base "divided" 2 ["number", "other"] (sp_divided K)) (h_times : OKs P w K mg base "times" 1 ["number", "other"] (sp_times K)) (c_ZERO : CnK K mg "ZERO" (dC 0)) : OKs P w K mg base "form_of" 4 ["is_mirrored", "numbers"] (sp_form_of K) := by
  refine okD (k := 3) D sc32 (fun _ _ _ _ _ _ us hl => match us, hl with | [_, _], _ => rfl) (fun _ => rfl) (fun y hp => ?_)
  refine ?_
  obtain ⟨f, M⟩ := y
  obtain ⟨hl, hd⟩ := hp
  have hl : M.Lo := hl
  have hd : M.det ≠ 0 := hd
  have ql := qs_lo hl hd
  have qd := qs_det hl hd
  refine js_setD (d := dC M.g) 2 ⟨sc32.nd, rfl, .inr rfl, .inl rfl⟩ (de_call h_divisor_of_all M.lst (da_cons (de_name 1) da_nil) hl) ?_
  refine js_setLcT (kk := 5) 3 (fun _ => true) (fun d => dC (quo (toC d) M.g)) ⟨sc32.nd, blkOk_by (by dsimp only [fC]; decide +kernel), ⟨sc32.nd, rfl, .inl rfl, .inr rfl⟩⟩ rfl rfl (de_name 1) (Nat.le_of_ble_eq_true rfl) (fun d hd => dts_nil) (fun d hd _ => ?_) ?_
  · obtain ⟨z, rfl, hz⟩ := mem4 hd
    exact (de_call h_divided (z, M.g) (da_cons (de_name 5) (da_cons (de_name 2) da_nil)) ⟨g_ne hl (by assumption), g_dv4 hl hz, hl z hz, g_lo hl⟩)
  refine js_setD (d := dC (unitF M.qs.fst)) 4 ⟨sc32.nd, rfl, .inr rfl, .inl rfl⟩ (de_call h_unit_for M.qs.fst (da_cons (de_ixL (de_lcL (ds := [dC M.qs.a, dC M.qs.b, dC M.qs.c, dC M.qs.d]) (kk := 5) (fun d => !PyData.eqv d (dC 0)) (fun d => d) ⟨sc32.nd, blkOk_by (by dsimp only [fC]; decide +kernel), ⟨sc32.nd, rfl, .inl rfl, .inr rfl⟩⟩ (de_name 3) (Nat.le_of_ble_eq_true rfl) (fun d hd => ?_) (fun d hd _ => ?_)) de_int (first_nz M.qs qd)) da_nil) ⟨fst_ne qd, ?_⟩) ?_
  · obtain ⟨z, rfl, hz⟩ := mem4 hd
    exact dts_one (dt_ne (de_name 5) (de_glob c_ZERO))
  · exact de_name 5
  · refine Sz.mono (Lo.sz ?_) (by decide)
    obtain ⟨h1, h2, h3, h4⟩ := lo_e ql
    unfold fst
    repeat' split
    all_goals assumption
  refine js_ret (je (de_tup (da_cons (de_name 0) (da_starL (de_lcL (ds := [dC M.qs.a, dC M.qs.b, dC M.qs.c, dC M.qs.d]) (kk := 5) (fun _ => true) (fun d => dC (toC d * unitF M.qs.fst)) ⟨sc32.nd, blkOk_by (by dsimp only [fC]; decide +kernel), ⟨sc32.nd, rfl, .inl rfl, .inr rfl⟩⟩ (de_name 3) (Nat.le_of_ble_eq_true rfl) (fun d hd => dts_nil) (fun d hd _ => ?_)) da_nil))) rfl)
  obtain ⟨z, rfl, hz⟩ := mem4 hd
  exact (de_call h_times (z, unitF M.qs.fst) (da_cons (de_name 5) (da_cons (de_name 4) da_nil)) ⟨(ql z hz).sz.mono, unit_sz _⟩)
abbrev sp_is_flag (K : PySem.W.Frag) : Sp := SpD K (α := Bool) (fun f => [dF f]) (fun _ => True) (fun _ => .bool true)
theorem sc33 : FnScope ["value"] ["value"] (defScope (topS 33)) := ⟨rfl, rfl, rfl, by decide +kernel, rfl, by decide +kernel, by decide +kernel⟩
theorem ok_is_flag (D : DefAt K mg "is_flag" (topS 33)) (h_is_whole : OKs P w K mg base "is_whole" 1 ["value"] (sp_is_whole K)) : OKs P w K mg base "is_flag" 2 ["value"] (sp_is_flag K) := by
  refine okD (k := 1) D sc33 (fun _ _ _ _ _ _ us hl => match us, hl with | [_], _ => rfl) (fun _ => rfl) (fun y hp => ?_)
  refine js_ret (je (DE.is (de_and (de_call h_is_whole _ (da_cons (de_name 0) da_nil) trivial) fun _ => (de_one (de_inI (ns := [0, 1]) (de_name 0) (de_tup (da_cons de_int (da_cons de_int da_nil)))))) ?_) rfl)
  cases y <;> rfl
abbrev sp_is_map (K : PySem.W.Frag) : Sp := SpD K (α := Ch) (fun x => [dM x]) (fun x => IsForm x.m) (fun _ => .bool true)
theorem sc34 : FnScope ["value", "number"] ["value"] (defScope (topS 34)) := ⟨rfl, rfl, rfl, by decide +kernel, rfl, by decide +kernel, by decide +kernel⟩
theorem ok_is_map (D : DefAt K mg "is_map" (topS 34)) (c_ZERO : CnK K mg "ZERO" (dC 0)) (h_form_of : OKs P w K mg base "form_of" 4 ["is_mirrored", "numbers"] (sp_form_of K)) (n_isinstance : mg "isinstance" = none) (n_tuple : mg "tuple" = none) (n_len : mg "len" = none) (h_is_flag : OKs P w K mg base "is_flag" 2 ["value"] (sp_is_flag K)) (h_determinant : OKs P w K mg base "determinant" 2 ["chart"] (sp_determinant K)) (h_is_complex : OKs P w K mg base "is_complex" 3 ["value"] (sp_is_complex K)) : OKs P w K mg base "is_map" 5 ["value"] (sp_is_map K) := by
  refine okD (k := 4) D sc34 (fun _ _ _ _ _ _ us hl => match us, hl with | [_], _ => rfl) (fun _ => rfl) (fun y hp => ?_)
  refine js_ifr (q := false) (DT.is (DW.dt (dw_or (dt_not (dt_val (de_isi (k := true) n_isinstance n_tuple bTuple (de_name 0) (by exact k_tuple_tuple)))) fun _ => (dw_or (dt_ne (de_lenT n_len (de_name 0)) de_int) fun _ => (dw_or1 (dt_not (dt_val (de_call h_is_flag y.f (da_cons (de_ixT (de_name 0) de_int) da_nil) trivial))))))) rfl) (fun hq => nomatch hq) (fun _ => ?_)
  refine js_ifr (q := false) (DT.is (dt_or (dt_ne (de_lcT (kk := 1) (ds := [dC y.m.a, dC y.m.b, dC y.m.c, dC y.m.d]) (fun _ => false) (fun d => d) ⟨sc34.nd, blkOk_by (by dsimp only [fC]; decide +kernel), ⟨sc34.nd, rfl, .inl rfl, .inr rfl⟩⟩ (DE.is (de_slT (de_name 0) (do_some de_int) do_none) rfl) (Nat.le_of_ble_eq_true rfl) (fun d hd => ?_) (fun d hd _ => de_name 1)) (de_lst da_nil)) fun _ => (dt_eq (de_call h_determinant y (da_cons (de_name 0) da_nil) hp.lo) (de_glob c_ZERO))) ?_) (fun hq => nomatch hq) (fun _ => ?_)
  · obtain ⟨z, rfl, hz⟩ := mem4 hd
    exact dts_one (DT.is (dt_not (dt_val (de_call h_is_complex z (da_cons (de_name 1) da_nil) trivial))) rfl)
  · rw [eqv_C, decide_eq_false hp.det]
    rfl
  refine js_ret (je (DE.is (de_eq (de_call h_form_of (y.f, y.m) (da_cons (de_ixT (de_name 0) de_int) (da_cons (DE.is (de_slT (de_name 0) (do_some de_int) do_none) rfl) da_nil)) ⟨hp.lo, hp.det⟩) (de_name 0)) ?_) rfl)
  show PyData.bool (PyData.eqv (dM ⟨y.f, y.m.form⟩) (dM y)) = .bool true
  rw [hp.fix, eqv_M, decide_eq_true rfl]
abbrev sp_check_map (K : PySem.W.Frag) : Sp := SpD K (α := Ch) (fun x => [dM x]) (fun x => IsForm x.m) (fun _ => .none)
theorem sc35 : FnScope ["value"] ["value"] (defScope (topS 35)) := ⟨rfl, rfl, rfl, by decide +kernel, rfl, by decide +kernel, by decide +kernel⟩
theorem ok_check_map (D : DefAt K mg "check_map" (topS 35)) (h_is_map : OKs P w K mg base "is_map" 5 ["value"] (sp_is_map K)) : OKs P w K mg base "check_map" 6 ["value"] (sp_check_map K) := by
  refine okD (k := 5) D sc35 (fun _ _ _ _ _ _ us hl => match us, hl with | [_], _ => rfl) (fun _ => rfl) (fun y hp => ?_)
  refine js_ifr (q := false) (DT.is (dt_not (dt_val (de_call h_is_map y (da_cons (de_name 0) da_nil) hp))) rfl) (fun hq => nomatch hq) (fun _ => js_nil rfl)
theorem brd {f : Bool} {M : Mx} (h : M.Lo) : (if f then M.bar else M).Lo := by
  cases f
  · exact h
  · obtain ⟨h1, h2, h3, h4⟩ := lo_e h
    intro z hz
    unfold K79.Lo at *
    rw [if_pos rfl] at hz
    simp only [lst, Mx.bar, List.mem_cons, List.not_mem_nil, or_false] at hz
    rcases hz with rfl | rfl | rfl | rfl <;> rw [nrm_bar] <;> assumption
theorem dF_join (f g : Bool) : PyData.int (((if f then 1 else 0) + (if g then 1 else 0)) % 2) = dF (fl g f) := by cases f <;> cases g <;> rfl
theorem sz4 {M : Mx} (h : M.Lo) : Sz 200000 M.a ∧ Sz 200000 M.b ∧ Sz 200000 M.c ∧ Sz 200000 M.d := ⟨(lo_e h).1.sz.mono, (lo_e h).2.1.sz.mono, (lo_e h).2.2.1.sz.mono, (lo_e h).2.2.2.sz.mono⟩
abbrev sp_joined (K : PySem.W.Frag) : Sp := SpD K (α := Ch × Ch) (fun p => [dM p.1, dM p.2]) (fun p => Ok 1900 p.1 ∧ Ok 1900 p.2) (fun p => dM (Ch.join p.2 p.1))
theorem sc36 : FnScope ["chart", "other", "numbers", "a", "b", "c", "d", "found", "number"] ["chart", "other"] (defScope (topS 36)) := ⟨rfl, rfl, rfl, by decide +kernel, rfl, by decide +kernel, by decide +kernel⟩
theorem ok_joined (D : DefAt K mg "joined" (topS 36)) (h_form_of : OKs P w K mg base "form_of" 4 ["is_mirrored", "numbers"] (sp_form_of K)) (n_list : mg "list" = none) (h_plus : OKs P w K mg base "plus" 1 ["number", "other"] (sp_plus K)) (h_turned_over : OKs P w K mg base "turned_over" 1 ["number"] (sp_turned_over K)) (h_times : OKs P w K mg base "times" 1 ["number", "other"] (sp_times K)) : OKs P w K mg base "joined" 5 ["chart", "other"] (sp_joined K) := by
  refine okD (k := 4) D sc36 (fun _ _ _ _ _ _ us hl => match us, hl with | [_, _], _ => rfl) (fun _ => rfl) (fun y hp => ?_)
  refine ?_
  obtain ⟨x, z⟩ := y
  obtain ⟨hx, hz⟩ := hp
  have hx : Ok 1900 x := hx
  have hz : Ok 1900 z := hz
  have sx := sz4 hx.form.lo
  have sn := sz4 (brd (f := x.f) hz.form.lo)
  have hlo : (thn x.f z.m x.m).Lo := (bd_thn (g := x.f) hz.bd hx.bd).lo (by decide)
  have hdt := thn_ne (g := x.f) hz.form.det hx.form.det
  have ed : thn x.f z.m x.m = x.m.mul (if x.f then z.m.bar else z.m) := rfl
  generalize eN : (if x.f then z.m.bar else z.m) = N at sn ed
  refine js_setD (d := .list [dC N.a, dC N.b, dC N.c, dC N.d]) 2 ⟨sc36.nd, rfl, .inl rfl, .inl rfl⟩ (de_if (dt_eq (de_ixT (de_name 0) de_int) de_int) (fun hq => ?_) (fun hq => ?_)) ?_
  · rw [dF0] at hq
    have hf : x.f = false := by simpa using hq
    rw [hf] at eN
    rw [← eN]
    exact ((de_listT n_list (DE.is (de_slT (de_name 1) (do_some de_int) do_none) rfl)))
  · rw [dF0] at hq
    have hf : x.f = true := by simpa using hq
    rw [hf] at eN
    rw [← eN]
    refine DE.is (de_lcT (ds := [dC z.m.a, dC z.m.b, dC z.m.c, dC z.m.d]) (kk := 8) (fun _ => true) (fun d => dC (GI.bar (toC d))) ⟨sc36.nd, blkOk_by (by dsimp only [fC]; decide +kernel), ⟨sc36.nd, rfl, .inl rfl, .inr rfl⟩⟩ (DE.is (de_slT (de_name 1) (do_some de_int) do_none) rfl) (Nat.le_of_ble_eq_true rfl) (fun d hd => dts_nil) (fun d hd _ => ?_)) rfl
    obtain ⟨u, rfl, hu⟩ := mem4 hd
    exact (de_call h_turned_over u (da_cons (de_name 8) da_nil) trivial)
  refine js_asg (jed (.tuple [dC x.m.a, dC x.m.b, dC x.m.c, dC x.m.d]) (DE.is (de_slT (de_name 0) (do_some de_int) do_none) rfl) (jg_tup (jgs_cons (jg_name (k := 3) ⟨sc36.nd, rfl, .inl rfl, .inl rfl⟩ (jgs_cons (jg_name (k := 4) ⟨sc36.nd, rfl, .inl rfl, .inl rfl⟩ (jgs_cons (jg_name (k := 5) ⟨sc36.nd, rfl, .inl rfl, .inl rfl⟩ (jgs_cons (jg_name (k := 6) ⟨sc36.nd, rfl, .inl rfl, .inl rfl⟩ (jgs_nil ?_)))))))))))
  refine js_setD (d := .tuple [dC (x.m.a * N.a + x.m.b * N.c), dC (x.m.a * N.b + x.m.b * N.d), dC (x.m.c * N.a + x.m.d * N.c), dC (x.m.c * N.b + x.m.d * N.d)]) 7 ⟨sc36.nd, rfl, .inl rfl, .inl rfl⟩ (de_tup (da_cons (de_call h_plus (x.m.a * N.a, x.m.b * N.c) (da_cons (de_call h_times (x.m.a, N.a) (da_cons (de_name 3) (da_cons (de_ixL (de_name 2) de_int) da_nil)) ⟨sx.1, sn.1⟩) (da_cons (de_call h_times (x.m.b, N.c) (da_cons (de_name 4) (da_cons (de_ixL (de_name 2) de_int) da_nil)) ⟨sx.2.1, sn.2.2.1⟩) da_nil)) trivial) (da_cons (de_call h_plus (x.m.a * N.b, x.m.b * N.d) (da_cons (de_call h_times (x.m.a, N.b) (da_cons (de_name 3) (da_cons (de_ixL (de_name 2) de_int) da_nil)) ⟨sx.1, sn.2.1⟩) (da_cons (de_call h_times (x.m.b, N.d) (da_cons (de_name 4) (da_cons (de_ixL (de_name 2) de_int) da_nil)) ⟨sx.2.1, sn.2.2.2⟩) da_nil)) trivial) (da_cons (de_call h_plus (x.m.c * N.a, x.m.d * N.c) (da_cons (de_call h_times (x.m.c, N.a) (da_cons (de_name 5) (da_cons (de_ixL (de_name 2) de_int) da_nil)) ⟨sx.2.2.1, sn.1⟩) (da_cons (de_call h_times (x.m.d, N.c) (da_cons (de_name 6) (da_cons (de_ixL (de_name 2) de_int) da_nil)) ⟨sx.2.2.2, sn.2.2.1⟩) da_nil)) trivial) (da_cons (de_call h_plus (x.m.c * N.b, x.m.d * N.d) (da_cons (de_call h_times (x.m.c, N.b) (da_cons (de_name 5) (da_cons (de_ixL (de_name 2) de_int) da_nil)) ⟨sx.2.2.1, sn.2.1⟩) (da_cons (de_call h_times (x.m.d, N.d) (da_cons (de_name 6) (da_cons (de_ixL (de_name 2) de_int) da_nil)) ⟨sx.2.2.2, sn.2.2.2⟩) da_nil)) trivial) da_nil))))) ?_
  refine js_ret (je (de_call h_form_of (fl z.f x.f, thn x.f z.m x.m) (da_cons (DE.is (de_mod (by decide) (de_add (de_ixT (de_name 0) de_int) (de_ixT (de_name 1) de_int)) de_int) (dF_join _ _)) (da_cons (DE.is (de_name 7) (by rw [ed]; rfl)) da_nil)) ⟨hlo, hdt⟩) rfl)
end K79
end
section
set_option Elab.async false
set_option linter.all false
set_option maxRecDepth 100000
namespace K79
open PySem PySem.Spec PyProof.Rows L2 GI Mx Ch
/-! ### places: quotients brought to their least form -/
theorem gcdI3_mul (k a b c : Int) (hk : 0 ≤ k) : gcdI [k * a, k * b, k * c] = k * gcdI [a, b, c] := by
  rw [gcdI3, gcdI3, Int.natAbs_mul, Int.natAbs_mul, Int.natAbs_mul, Nat.gcd_mul_left, Nat.gcd_mul_left, Int.natCast_mul]
  have : ((k.natAbs : Nat) : Int) = k := Int.natAbs_of_nonneg hk
  rw [this]
theorem gcdI3_pos {a b c : Int} (hc : 0 < c) : 0 < gcdI [a, b, c] := by
  rw [gcdI3]
  have h1 : 0 < Nat.gcd (Nat.gcd a.natAbs b.natAbs) c.natAbs := Nat.gcd_pos_of_pos_right _ (by omega)
  omega
theorem low3_mul {k a b c : Int} (hk : 0 < k) : low3 (k * a, k * b, k * c) = low3 (a, b, c) := by
  unfold low3
  simp only [gcdI3_mul k a b c (by omega), Int.mul_ediv_mul_of_pos _ _ hk]
theorem low3_eq (a b c : Int) : a = gcdI [a, b, c] * (low3 (a, b, c)).1 ∧ b = gcdI [a, b, c] * (low3 (a, b, c)).2.1 ∧ c = gcdI [a, b, c] * (low3 (a, b, c)).2.2 := by
  have e := gcdI3 a b c
  have d1 : gcdI [a, b, c] ∣ a := by
    rw [e]; exact Int.ofNat_dvd_left.mpr (Nat.dvd_trans (Nat.gcd_dvd_left _ _) (Nat.gcd_dvd_left _ _))
  have d2 : gcdI [a, b, c] ∣ b := by
    rw [e]; exact Int.ofNat_dvd_left.mpr (Nat.dvd_trans (Nat.gcd_dvd_left _ _) (Nat.gcd_dvd_right _ _))
  have d3 : gcdI [a, b, c] ∣ c := by
    rw [e]; exact Int.ofNat_dvd_left.mpr (Nat.gcd_dvd_right _ _)
  exact ⟨(Int.mul_ediv_cancel' d1).symm, (Int.mul_ediv_cancel' d2).symm, (Int.mul_ediv_cancel' d3).symm⟩
/-- two triples with their third above nought have one least form iff they are as one to the other -/
theorem low3_iff {a b c a' b' c' : Int} (hc : 0 < c) (hc' : 0 < c') : low3 (a, b, c) = low3 (a', b', c') ↔ a * c' = a' * c ∧ b * c' = b' * c := by
  constructor
  · intro h
    obtain ⟨h1, h2, h3⟩ := low3_eq a b c
    obtain ⟨k1, k2, k3⟩ := low3_eq a' b' c'
    rw [h] at h1 h2 h3
    generalize gcdI [a, b, c] = g at *
    generalize gcdI [a', b', c'] = g' at *
    generalize (low3 (a', b', c')).1 = p at *
    generalize (low3 (a', b', c')).2.1 = s at *
    generalize (low3 (a', b', c')).2.2 = r at *
    subst h1 h2 h3 k1 k2 k3
    refine ⟨?_, ?_⟩ <;> grind
  · rintro ⟨h1, h2⟩
    rw [← low3_mul (a := a) (b := b) (c := c) hc', ← low3_mul (a := a') (b := b') (c := c') hc]
    have e1 : c' * a = c * a' := by grind
    have e2 : c' * b = c * b' := by grind
    have e3 : c' * c = c * c' := by grind
    rw [e1, e2, e3]
theorem qp_ne {z w : GI} (h : w ≠ 0) : qp z w = low3 ((z * bar w).re, (z * bar w).im, nrm w) := by
  unfold qp
  rw [if_neg h]
theorem qp_eq {z w u v : GI} (hw : w ≠ 0) (hv : v ≠ 0) : qp z w = qp u v ↔ z * v = u * w := by
  rw [qp_ne hw, qp_ne hv, low3_iff (nrm_pos hw) (nrm_pos hv)]
  have e1 : z * bar w * ⟨nrm v, 0⟩ = u * bar v * ⟨nrm w, 0⟩ ↔ z * v = u * w := by
    rw [← mul_bar, ← mul_bar]
    constructor
    · intro h
      refine mul_cancel (c := bar w * bar v) (mul_ne_zero (bar_ne_zero hw) (bar_ne_zero hv)) ?_
      grind
    · intro h
      have : z * bar w * (v * bar v) = (z * v) * (bar w * bar v) := by grind
      rw [this, h]; grind
  rw [← e1]
  have g : ∀ (x : GI) (n : Int), x * ⟨n, 0⟩ = ⟨x.re * n, x.im * n⟩ := fun x n => by
    ext
    · show x.re * n - x.im * 0 = x.re * n; omega
    · show x.re * 0 + x.im * n = x.im * n; omega
  rw [g, g, GI.mk.injEq]
theorem qp_one {z w : GI} (hw : w ≠ 0) : qp z w = (1, 0, 1) ↔ z = w := by
  have e : ((1, 0, 1) : Int × Int × Int) = qp 1 1 := by decide +kernel
  rw [e, qp_eq hw (by decide)]
  constructor
  · intro h; grind
  · intro h; grind
theorem qp_flip {z w : GI} (hw : w ≠ 0) : ((qp z w).1, -(qp z w).2.1, (qp z w).2.2) = qp (bar z) (bar w) := by
  have hw' := bar_ne_zero hw
  rw [qp_ne hw, qp_ne hw', ← bar_mul, nrm_bar]
  have hn := nrm_pos hw
  have hg : ∀ a b c : Int, gcdI [a, -b, c] = gcdI [a, b, c] := fun a b c => by rw [gcdI3, gcdI3, Int.natAbs_neg]
  obtain ⟨h1, h2, h3⟩ := low3_eq (z * bar w).re (z * bar w).im (nrm w)
  show _ = low3 ((z * bar w).re, -(z * bar w).im, nrm w)
  have hp := gcdI3_pos (a := (z * bar w).re) (b := (z * bar w).im) hn
  have e : -(z * bar w).im / gcdI [(z * bar w).re, (z * bar w).im, nrm w] = -(low3 ((z * bar w).re, (z * bar w).im, nrm w)).2.1 := by
    refine Int.ediv_eq_of_eq_mul_right (by omega) ?_
    rw [Int.mul_neg, ← h2]
  show _ = (_ / gcdI [_, -(z * bar w).im, _], -(z * bar w).im / gcdI [_, -(z * bar w).im, _], _ / gcdI [_, -(z * bar w).im, _])
  rw [hg, e]
  rfl
theorem real_im {x : GI} : x.im = 0 ↔ x = bar x := by
  constructor
  · intro h
    ext
    · rfl
    · show x.im = -x.im; omega
  · intro h
    have : x.im = -x.im := congrArg GI.im h
    omega
theorem qp_real {z w : GI} (hw : w ≠ 0) : (qp z w).2.1 = 0 ↔ z * bar w = bar z * w := by
  rw [qp_ne hw]
  obtain ⟨h1, h2, h3⟩ := low3_eq (z * bar w).re (z * bar w).im (nrm w)
  have hp := gcdI3_pos (a := (z * bar w).re) (b := (z * bar w).im) (nrm_pos hw)
  have e : z * bar w = bar z * w ↔ (z * bar w).im = 0 := by
    rw [real_im, bar_mul, bar_bar]
  rw [e]
  constructor
  · intro h; rw [h2, h]; omega
  · intro h
    rw [h] at h2
    rcases Int.mul_eq_zero.mp h2.symm with q | q
    · rw [h] at hp; omega
    · rw [h]; exact q
theorem qp_pos {z w : GI} (hw : w ≠ 0) : 0 < (qp z w).2.2 := by
  rw [qp_ne hw]
  obtain ⟨h1, h2, h3⟩ := low3_eq (z * bar w).re (z * bar w).im (nrm w)
  have hn := nrm_pos hw
  have hp := gcdI3_pos (a := (z * bar w).re) (b := (z * bar w).im) hn
  rw [h3] at hn
  exact Int.pos_of_mul_pos_right hn (by omega) |> fun h => h
theorem qp_size {z w : GI} (hw : w ≠ 0) : low3 ((qp z w).1 * (qp z w).1 + (qp z w).2.1 * (qp z w).2.1, 0, (qp z w).2.2 * (qp z w).2.2) = (1, 0, 1) ↔ z * bar z = w * bar w := by
  have e : ((1, 0, 1) : Int × Int × Int) = low3 (1, 0, 1) := by decide +kernel
  have hr := qp_pos (z := z) hw
  rw [e, low3_iff (Int.mul_pos hr hr) (by decide)]
  have hn := nrm_pos hw
  have hp := gcdI3_pos (a := (z * bar w).re) (b := (z * bar w).im) hn
  obtain ⟨h1, h2, h3⟩ := low3_eq (z * bar w).re (z * bar w).im (nrm w)
  rw [← qp_ne hw] at h1 h2 h3
  have en : nrm z * nrm w = (z * bar w).re * (z * bar w).re + (z * bar w).im * (z * bar w).im := by
    rw [← nrm_bar w, ← nrm_mul]; rfl
  generalize gcdI [(z * bar w).re, (z * bar w).im, nrm w] = g at *
  generalize (qp z w).1 = p at *
  generalize (qp z w).2.1 = s at *
  generalize (qp z w).2.2 = r at *
  rw [h1, h2] at en
  have key : z * bar z = w * bar w ↔ nrm z = nrm w := ⟨nrm_eq_of, of_nrm_eq⟩
  rw [key]
  have f1 : nrm z * nrm w = g * g * (p * p + s * s) := by rw [en]; grind
  have f2 : nrm w * nrm w = g * g * (r * r) := by rw [h3]; grind
  have gg : g * g ≠ 0 := Int.mul_ne_zero (by omega) (by omega)
  constructor
  · rintro ⟨h, _⟩
    have h' : p * p + s * s = r * r := by omega
    rw [h', ← f2] at f1
    exact Int.eq_of_mul_eq_mul_right (by omega) f1
  · intro h
    rw [h, f2] at f1
    have := Int.eq_of_mul_eq_mul_left gg f1
    omega
/-! ### the tests of the program and what they say -/
def tru (M : Mx) : Bool := decide (((PySem.Float64.isqrt (nrm M.det).toNat : Nat) : Int) * ((PySem.Float64.isqrt (nrm M.det).toNat : Nat) : Int) = nrm M.det)
theorem tru_iff (M : Mx) : tru M = true ↔ M.Tru := by
  unfold tru Mx.Tru
  rw [decide_eq_true_eq]
  constructor
  · intro h; exact ⟨_, h.symm⟩
  · rintro ⟨m, h⟩
    have h0 := nrm_nonneg M.det
    have e : (nrm M.det).toNat = m.natAbs * m.natAbs := by
      have : ((m.natAbs * m.natAbs : Nat) : Int) = m * m := Int.natAbs_mul_self
      rw [h, ← this]; rfl
    obtain ⟨l, u⟩ := PySem.Float64.isqrt_spec (nrm M.det).toNat
    generalize PySem.Float64.isqrt (nrm M.det).toNat = q at *
    have hq : q = m.natAbs := by
      rw [e] at l u
      refine Nat.le_antisymm ?_ ?_
      · exact Nat.mul_self_le_mul_self_iff.mp l
      · have := Nat.mul_self_lt_mul_self_iff.mp u
        omega
    rw [hq, h]
    have : ((m.natAbs * m.natAbs : Nat) : Int) = m * m := Int.natAbs_mul_self
    rw [← this, Int.natCast_mul]
theorem line_iff {n : Nat} {x : Ch} (hx : Ok n x) (hn : n + n + 2 ≤ 4000) (hf : x.f = true) (hc : x.m.c = 0) : Ch.join x x = still ↔ x.m.Line := by
  have hd := thn_ne (g := x.f) hx.form.det hx.form.det
  have hl := (bd_thn (g := x.f) hx.bd hx.bd).lo hn
  have hfm := form_isForm hl hd
  obtain ⟨k, hk, e⟩ := form_eq hl hd
  have e' : Ch.join x x = ⟨false, (thn x.f x.m x.m).form⟩ := by
    unfold Ch.join
    rw [hf]; rfl
  rw [e']
  have t : thn x.f x.m x.m = x.m.mul x.m.bar := by unfold Mx.thn; rw [hf]; rfl
  have ea : x.m.a * bar x.m.a + x.m.b * bar x.m.c = (thn x.f x.m x.m).form.a * k := by rw [t] at e ⊢; exact congrArg Mx.a e
  have eb : x.m.a * bar x.m.b + x.m.b * bar x.m.d = (thn x.f x.m x.m).form.b * k := by rw [t] at e ⊢; exact congrArg Mx.b e
  have ec : x.m.c * bar x.m.a + x.m.d * bar x.m.c = (thn x.f x.m x.m).form.c * k := by rw [t] at e ⊢; exact congrArg Mx.c e
  have ed : x.m.c * bar x.m.b + x.m.d * bar x.m.d = (thn x.f x.m x.m).form.d * k := by rw [t] at e ⊢; exact congrArg Mx.d e
  rw [hc, bar_zero] at ea ec
  rw [hc] at ed
  unfold still Mx.Line Mx.Size1
  constructor
  · intro h
    have h1 : (thn x.f x.m x.m).form = ⟨1, 0, 0, 1⟩ := congrArg Ch.m h
    rw [h1] at ea eb ec ed
    simp only at ea eb ec ed
    refine ⟨?_, ?_⟩ <;> grind
  · rintro ⟨h1, h2⟩
    have q1 : (thn x.f x.m x.m).form.b = 0 := by
      refine (mul_eq_zero (b := k) ?_).resolve_right hk
      rw [← eb]; exact h2
    have q2 : (thn x.f x.m x.m).form.c = 0 := by
      refine (mul_eq_zero (b := k) ?_).resolve_right hk
      rw [← ec]; grind
    have q3 : (thn x.f x.m x.m).form.a = (thn x.f x.m x.m).form.d := by
      refine mul_cancel (c := k) hk ?_
      grind
    rw [hfm.stay q1 q2 q3]
theorem fac_iff {M : Mx} (hd : M.d ≠ 0) : (qp M.a M.d).2.1 = 0 ↔ M.FacR := qp_real hd
theorem sr_iff {M : Mx} (h : M.det ≠ 0) : (qp ((M.a + M.d) * (M.a + M.d)) M.det).2.1 = 0 ↔ M.SR := by
  rw [qp_real h, bar_mul]; exact Iff.rfl
theorem er_iff {M : Mx} (h : M.c ≠ 0) : (qp (M.b * M.c - M.a * M.d) (M.c * M.c)).2.1 = 0 ↔ M.ER := by
  rw [qp_real (mul_ne_zero h h), bar_mul]
  unfold Mx.ER
  have e : M.b * M.c - M.a * M.d = -M.det := by unfold Mx.det; grind
  rw [e, bar_neg]
  constructor <;> intro h <;> grind
theorem gh_iff {M : Mx} (h : M.c ≠ 0) : qp M.a M.c = ((qp (-M.d) M.c).1, -(qp (-M.d) M.c).2.1, (qp (-M.d) M.c).2.2) ↔ M.GH := by
  rw [qp_flip h, qp_eq h (bar_ne_zero h), bar_neg]
  unfold Mx.GH
  constructor <;> intro h <;> grind
/-- the kinds that a row of words names -/
def kd (ks : List Str) : Kd := ⟨ks.contains "carry", ks.contains "grow", ks.contains "turnabout", ks.contains "mirror"⟩
def resO : Option Nat → PyData
  | none => .none
  | some n => .int n
end K79
end
section
set_option Elab.async false
set_option linter.all false
set_option maxRecDepth 100000
namespace K79
open PySem PySem.Spec PyProof.Rows L2 GI Mx Ch
variable {P : Program} {w : World} {K : PySem.W.Frag} {mg : Str → Option Value} {base : Heap}

abbrev sx (x : Ch) (h : Ok 1900 x) : Sz 2000 x.m.a ∧ Sz 2000 x.m.b ∧ Sz 2000 x.m.c ∧ Sz 2000 x.m.d := ⟨(lo_e h.form.lo).1.sz, (lo_e h.form.lo).2.1.sz, (lo_e h.form.lo).2.2.1.sz, (lo_e h.form.lo).2.2.2.sz⟩
theorem det_sz {x : Ch} (h : Ok 1900 x) : Sz 4002 x.m.det := by
  obtain ⟨h1, h2, h3, h4⟩ := sx x h
  exact Sz.sub (h1.mul h4) (h2.mul h3)
theorem qp_sz {z v : GI} {n : Nat} (hz : Sz n z) (hw : Sz n v) (hv : v ≠ 0) : (qp z v).1.natAbs < 2 ^ (n + n + 1) ∧ (qp z v).2.1.natAbs < 2 ^ (n + n + 1) ∧ (qp z v).2.2.natAbs < 2 ^ (n + n + 1) := by
  rw [qp_ne hv]
  have h := hz.mul hw.bar
  obtain ⟨h1, h2, h3⟩ := low3_eq (z * GI.bar v).re (z * GI.bar v).im (nrm v)
  have hp := gcdI3_pos (a := (z * GI.bar v).re) (b := (z * GI.bar v).im) (nrm_pos hv)
  have f : ∀ {g u : Int}, 0 < g → u.natAbs ≤ (g * u).natAbs := fun {g u} hg => by
    rw [Int.natAbs_mul]
    have : 1 * u.natAbs ≤ g.natAbs * u.natAbs := Nat.mul_le_mul_right _ (by omega)
    omega
  refine ⟨Nat.lt_of_le_of_lt (f hp) ?_, Nat.lt_of_le_of_lt (f hp) ?_, Nat.lt_of_le_of_lt (f hp) ?_⟩
  · rw [← h1]; exact h.1
  · rw [← h2]; exact h.2
  · rw [← h3]; exact hw.nrm
abbrev sp_trace (K : PySem.W.Frag) : Sp := SpD K (α := Ch) (fun x => [dM x]) (fun _ => True) (fun x => dC (x.m.a + x.m.d))
theorem sc39 : FnScope ["chart"] ["chart"] (defScope (topS 39)) := ⟨rfl, rfl, rfl, by decide +kernel, rfl, by decide +kernel, by decide +kernel⟩
theorem ok_trace (D : DefAt K mg "trace" (topS 39)) (h_plus : OKs P w K mg base "plus" 1 ["number", "other"] (sp_plus K)) : OKs P w K mg base "trace" 2 ["chart"] (sp_trace K) := by
  refine okD (k := 1) D sc39 (fun _ _ _ _ _ _ us hl => match us, hl with | [_], _ => rfl) (fun _ => rfl) (fun y hp => ?_)
  refine js_ret (je (de_call h_plus (y.m.a, y.m.d) (da_cons (de_ixT (de_name 0) de_int) (da_cons (de_ixT (de_name 0) de_int) da_nil)) trivial) rfl)
abbrev sp_trace_place (K : PySem.W.Frag) : Sp := SpD K (α := Ch) (fun x => [dM x]) (fun x => Ok 1900 x) (fun x => dP (qp ((x.m.a + x.m.d) * (x.m.a + x.m.d)) x.m.det))
theorem sc40 : FnScope ["chart"] ["chart"] (defScope (topS 40)) := ⟨rfl, rfl, rfl, by decide +kernel, rfl, by decide +kernel, by decide +kernel⟩
theorem ok_trace_place (D : DefAt K mg "trace_place" (topS 40)) (h_quotient_place : OKs P w K mg base "quotient_place" 3 ["number", "other"] (sp_quotient_place K)) (h_times : OKs P w K mg base "times" 1 ["number", "other"] (sp_times K)) (h_determinant : OKs P w K mg base "determinant" 2 ["chart"] (sp_determinant K)) (h_trace : OKs P w K mg base "trace" 2 ["chart"] (sp_trace K)) : OKs P w K mg base "trace_place" 4 ["chart"] (sp_trace_place K) := by
  refine okD (k := 3) D sc40 (fun _ _ _ _ _ _ us hl => match us, hl with | [_], _ => rfl) (fun _ => rfl) (fun y hp => ?_)
  refine ?_
  have tr : Sz 2001 (y.m.a + y.m.d) := Sz.add (sx y hp).1 (sx y hp).2.2.2
  exact js_ret (je (de_call h_quotient_place ((y.m.a + y.m.d) * (y.m.a + y.m.d), y.m.det) (da_cons (de_call h_times (y.m.a + y.m.d, y.m.a + y.m.d) (da_cons (de_call h_trace y (da_cons (de_name 0) da_nil) trivial) (da_cons (de_call h_trace y (da_cons (de_name 0) da_nil) trivial) da_nil)) ⟨tr.mono, tr.mono⟩) (da_cons (de_call h_determinant y (da_cons (de_name 0) da_nil) hp.form.lo) da_nil)) ⟨(tr.mul tr).mono, (det_sz hp).mono⟩) rfl)
abbrev sp_gap (K : PySem.W.Frag) : Sp := SpD K (α := (Int × Int × Int) × (Int × Int × Int)) (fun p => [dP p.1, dP p.2]) (fun p => (p.1.1.natAbs < 2 ^ 4400 ∧ p.1.2.1.natAbs < 2 ^ 4400 ∧ p.1.2.2.natAbs < 2 ^ 4400) ∧ (p.2.1.natAbs < 2 ^ 4400 ∧ p.2.2.1.natAbs < 2 ^ 4400 ∧ p.2.2.2.natAbs < 2 ^ 4400) ∧ 0 < p.1.2.2 ∧ 0 < p.2.2.2) (fun p => dP (low3 (p.1.1 * p.2.2.2 - p.2.1 * p.1.2.2, p.1.2.1 * p.2.2.2 - p.2.2.1 * p.1.2.2, p.1.2.2 * p.2.2.2)))
theorem sc42 : FnScope ["one", "other", "p", "s", "r", "u", "v", "w"] ["one", "other"] (defScope (topS 42)) := ⟨rfl, rfl, rfl, by decide +kernel, rfl, by decide +kernel, by decide +kernel⟩
theorem ok_gap (D : DefAt K mg "gap" (topS 42)) (h_lowest : OKs P w K mg base "lowest" 2 ["numbers"] (sp_lowest K)) : OKs P w K mg base "gap" 3 ["one", "other"] (sp_gap K) := by
  refine okD (k := 2) D sc42 (fun _ _ _ _ _ _ us hl => match us, hl with | [_, _], _ => rfl) (fun _ => rfl) (fun y hp => ?_)
  refine ?_
  obtain ⟨x, z⟩ := y
  obtain ⟨a, b, p1, p2⟩ := hp
  refine js_asg (jed (.tuple [dP x, dP z]) (de_tup (da_cons (de_name 0) (da_cons (de_name 1) da_nil))) (jg_tup (jgs_cons (jg_tup (jgs_cons (jg_name (k := 2) ⟨sc42.nd, rfl, .inl rfl, .inl rfl⟩ (jgs_cons (jg_name (k := 3) ⟨sc42.nd, rfl, .inl rfl, .inl rfl⟩ (jgs_cons (jg_name (k := 4) ⟨sc42.nd, rfl, .inl rfl, .inl rfl⟩ (jgs_nil (jgs_cons (jg_tup (jgs_cons (jg_name (k := 5) ⟨sc42.nd, rfl, .inl rfl, .inl rfl⟩ (jgs_cons (jg_name (k := 6) ⟨sc42.nd, rfl, .inl rfl, .inl rfl⟩ (jgs_cons (jg_name (k := 7) ⟨sc42.nd, rfl, .inl rfl, .inl rfl⟩ (jgs_nil (jgs_nil ?_)))))))))))))))))))))
  exact js_ret (je (de_call h_lowest [x.1 * z.2.2 - z.1 * x.2.2, x.2.1 * z.2.2 - z.2.1 * x.2.2, x.2.2 * z.2.2] (da_cons (de_tup (da_cons (de_sub (de_mul (cm a.1 b.2.2) (de_name 2) (de_name 7)) (de_mul (cm b.1 a.2.2) (de_name 5) (de_name 4))) (da_cons (de_sub (de_mul (cm a.2.1 b.2.2) (de_name 3) (de_name 7)) (de_mul (cm b.2.1 a.2.2) (de_name 6) (de_name 4))) (da_cons (de_mul (cm a.2.2 b.2.2) (de_name 4) (de_name 7)) da_nil)))) da_nil) (g3 (Int.mul_pos p1 p2) (nz (ab_mul a.2.2 b.2.2) (by decide)))) rfl)
abbrev sp_flipped (K : PySem.W.Frag) : Sp := SpD K (α := Int × Int × Int) (fun p => [dP p]) (fun _ => True) (fun p => dP (p.1, -p.2.1, p.2.2))
theorem sc43 : FnScope ["one"] ["one"] (defScope (topS 43)) := ⟨rfl, rfl, rfl, by decide +kernel, rfl, by decide +kernel, by decide +kernel⟩
theorem ok_flipped (D : DefAt K mg "flipped" (topS 43)) : OKs P w K mg base "flipped" 1 ["one"] (sp_flipped K) := by
  refine okD (k := 0) D sc43 (fun _ _ _ _ _ _ us hl => match us, hl with | [_], _ => rfl) (fun _ => rfl) (fun y hp => ?_)
  refine js_ret (je (de_tup (da_cons (de_ixT (de_name 0) de_int) (da_cons (de_neg (de_ixT (de_name 0) de_int)) (da_cons (de_ixT (de_name 0) de_int) da_nil)))) rfl)
abbrev sp_size_of (K : PySem.W.Frag) : Sp := SpD K (α := Int × Int × Int) (fun p => [dP p]) (fun p => (p.1.natAbs < 2 ^ 4400 ∧ p.2.1.natAbs < 2 ^ 4400 ∧ p.2.2.natAbs < 2 ^ 4400) ∧ 0 < p.2.2) (fun p => dP (low3 (p.1 * p.1 + p.2.1 * p.2.1, 0, p.2.2 * p.2.2)))
theorem sc44 : FnScope ["one"] ["one"] (defScope (topS 44)) := ⟨rfl, rfl, rfl, by decide +kernel, rfl, by decide +kernel, by decide +kernel⟩
theorem ok_size_of (D : DefAt K mg "size_of" (topS 44)) (h_lowest : OKs P w K mg base "lowest" 2 ["numbers"] (sp_lowest K)) (h_square_size : OKs P w K mg base "square_size" 1 ["number"] (sp_square_size K)) : OKs P w K mg base "size_of" 3 ["one"] (sp_size_of K) := by
  refine okD (k := 2) D sc44 (fun _ _ _ _ _ _ us hl => match us, hl with | [_], _ => rfl) (fun _ => rfl) (fun y hp => ?_)
  refine js_ret (je (de_call h_lowest [y.1 * y.1 + y.2.1 * y.2.1, 0, y.2.2 * y.2.2] (da_cons (de_tup (da_cons (de_call h_square_size ⟨y.1, y.2.1⟩ (da_cons (DE.is (de_slT (de_name 0) do_none (do_some de_int)) rfl) da_nil) ⟨nz hp.1.1 (by decide), nz hp.1.2.1 (by decide)⟩) (da_cons de_int (da_cons (de_mul (cm hp.1.2.2 hp.1.2.2) (de_ixT (de_name 0) de_int) (de_ixT (de_name 0) de_int)) da_nil)))) da_nil) (g3 (Int.mul_pos hp.2 hp.2) (nz (ab_mul hp.1.2.2 hp.1.2.2) (by decide)))) rfl)
abbrev sp_is_real (K : PySem.W.Frag) : Sp := SpD K (α := Int × Int × Int) (fun p => [dP p]) (fun _ => True) (fun p => .bool (decide (p.2.1 = 0)))
theorem sc45 : FnScope ["one"] ["one"] (defScope (topS 45)) := ⟨rfl, rfl, rfl, by decide +kernel, rfl, by decide +kernel, by decide +kernel⟩
theorem ok_is_real (D : DefAt K mg "is_real" (topS 45)) : OKs P w K mg base "is_real" 1 ["one"] (sp_is_real K) := by
  refine okD (k := 0) D sc45 (fun _ _ _ _ _ _ us hl => match us, hl with | [_], _ => rfl) (fun _ => rfl) (fun y hp => ?_)
  refine js_ret (je (DE.is (de_eq (de_ixT (de_name 0) de_int) de_int) ?_) rfl)
  rw [eqv_int]
abbrev sp_is_true_map (K : PySem.W.Frag) : Sp := SpD K (α := Ch) (fun x => [dM x]) (fun x => Ok 1900 x) (fun x => .bool (tru x.m))
theorem sc51 : FnScope ["chart", "number"] ["chart"] (defScope (topS 51)) := ⟨rfl, rfl, rfl, by decide +kernel, rfl, by decide +kernel, by decide +kernel⟩
theorem ok_is_true_map (D : DefAt K mg "is_true_map" (topS 51)) (h_square_size : OKs P w K mg base "square_size" 1 ["number"] (sp_square_size K)) (h_determinant : OKs P w K mg base "determinant" 2 ["chart"] (sp_determinant K)) (g_isqrt : mg "isqrt" = some (.builtin "math.isqrt")) : OKs P w K mg base "is_true_map" 3 ["chart"] (sp_is_true_map K) := by
  refine okD (k := 2) D sc51 (fun _ _ _ _ _ _ us hl => match us, hl with | [_], _ => rfl) (fun _ => rfl) (fun y hp => ?_)
  refine js_setD (d := .int (nrm y.m.det)) 1 ⟨sc51.nd, rfl, .inl rfl, .inl rfl⟩ (de_call h_square_size y.m.det (da_cons (de_call h_determinant y (da_cons (de_name 0) da_nil) hp.form.lo) da_nil) (det_sz hp).mono) ?_
  have hs := (det_sz hp).nrm
  have h0 := nrm_nonneg y.m.det
  have hq : (nrm y.m.det).toNat < 2 ^ 8005 := by
    rw [show (nrm y.m.det).toNat = (nrm y.m.det).natAbs from by clear hs; omega]
    exact hs
  have h1 : (nrm y.m.det).toNat.log2 < 13000 := Nat.lt_of_lt_of_le (PySem.Flt.log2_lt_of (by decide) hq) (by decide)
  have h2 : ((PySem.Float64.isqrt (nrm y.m.det).toNat : Nat) : Int).natAbs < 2 ^ 8005 := by
    rw [Int.natAbs_natCast]
    have := (PySem.Float64.isqrt_spec (nrm y.m.det).toNat).1
    refine Nat.lt_of_le_of_lt ?_ hq
    rcases Nat.eq_zero_or_pos (PySem.Float64.isqrt (nrm y.m.det).toNat) with z | z
    · omega
    · exact Nat.le_trans (Nat.le_mul_of_pos_left _ z) this
  refine js_ret (je (DE.is (de_eq (de_mul (cm h2 h2) (de_callBf (fun _ _ => cr_isqrt) g_isqrt (da_cons (de_name 1) da_nil) (caIsq h0 h1)) (de_callBf (fun _ _ => cr_isqrt) g_isqrt (da_cons (de_name 1) da_nil) (caIsq h0 h1))) (de_name 1)) ?_) rfl)
  rw [eqv_int]
  rfl
abbrev sp_factor_in (K : PySem.W.Frag) : Sp := SpD K (α := Ch) (fun x => [dM x]) (fun x => Ok 1900 x) (fun x => dP (qp x.m.a x.m.d))
theorem sc52 : FnScope ["chart"] ["chart"] (defScope (topS 52)) := ⟨rfl, rfl, rfl, by decide +kernel, rfl, by decide +kernel, by decide +kernel⟩
theorem ok_factor_in (D : DefAt K mg "factor_in" (topS 52)) (h_quotient_place : OKs P w K mg base "quotient_place" 3 ["number", "other"] (sp_quotient_place K)) : OKs P w K mg base "factor_in" 4 ["chart"] (sp_factor_in K) := by
  refine okD (k := 3) D sc52 (fun _ _ _ _ _ _ us hl => match us, hl with | [_], _ => rfl) (fun _ => rfl) (fun y hp => ?_)
  refine js_ret (je (de_call h_quotient_place (y.m.a, y.m.d) (da_cons (de_ixT (de_name 0) de_int) (da_cons (de_ixT (de_name 0) de_int) da_nil)) ⟨(sx y hp).1.mono, (sx y hp).2.2.2.mono⟩) rfl)
abbrev sp_is_line_mirror (K : PySem.W.Frag) : Sp := SpD K (α := Ch) (fun x => [dM x]) (fun x => Ok 1900 x) (fun x => .bool (decide (Ch.join x x = still)))
theorem sc53 : FnScope ["chart"] ["chart"] (defScope (topS 53)) := ⟨rfl, rfl, rfl, by decide +kernel, rfl, by decide +kernel, by decide +kernel⟩
theorem ok_is_line_mirror (D : DefAt K mg "is_line_mirror" (topS 53)) (c_STAYS : CnK K mg "STAYS" (dM still)) (h_joined : OKs P w K mg base "joined" 5 ["chart", "other"] (sp_joined K)) : OKs P w K mg base "is_line_mirror" 6 ["chart"] (sp_is_line_mirror K) := by
  refine okD (k := 5) D sc53 (fun _ _ _ _ _ _ us hl => match us, hl with | [_], _ => rfl) (fun _ => rfl) (fun y hp => ?_)
  refine js_ret (je (DE.is (de_eq (de_call h_joined (y, y) (da_cons (de_name 0) (da_cons (de_name 0) da_nil)) ⟨hp, hp⟩) (de_glob c_STAYS)) ?_) rfl)
  rw [eqv_M]
theorem kinds_ok {ks : List Str} (h1 : ks.Nodup) (h2 : ∀ z ∈ ks, z ∈ wordsS) {n : Nat} {d : PyData} (h : (ks.map PyData.str)[n]? = some d) : ∃ z, d = .str z ∧ wordsS.contains z = true ∧ (ks.take n).contains z = false := by
  obtain ⟨z, e, hz⟩ := map_at h
  refine ⟨z, e, ?_, ?_⟩
  · rw [List.contains_iff_mem]
    exact h2 z (List.mem_of_getElem? hz)
  · rw [← Bool.not_eq_true, List.contains_iff_mem]
    intro hm
    obtain ⟨hn, ez⟩ := List.getElem?_eq_some_iff.mp hz
    obtain ⟨i, hi, ei⟩ := List.getElem_of_mem hm
    rw [List.getElem_take] at ei
    rw [List.length_take] at hi
    have := (List.getElem_inj h1).mp (ei.trans ez.symm)
    omega
abbrev sp_check_kinds (K : PySem.W.Frag) : Sp := SpD K (α := List Str) (fun ks => [.tuple (ks.map .str)]) (fun ks => ks.Nodup ∧ (∀ z ∈ ks, z ∈ wordsS) ∧ ks.length ≤ 1000) (fun _ => .none)
theorem sc50 : FnScope ["value", "index", "word"] ["value"] (defScope (topS 50)) := ⟨rfl, rfl, rfl, by decide +kernel, rfl, by decide +kernel, by decide +kernel⟩
theorem ok_check_kinds (D : DefAt K mg "check_kinds" (topS 50)) (n_enumerate : mg "enumerate" = none) (n_isinstance : mg "isinstance" = none) (n_tuple : mg "tuple" = none) (c_WORDS : CnK K mg "WORDS" (.tuple (wordsS.map .str))) (n_str : mg "str" = none) : OKs P w K mg base "check_kinds" 1 ["value"] (sp_check_kinds K) := by
  refine okD (k := 0) D sc50 (fun _ _ _ _ _ _ us hl => match us, hl with | [_], _ => rfl) (fun _ => rfl) (fun y hp => ?_)
  refine js_ifr (q := false) (DT.is (dt_not (dt_val (de_isi (k := true) n_isinstance n_tuple bTuple (de_name 0) (by exact k_tuple_tuple)))) rfl) (fun hq => nomatch hq) (fun _ => ?_)
  refine js_forE (ds := y.map .str) 1 2 ⟨sc50.nd, rfl, .inl rfl, .inl rfl⟩ ⟨sc50.nd, rfl, .inl rfl, .inl rfl⟩ n_enumerate (fun n δ' μ' => μ' = [] ∧ ∃ s1 s2, δ' = [some (.dat (.tuple (y.map .str))), s1, s2]) (je (de_name 0) ⟨rfl, rfl, _, _, rfl⟩) (fun n d δ' μ' hd iv => ?_) (fun δ' μ' iv => js_nil rfl)
  obtain ⟨rfl, s1, s2, rfl⟩ := iv
  obtain ⟨z, rfl, hw, hn⟩ := kinds_ok hp.1 hp.2.1 hd
  refine js_ifr (q := false) (DT.is (DW.dt (dw_or (dt_not (dt_val (de_isi (k := true) n_isinstance n_str bStr (de_name 2) (by exact k_str_str)))) fun _ => (dw_or (dt_ninT (de_name 2) (de_glob c_WORDS)) fun _ => (dw_or1 (dt_inT (xs := y.take n) (de_name 2) (DE.is (de_slT (de_name 0) do_none (do_some (de_name 1))) ?_)))))) ?_) (fun hq => nomatch hq) (fun _ => js_nil ⟨rfl, _, _, rfl⟩)
  · have hlt : n < y.length := by
      have := (List.getElem?_eq_some_iff.mp hd).1
      rwa [List.length_map] at this
    have e : cutD (y.map PyData.str) none (some ((n : Nat) : Int)) = (y.take n).map .str := by
      rw [List.map_take]
      unfold cutD
      have h0 : HT.sIx (y.map PyData.str).length 0 none = 0 := rfl
      have h1 : HT.sIx (y.map PyData.str).length (y.map PyData.str).length (some ((n : Nat) : Int)) = n := by
        rw [List.length_map, HT.sIx_nat]
        omega
      rw [h0, h1, List.drop_zero, Nat.sub_zero]
    rw [e]
  · rw [hw, hn]
    rfl
end K79
end
section
set_option Elab.async false
set_option linter.all false
set_option maxRecDepth 100000
namespace K79
open PySem PySem.Spec PyProof.Rows L2
open Evl (Ex)
/-! ### an instance: its __init__, its fields -/
def FsLk (K : PySem.W.Frag) (G : Hp) (vs : List (Str × V)) (fs : List (Str × PyData)) : Prop := ∀ f d, fs.lookup f = some d → ∃ u, vs.lookup f = some u ∧ Dp K G u d
def FsOk (K : PySem.W.Frag) (G : Hp) (vs : List (Str × V)) (fs : List (Str × PyData)) : Prop := vs.length ≤ fs.length ∧ ∀ f d, fs.lookup f = some d → ∃ u, vs.lookup f = some u ∧ Dp K G u d
theorem FsOk.mono {K : PySem.W.Frag} {G G' : Hp} {vs : List (Str × V)} {fs : List (Str × PyData)} (e : Ex G G') (h : FsOk K G vs fs) : FsOk K G' vs fs := ⟨h.1, fun f d q => let ⟨u, a, b⟩ := h.2 f d q; ⟨u, a, Dp.mono e b⟩⟩
theorem FsOk.put {K : PySem.W.Frag} {G : Hp} {vs : List (Str × V)} {fs : List (Str × PyData)} {f : Str} {y : V} {d : PyData} (h : FsOk K G vs fs) (hy : Dp K G y d) : FsOk K G (putF f y vs) ((f, d) :: fs) := by
  refine ⟨?_, fun g e q => ?_⟩
  · have := length_putF f y vs
    have := h.1
    simp only [List.length_cons]
    omega
  · rw [lookup_putF]
    by_cases hg : g = f
    · subst hg
      rw [List.lookup_cons, beq_self_eq_true] at q
      cases q
      exact ⟨y, if_pos rfl, hy⟩
    · have hb : (g == f) = false := by rw [beq_eq_false_iff_ne]; exact hg
      rw [List.lookup_cons, hb] at q
      rw [if_neg hg]
      exact h.2 g e q
theorem hid_nil (as : List Addr) : hid as [] = [] := by cases as <;> rfl
theorem kn_nil (hs as : List Addr) (H : Hp) : kn hs as [] H = hide hs H := by unfold kn; rw [hid_nil, List.append_nil]
theorem hide_put {hs : List Addr} {H : Hp} {x : Addr} {o : HO} (h : x ∈ hs) : hide hs (upd H x o) = hide hs H := by
  funext b
  by_cases hb : b ∈ hs
  · rw [hide_in hb, hide_in hb]
  · rw [hide_out hb, hide_out hb, upd_ne (fun e => hb (by rw [e]; exact h))]
theorem HsOk.put {hs : List Addr} {H : Hp} {x : Addr} {o : HO} (h : HsOk hs H) : HsOk hs (upd H x o) := fun b hb => by
  by_cases e : b = x
  · subst e; rw [upd_same]; exact fun z => nomatch z
  · rw [upd_ne e]; exact h b hb
theorem StOk.putx {K : PySem.W.Frag} {hs as : List Addr} {H : Hp} {σ : L2.St} {δ : En} {x : Addr} {o : HO} (S : StOk K hs as H σ δ []) (h : x ∈ hs) : StOk K hs as (upd H x o) σ δ [] := by
  refine ⟨?_, S.me.len, S.me.nd, fun a ha => ?_, S.me.ho.put, S.me.ap, fun i a ds _ q => by simp at q⟩
  · have := S.sl
    rw [hid_nil, List.append_nil] at this ⊢
    rw [hide_put h]; exact this
  · have hl := S.me.len
    rw [List.length_nil] at hl
    rw [List.eq_nil_of_length_eq_zero hl] at ha
    cases ha
variable {C : Ctx} {e a : Expr} {es : List Expr} {δ : En} {μ : Mem} {Φ : SV → Mem → Prop} {pos : Pos} {d : PyData} {ds : List PyData} {n : Str} {rest : List Stmt} {x C0 dx : Addr} {fs fin : List (Str × PyData)}
def JI (C : Ctx) (st : List Stmt) (x C0 dx : Addr) (δ : En) (fs fin : List (Str × PyData)) : Prop := ∀ (hs : List Addr) (σ : L2.St) (H : Hp) (as : List Addr) (vs : List (Str × V)), StOk C.K hs as H σ δ [] → x ∈ hs → H x = some (.ins C0 dx vs) → FsOk C.K (hide hs H) vs fs → ∀ D : Ends,
  (∀ σ' H' vs', (∀ b o, b ≠ x → H b = some o → H' b = some o) → H' x = some (.ins C0 dx vs') → FsLk C.K (hide hs H') vs' fin → D.nx σ' H') → WB C st D σ H
theorem ji_nil : JI C [] x C0 dx δ fs fs := fun hs σ H as vs S hx h0 hf D k => ⟨tNext, fun X _ => pss_nil, k σ H vs (fun _ _ _ h => h) h0 hf.2⟩
theorem nk {as as2 : List Addr} {μ2 : Mem} {H H2 : Hp} (n : Nxt as [] H as2 μ2 H2) {b : Addr} {o : HO} (h : H b = some o) : H2 b = some o := (n.keep b o (by rw [hid_nil]; exact fun z => nomatch z) h).1
theorem nkx {as as2 hs : List Addr} {H H2 : Hp} (n : Nxt as [] H as2 [] H2) : Ex (hide hs H) (hide hs H2) := hide_mono fun _ _ h => nk n h
theorem ji_set (kk : Nat) {p' : Pos} (hN : Nm C kk n) (h : DE C e δ [] d) (r : JI C rest x C0 dx (δ.set kk (some (.dat d))) fs fin) (hs1 : ∀ env : Env, swapsWith e (some (.Name n p')) pos.line env = pure false := by intro _; rfl) : JI C (.Assign [.Name n p'] e pos :: rest) x C0 dx δ fs fin := fun hs σ H as vs S hx h0 hf D k =>
  ⟨tSeq (tAsg (WE C e) (gName kk)) (WB C rest), fun X hX => pss_cons (ps_set (by rw [hX.N]; exact hN.nd) (by rw [hX.N]; exact hN.at_) (by unfold L2.Loc; rw [hX.sc]; exact hN.loc) (we hX) (hs1 _) (by rw [hX.fn, hX.sc]; exact hN.fn)) (wb hX), h (fun s μ1 => s = .dat d ∧ μ1 = []) ⟨rfl, rfl⟩ hs σ H as S _ fun v H1 s1 μ1 as1 n1 m1 sv ⟨e1, e2⟩ => by
    subst e1 e2
    exact r hs _ H1 as1 vs ((S.next n1 m1).set sv) hx (nk n1 h0) (hf.mono (nkx n1)) D fun σ' H' vs' q1 q2 q3 => k σ' H' vs' (fun b o hb q => q1 b o hb (nk n1 q)) q2 q3⟩
theorem ji_asg {tg : Expr} {δ' : En} (h : DE C e δ [] d) (hg : JG C tg (.dat d) δ [] fun δ2 μ2 => δ2 = δ' ∧ μ2 = []) (r : JI C rest x C0 dx δ' fs fin) (hs1 : ∀ env : Env, env.scope = C.sc → swapsWithSole [tg] e pos.line env = pure false := by intro env he; cases env; cases he; rfl)
    (hw : ∀ env : Env, env.scope = C.sc → swappedStores [tg] e env = pure none := by intro env he; cases env; cases he; rfl) (h1 : ∀ env, (assignEach [tg] env).map (·.2) = [assign tg env] := by intro _; rfl) : JI C (.Assign [tg] e pos :: rest) x C0 dx δ fs fin := fun hs σ H as vs S hx h0 hf D k =>
  ⟨tSeq (tAsg (WE C e) (WG C tg)) (WB C rest), fun X hX => pss_cons (ps_asg (we hX) (wg hX) (hs1 _ hX.sc) (hw _ hX.sc) (h1 _)) (wb hX), h (fun s μ1 => s = .dat d ∧ μ1 = []) ⟨rfl, rfl⟩ hs σ H as S _ fun v H1 s1 μ1 as1 n1 m1 sv ⟨e1, e2⟩ => by
    subst e1 e2
    refine hg hs σ H1 as1 v (S.next n1 m1) sv _ fun σ2 H2 δ2 μ2 as2 n2 S2 ⟨e1, e2⟩ => ?_
    subst e1 e2
    exact r hs σ2 H2 as2 vs S2 hx (nk n2 (nk n1 h0)) ((hf.mono (nkx n1)).mono (nkx n2)) D fun σ' H' vs' q1 q2 q3 => k σ' H' vs' (fun b o hb q => q1 b o hb (nk n2 (nk n1 q))) q2 q3⟩
theorem ji_fld {o : Expr} {f : Str} {p' : Pos} (h : DE C e δ [] d) (ho : ∀ Φ : SV → Mem → Prop, Φ (.raw (.ref x)) [] → JE C o δ [] Φ) (hc : Cls C.K C0) (hn : NoAttr C.K C0 f) (hl : fs.length < 1000) (r : JI C rest x C0 dx δ ((f, d) :: fs) fin)
    (hs1 : ∀ env : Env, swapsWith e (some (.Attribute o f p')) pos.line env = pure false := by intro _; rfl) : JI C (.Assign [.Attribute o f p'] e pos :: rest) x C0 dx δ fs fin := fun hs σ H as vs S hx h0 hf D k =>
  ⟨tSeq (sFld C.K (WE C o) (WE C e) f) (WB C rest), fun X hX => pss_cons (by have := ps_fld (we (e := o) hX) (we (e := e) hX) (hs1 X.env); rw [hX.K] at this; exact this) (wb hX), h (fun s μ1 => s = .dat d ∧ μ1 = []) ⟨rfl, rfl⟩ hs σ H as S _ fun v H1 s1 μ1 as1 n1 m1 sv ⟨e1, e2⟩ => by
    subst e1 e2
    refine ho (fun s μ1 => s = .raw (.ref x) ∧ μ1 = []) ⟨rfl, rfl⟩ hs σ H1 as1 (S.next n1 m1) _ fun v2 H2 s2 μ2 as2 n2 m2 sv2 ⟨e1, e2⟩ => ?_
    subst e1 e2
    have g0 := nk n2 (nk n1 h0)
    have f2 := (hf.mono (nkx n1)).mono (nkx n2)
    have dv : Dp C.K (hide hs H2) v d := by
      have q : Dp C.K (kn hs as1 [] H1) v d := sv
      rw [kn_nil] at q
      exact Dp.mono (nkx n2) q
    refine ⟨x, C0, dx, vs, sv2, g0, hc, hn, Nat.lt_of_le_of_lt f2.1 hl, ?_⟩
    refine r hs σ _ as2 _ (((S.next n1 m1).next n2 m2).putx hx) hx upd_same (by rw [hide_put hx]; exact f2.put dv) D fun σ' H' vs' q1 q2 q3 => k σ' H' vs' (fun b o hb q => q1 b o hb (by rw [upd_ne hb]; exact nk n2 (nk n1 q))) q2 q3⟩
theorem FsLk.mono {K : PySem.W.Frag} {G G' : Hp} {vs : List (Str × V)} {fs : List (Str × PyData)} (e : Ex G G') (h : FsLk K G vs fs) : FsLk K G' vs fs := fun f d q => let ⟨u, a, b⟩ := h f d q; ⟨u, a, Dp.mono e b⟩
/-- the last field, made out of the others; nothing is said of it -/
theorem ji_last {o : Expr} {f : Str} {p' : Pos} (h : DE C e (δ.set 0 (some (.obj C0 fs))) [] d) (h0 : δ[0]? = some (some (.raw (.ref x)))) (ho : ∀ Φ : SV → Mem → Prop, Φ (.raw (.ref x)) [] → JE C o δ [] Φ) (hc : Cls C.K C0) (hn : NoAttr C.K C0 f) (hl : fs.length < 1000) (hff : fs.lookup f = none)
    (hs1 : ∀ env : Env, swapsWith e (some (.Attribute o f p')) pos.line env = pure false := by intro _; rfl) : JI C [.Assign [.Attribute o f p'] e pos] x C0 dx δ fs fs := fun hs σ H as vs S hx hH hf D k =>
  ⟨tSeq (sFld C.K (WE C o) (WE C e) f) tNext, fun X hX => pss_cons (by have := ps_fld (we (e := o) hX) (we (e := e) hX) (hs1 X.env); rw [hX.K] at this; exact this) pss_nil, by
    have sub : ∀ b, b ∈ hs.filter (· ≠ x) → b ∈ hs := fun b hb => (List.mem_filter.mp hb).1
    have hx0 : x ∉ hs.filter (· ≠ x) := fun z => by simpa using (List.mem_filter.mp z).2
    have ex0 : Ex (hide hs H) (hide (hs.filter (· ≠ x)) H) := hide_sub sub
    have as0 : as = [] := List.eq_nil_of_length_eq_zero (by have := S.me.len; rwa [List.length_nil] at this)
    have S0 : StOk C.K (hs.filter (· ≠ x)) as H σ (δ.set 0 (some (.obj C0 fs))) [] := by
      refine ⟨⟨by rw [List.length_set]; exact S.sl.1, fun i s q => ?_⟩, S.me.len, S.me.nd, S.me.tr, fun b hb => S.me.ho b (sub b hb), fun i a q => (by rw [as0] at q; simp at q), fun i a ds _ q => (by simp at q)⟩
      show ∃ v, σ[i]? = some (some v) ∧ SVok C.K (kn _ as [] H) as v s
      rw [kn_nil]
      by_cases hi : 0 = i
      · subst hi
        obtain ⟨v, q1, q2⟩ := S.sl.2 0 _ h0
        have hlt : 0 < δ.length := (List.getElem?_eq_some_iff.mp h0).1
        rw [List.getElem?_set_self hlt] at q
        injection q with q
        injection q with q
        subst q
        refine ⟨v, q1, x, dx, vs, q2, by rw [hide_out hx0]; exact hH, fun g e q => ?_⟩
        obtain ⟨u, a1, a2⟩ := hf.2 g e q
        exact ⟨u, a1, Dp.mono ex0 a2⟩
      · rw [List.getElem?_set_ne hi] at q
        obtain ⟨v, q1, q2⟩ := S.sl.2 i s q
        have q3 : SVok C.K (kn hs as [] H) as v s := q2
        rw [kn_nil] at q3
        exact ⟨v, q1, q3.mono ex0 (List.prefix_refl _)⟩
    refine h (fun s μ1 => s = .dat d ∧ μ1 = []) ⟨rfl, rfl⟩ _ σ H as S0 _ fun v H1 s1 μ1 as1 n1 m1 sv ⟨e1, e2⟩ => ?_
    subst e1 e2
    have as1e : as1 = [] := List.eq_nil_of_length_eq_zero (by have := m1.len; rwa [List.length_nil] at this)
    have m1' : MemOk C.K hs as1 H1 [] := ⟨m1.len, m1.nd, m1.tr, S.me.ho.mono fun _ _ q => nk n1 q, fun i a q => (by rw [as1e] at q; simp at q), fun i a ds _ q => (by simp at q)⟩
    refine ho (fun s μ1 => s = .raw (.ref x) ∧ μ1 = []) ⟨rfl, rfl⟩ hs σ H1 as1 (S.next n1 m1') _ fun v2 H2 s2 μ2 as2 n2 m2 sv2 ⟨e1, e2⟩ => ?_
    subst e1 e2
    have g0 := nk n2 (nk n1 hH)
    have f2 := (hf.mono (nkx n1)).mono (nkx n2)
    refine ⟨x, C0, dx, vs, sv2, g0, hc, hn, Nat.lt_of_le_of_lt f2.1 hl, ?_⟩
    refine k σ _ (putF f v vs) (fun b o hb q => by rw [upd_ne hb]; exact nk n2 (nk n1 q)) upd_same fun g e q => ?_
    rw [hide_put hx, lookup_putF, if_neg (fun z => by rw [z, hff] at q; cases q)]
    exact f2.2 g e q⟩
/-! the promise of an __init__, the making -/
def SpI (K : PySem.W.Frag) (C0 : Addr) {α : Type} (args : α → List PyData) (pre : α → Prop) (fields : α → List (Str × PyData)) : Sp := fun vs H Q _ => ∃ hs x dx vs' y, vs = .ref x :: vs' ∧ HsOk hs H ∧ x ∈ hs ∧ H x = some (.ins C0 dx []) ∧ DpAll K (hide hs H) vs' (args y) ∧ pre y ∧
  ∀ H' ws, (∀ b o, b ≠ x → H b = some o → H' b = some o) → H' x = some (.ins C0 dx ws) → FsLk K (hide hs H') ws (fields y) → Q .non H'
def OKi (P : Program) (w : World) (K : PySem.W.Frag) (mg : Str → Option Value) (base : Heap) (x : Str) (C0 : Addr) (k : Nat) (ps : List Str) (sp : Sp) : Prop :=
  ∃ f fd, mg x = some (.ref C0) ∧ Mk K C0 f ∧ Binds K fd ps [] ∧ FnOk P w K mg base CX0 k f fd ps sp
theorem je_make {k : Nat} {ps : List Str} {α : Type} {args : α → List PyData} {pre : α → Prop} {fields : α → List (Str × PyData)} {pp : Pos} (F : OKi C.P C.w C.K C.mg C.base n C0 k ps (SpI C.K C0 args pre fields)) (h : JA C (e :: es) δ μ fun ss μ1 => ∃ y, ss = (args y).map .dat ∧ pre y ∧ Φ (.obj C0 (fields y)) μ1) (hk : k + 1 ≤ C.k := by exact Nat.le_of_ble_eq_true rfl) (hg : GlC C n := by rfl) (hdb : (n == ("__debug__" : Str)) = false := by decide)
    (hst : ∀ env, starEach (e :: es) env = (false, eval e env) :: starEach es env := by intro _; rfl) (hpl : ∀ env, (backTo pos (starEach es env)).any (·.1) = false := by intro _; rfl) : JE C (.Call (.Name n pp) (e :: es) [] pos) δ μ Φ := fun hs σ H as S Q kk => by
  obtain ⟨f, fd, h1, h2, h3, h4⟩ := F
  refine ⟨tMake C0 (SpI C.K C0 args pre fields) [] E0 (WA C (e :: es)), fun X hX => pe_make (k := k) (fd := fd) (ps := ps) (f := f) (by rw [hX.K]; exact h2) (by rw [hX.prog, hX.w, hX.K, hX.mg, hX.base]; exact h4) (hX.room.mono hk) (gl hX hg) (by rw [hX.mg]; exact h1) (by rw [hX.K]; exact h3) .nil pass0 (wa hX) hdb (hst _) (hpl _), ?_⟩
  refine h hs σ H as S _ fun vs H1 ss μ1 as1 n1 m1 svs ⟨y, e1, hp, p⟩ => ?_
  subst e1
  intro x dx hx hdx hne
  rw [List.append_nil]
  have hfx : x ∉ hs ++ hid as1 μ1 := m1.hso.fresh hx
  have ex1 : Ex H1 (upd (upd H1 dx (.own x)) x (.ins C0 dx [])) := fun b o q => by
    rw [upd_ne (fun z => by rw [z, hx] at q; cases q), upd_ne (fun z => by rw [z, hdx] at q; cases q)]; exact q
  refine ⟨(hs ++ hid as1 μ1) ++ [x], x, dx, vs, y, rfl, fun b hb => ?_, List.mem_append_right _ (List.mem_singleton.mpr rfl), upd_same, DpAll.mono (fun b o q => ?_) (SVs.all svs), hp, fun H' ws k1 k2 k3 => ⟨rfl, ?_⟩⟩
  · rcases List.mem_append.mp hb with z | z
    · cases q : H1 b with
      | none => exact absurd q (m1.hso b z)
      | some o => rw [ex1 b o q]; exact fun z => nomatch z
    · rw [List.mem_singleton.mp z, upd_same]; exact fun z => nomatch z
  · by_cases hb : b ∈ hs ++ hid as1 μ1
    · unfold kn at q; rw [hide_in hb] at q; cases q
    · unfold kn at q
      rw [hide_out hb] at q
      rw [hide_out (fun z => by
        rcases List.mem_append.mp z with z | z
        · exact hb z
        · rw [List.mem_singleton.mp z, hx] at q; cases q)]
      exact ex1 b o q
  · have ex2 : Ex H1 H' := fun b o q => k1 b o (fun z => by rw [z, hx] at q; cases q) (ex1 b o q)
    refine kk _ H' (.obj C0 (fields y)) μ1 as1 (n1.trans (Nxt.grow ex2)) (m1.grow ex2) ⟨x, dx, ws, rfl, ?_, fun f d q => ?_⟩ p
    · show hide _ H' x = _
      rw [hide_out hfx]; exact k2
    · obtain ⟨u, q1, q2⟩ := k3 f d q
      exact ⟨u, q1, Dp.mono (hide_sub fun b hb => List.mem_append_left _ hb) q2⟩
/-- a field of an instance that is named -/
theorem de_fld {f : Str} (ho : ∀ Φ : SV → Mem → Prop, Φ (.obj C0 fs) μ → JE C e δ μ Φ) (hc : Cls C.K C0) (hn : NoAttr C.K C0 f) (hf : fs.lookup f = some d := by rfl) (hb : ∀ env, attributeBase e f env (eval e env) = eval e env := by intro _; rfl) : DE C (.Attribute e f pos) δ μ d := fun Φ p hs σ H as S Q kk =>
  ⟨tFld C.K (WE C e) f, fun X hX => by have := pe_fld (pos := pos) (we (e := e) hX) (hb X.env); rw [hX.K] at this; exact this, ho (fun s μ1 => s = .obj C0 fs ∧ μ1 = μ) ⟨rfl, rfl⟩ hs σ H as S _ fun v H1 s1 μ1 as1 n1 m1 sv ⟨e1, e2⟩ => by
    subst e1 e2
    obtain ⟨a, dx, vs, q1, q2, q3⟩ := sv
    obtain ⟨u, q4, q5⟩ := q3 f d hf
    exact ⟨a, C0, dx, vs, u, q1, hide_ex _ _ _ _ q2, hc, hn, q4, kk u H1 (.dat d) _ as1 n1 m1 q5 p⟩⟩
section
variable {P : Program} {w : World} {K : PySem.W.Frag} {mg : Str → Option Value} {base : Heap}
theorem okI {cn nm qn : Str} {st : Stmt} {N ps : List Str} {k : Nat} {f : Addr} {fd : FuncData} {α : Type} {args : α → List PyData} {pre : α → Prop} {fields : α → List (Str × PyData)} (hm : mg cn = some (.ref C0)) (M : Mk K C0 f) (F : FunD K nm qn (defArgs st) (defBody st) (defScope st) [] [] f fd) (S : FnScope N ps (defScope st))
    (hb : ∀ (kV doc pm : Value) (an : Option Addr) (cdv ct : Value) (us : List Value), us.length = ps.length → bindArgs (PySem.W.fnOf nm qn (defArgs st) (defBody st) (defScope st) .none kV doc pm an cdv ct) ⟨us, []⟩ = pure (ps.zip us))
    (hlen : ∀ y, (args y).length + 1 = ps.length) (body : ∀ y, pre y → ∀ x dx, JI (fC P w K mg base k N (defScope st)) (defBody st) x C0 dx (en0 N (.raw (.ref x) :: (args y).map .dat)) [] (fields y)) :
    OKi P w K mg base cn C0 (k + 1) ps (SpI K C0 args pre fields) := by
  refine ⟨f, fd, hm, M, F.bindsN hb, F.ok S (fun vs H Q E h => ?_) fun cdv A outer s H vs Q E hr h => ?_⟩
  · obtain ⟨hs, x, dx, vs', y, e, _, _, _, h1, h2, _⟩ := h
    rw [e, List.length_cons, DpAll.len h1]; exact hlen y
  · obtain ⟨hs, x, dx, vs', y, e, ho, hx, h0, h1, h2, q⟩ := h
    subst e
    have S0 : StOk K hs [] H (start N (.ref x :: vs')) (en0 N (.raw (.ref x) :: (args y).map .dat)) [] := ⟨by rw [show hide (hs ++ hid [] []) H = hide hs H from kn_nil hs [] H]; exact slots0 ⟨rfl, SVs.of h1⟩, ⟨rfl, List.nodup_nil, fun a ha => (by cases ha), ho, fun i a h => (by simp at h), fun i a ds h => (by simp at h)⟩⟩
    have R := body y h2 x dx hs (start N (.ref x :: vs')) H [] [] S0 hx h0 ⟨Nat.le_refl _, fun f d z => nomatch z⟩ { nx := fun _ H' => Q .non H', rt := Q } fun σ' H' vs' k1 k2 k3 => q H' vs' k1 k2 k3
    exact ⟨_, PSs.nox (wb (inF_of hr)), R⟩
end
end K79
end
section
set_option Elab.async false
set_option linter.all false
set_option maxRecDepth 100000
namespace K79
open PySem PySem.Spec PyProof.Rows L2 GI Mx Ch
variable {P : Program} {w : World} {K : PySem.W.Frag} {mg : Str → Option Value} {base : Heap}

section
variable {C : Ctx} {a b c : Expr} {δ : En} {μ : Mem} {Φ : SV → Mem → Prop} {pos : Pos} {q : Bool}
theorem je_ifD (h : DT C c δ μ q) (h1 : q = true → JE C a δ μ Φ) (h2 : q = false → JE C b δ μ Φ) : JE C (.IfExp c a b pos) δ μ Φ := je_if (h _ ⟨h1, h2⟩)
end
theorem jad {C : Ctx} {es : List Expr} {δ : En} {μ : Mem} {ds : List PyData} {Φ : List SV → Mem → Prop} (h : DA C es δ μ ds) (k : Φ (ds.map .dat) μ) : JA C es δ μ Φ := h _ k
theorem leafI (k : Nat) {o : Option Nat} (h : o = some k) : SV.dat (.int (k : Int)) = SV.dat (resO o) := by rw [h]; rfl
theorem leafN {o : Option Nat} (h : o = none) : SV.dat .none = SV.dat (resO o) := by rw [h]; rfl
theorem bI {p q : Prop} [Decidable p] [Decidable q] (h : p ↔ q) : decide p = decide q := decide_eq_decide.mpr h
theorem bT {b : Bool} {p : Prop} [Decidable p] (h : b = true ↔ p) : b = decide p := by
  rw [Bool.eq_iff_iff, h, decide_eq_true_eq]
theorem qs4 {z v : GI} (hz : Sz 2000 z) (hw : Sz 2000 v) (hv : v ≠ 0) : ((qp z v).1.natAbs < 2 ^ 4400 ∧ (qp z v).2.1.natAbs < 2 ^ 4400 ∧ (qp z v).2.2.natAbs < 2 ^ 4400) ∧ 0 < (qp z v).2.2 := by
  obtain ⟨h1, h2, h3⟩ := qp_sz hz hw hv
  exact ⟨⟨nz h1 (by decide), nz h2 (by decide), nz h3 (by decide)⟩, qp_pos hv⟩
open Classical in
theorem eU {z v : GI} (hv : v ≠ 0) : PyData.eqv (dP (qp z v)) (dP (1, 0, 1)) = decide (z = v) := by
  rw [eqv_P]; exact bI (qp_one hv)
open Classical in
theorem eS {M : Mx} (hv : M.d ≠ 0) : PyData.eqv (dP (low3 ((qp M.a M.d).1 * (qp M.a M.d).1 + (qp M.a M.d).2.1 * (qp M.a M.d).2.1, 0, (qp M.a M.d).2.2 * (qp M.a M.d).2.2))) (dP (1, 0, 1)) = decide M.Size1 := by
  rw [eqv_P]; exact bI (qp_size hv)
open Classical in
theorem eF {M : Mx} (hv : M.d ≠ 0) : decide ((qp M.a M.d).2.1 = 0) = decide M.FacR := bI (fac_iff hv)
open Classical in
theorem eT (M : Mx) : tru M = decide M.Tru := bT (tru_iff M)
open Classical in
theorem eR {M : Mx} (h : M.det ≠ 0) : decide ((qp ((M.a + M.d) * (M.a + M.d)) M.det).2.1 = 0) = decide M.SR := bI (sr_iff h)
open Classical in
theorem eE {M : Mx} (h : M.c ≠ 0) : decide ((qp (M.b * M.c - M.a * M.d) (M.c * M.c)).2.1 = 0) = decide M.ER := bI (er_iff h)
open Classical in
theorem eG {M : Mx} (h : M.c ≠ 0) : PyData.eqv (dP (qp M.a M.c)) (dP ((qp (-M.d) M.c).1, -(qp (-M.d) M.c).2.1, (qp (-M.d) M.c).2.2)) = decide M.GH := by
  rw [eqv_P]; exact bI (gh_iff h)
open Classical in
theorem eL {x : Ch} (hx : Ok 1900 x) (hf : x.f = true) (hc : x.m.c = 0) : decide (Ch.join x x = still) = decide x.m.Line := bI (line_iff hx (by decide) hf hc)
noncomputable abbrev sp_fewest_plain_kept (K : PySem.W.Frag) : Sp := SpD K (α := Ch × List Str) (fun p => [dM p.1, .tuple (p.2.map .str)]) (fun p => Ok 1900 p.1 ∧ p.1.m.c = 0) (fun p => resO (fewPK p.1.m (kd p.2)))
theorem sc54 : FnScope ["chart", "kinds", "factor"] ["chart", "kinds"] (defScope (topS 54)) := ⟨rfl, rfl, rfl, by decide +kernel, rfl, by decide +kernel, by decide +kernel⟩
theorem ok_fewest_plain_kept (D : DefAt K mg "fewest_plain_kept" (topS 54)) (h_factor_in : OKs P w K mg base "factor_in" 4 ["chart"] (sp_factor_in K)) (c_UNITY : CnK K mg "UNITY" (dP (1, 0, 1))) (h_is_real : OKs P w K mg base "is_real" 1 ["one"] (sp_is_real K)) (h_is_true_map : OKs P w K mg base "is_true_map" 3 ["chart"] (sp_is_true_map K)) (h_size_of : OKs P w K mg base "size_of" 3 ["one"] (sp_size_of K)) : OKs P w K mg base "fewest_plain_kept" 5 ["chart", "kinds"] (sp_fewest_plain_kept K) := by
  refine okD (k := 4) D sc54 (fun _ _ _ _ _ _ us hl => match us, hl with | [_, _], _ => rfl) (fun _ => rfl) (fun y hp => ?_)
  refine ?_
  have hx := hp.1
  have hd := (diag_ne hx.form.det hp.2).2
  refine js_setD 2 ⟨sc54.nd, rfl, .inl rfl, .inl rfl⟩ (de_call h_factor_in y.1 (da_cons (de_name 0) da_nil) hx) (js_ifr (dt_eq (de_name 2) (de_glob c_UNITY)) (fun hq1 => js_ifr (dt_inT de_str (de_name 1)) (fun hq2 => js_ret (je de_int ?_)) (fun hq2 => js_ifr (dt_or (dt_inT de_str (de_name 1)) fun hq => (dt_inT de_str (de_name 1))) (fun hq3 => js_ret (je de_int ?_)) (fun hq3 => js_ret (je_ifD (dt_inT de_str (de_name 1)) (fun hq4 => (je de_int ?_)) (fun hq4 => (je de_non ?_)))))) (fun hq1 => js_ifr (dt_inT de_str (de_name 1)) (fun hq5 => js_ret (je de_int ?_)) (fun hq5 => js_ifr (dt_or (dt_and (dt_inT de_str (de_name 1)) fun hq => (dt_val (de_call h_is_real (qp y.1.m.a y.1.m.d) (da_cons (de_name 2) da_nil) trivial))) fun hq => (dt_and (dt_inT de_str (de_name 1)) fun hq => (dt_eq (de_call h_size_of (qp y.1.m.a y.1.m.d) (da_cons (de_name 2) da_nil) (qs4 (sx _ hx).1 (sx _ hx).2.2.2 hd)) (de_glob c_UNITY)))) (fun hq6 => js_ret (je de_int ?_)) (fun hq6 => js_ret (je_ifD (dt_and (dt_inT de_str (de_name 1)) fun hq => (dt_val (de_call h_is_true_map y.1 (da_cons (de_name 0) da_nil) hx))) (fun hq7 => (je de_int ?_)) (fun hq7 => (je de_non ?_)))))))
  · refine leafI 1 ?_
    try simp only [eU hd, eS hd, eF hd, eT, Bool.or_eq_true, Bool.and_eq_true, Bool.or_eq_false_iff, Bool.and_eq_false_iff, decide_eq_true_eq, decide_eq_false_iff_not, Bool.not_eq_true, Bool.not_eq_false, Bool.not_eq_eq_eq_not, Bool.not_true, Bool.not_false] at *
    unfold fewPK
    simp only [kd]
    grind
  · refine leafI 2 ?_
    try simp only [eU hd, eS hd, eF hd, eT, Bool.or_eq_true, Bool.and_eq_true, Bool.or_eq_false_iff, Bool.and_eq_false_iff, decide_eq_true_eq, decide_eq_false_iff_not, Bool.not_eq_true, Bool.not_eq_false, Bool.not_eq_eq_eq_not, Bool.not_true, Bool.not_false] at *
    unfold fewPK
    simp only [kd]
    grind
  · refine leafI 4 ?_
    try simp only [eU hd, eS hd, eF hd, eT, Bool.or_eq_true, Bool.and_eq_true, Bool.or_eq_false_iff, Bool.and_eq_false_iff, decide_eq_true_eq, decide_eq_false_iff_not, Bool.not_eq_true, Bool.not_eq_false, Bool.not_eq_eq_eq_not, Bool.not_true, Bool.not_false] at *
    unfold fewPK
    simp only [kd]
    grind
  · refine leafN ?_
    try simp only [eU hd, eS hd, eF hd, eT, Bool.or_eq_true, Bool.and_eq_true, Bool.or_eq_false_iff, Bool.and_eq_false_iff, decide_eq_true_eq, decide_eq_false_iff_not, Bool.not_eq_true, Bool.not_eq_false, Bool.not_eq_eq_eq_not, Bool.not_true, Bool.not_false] at *
    unfold fewPK
    simp only [kd]
    grind
  · refine leafI 1 ?_
    try simp only [eU hd, eS hd, eF hd, eT, Bool.or_eq_true, Bool.and_eq_true, Bool.or_eq_false_iff, Bool.and_eq_false_iff, decide_eq_true_eq, decide_eq_false_iff_not, Bool.not_eq_true, Bool.not_eq_false, Bool.not_eq_eq_eq_not, Bool.not_true, Bool.not_false] at *
    unfold fewPK
    simp only [kd]
    grind
  · refine leafI 2 ?_
    try simp only [eU hd, eS hd, eF hd, eT, Bool.or_eq_true, Bool.and_eq_true, Bool.or_eq_false_iff, Bool.and_eq_false_iff, decide_eq_true_eq, decide_eq_false_iff_not, Bool.not_eq_true, Bool.not_eq_false, Bool.not_eq_eq_eq_not, Bool.not_true, Bool.not_false] at *
    unfold fewPK
    simp only [kd]
    grind
  · refine leafI 4 ?_
    try simp only [eU hd, eS hd, eF hd, eT, Bool.or_eq_true, Bool.and_eq_true, Bool.or_eq_false_iff, Bool.and_eq_false_iff, decide_eq_true_eq, decide_eq_false_iff_not, Bool.not_eq_true, Bool.not_eq_false, Bool.not_eq_eq_eq_not, Bool.not_true, Bool.not_false] at *
    unfold fewPK
    simp only [kd]
    grind
  · refine leafN ?_
    try simp only [eU hd, eS hd, eF hd, eT, Bool.or_eq_true, Bool.and_eq_true, Bool.or_eq_false_iff, Bool.and_eq_false_iff, decide_eq_true_eq, decide_eq_false_iff_not, Bool.not_eq_true, Bool.not_eq_false, Bool.not_eq_eq_eq_not, Bool.not_true, Bool.not_false] at *
    unfold fewPK
    simp only [kd]
    grind
noncomputable abbrev sp_fewest_plain_moved (K : PySem.W.Frag) : Sp := SpD K (α := Ch × List Str) (fun p => [dM p.1, .tuple (p.2.map .str)]) (fun p => Ok 1900 p.1 ∧ p.1.m.c ≠ 0) (fun p => resO (fewPM p.1.m (kd p.2)))
theorem sc55 : FnScope ["chart", "kinds"] ["chart", "kinds"] (defScope (topS 55)) := ⟨rfl, rfl, rfl, by decide +kernel, rfl, by decide +kernel, by decide +kernel⟩
theorem ok_fewest_plain_moved (D : DefAt K mg "fewest_plain_moved" (topS 55)) (h_is_true_map : OKs P w K mg base "is_true_map" 3 ["chart"] (sp_is_true_map K)) (h_is_real : OKs P w K mg base "is_real" 1 ["one"] (sp_is_real K)) (h_trace_place : OKs P w K mg base "trace_place" 4 ["chart"] (sp_trace_place K)) : OKs P w K mg base "fewest_plain_moved" 5 ["chart", "kinds"] (sp_fewest_plain_moved K) := by
  refine okD (k := 4) D sc55 (fun _ _ _ _ _ _ us hl => match us, hl with | [_, _], _ => rfl) (fun _ => rfl) (fun y hp => ?_)
  refine ?_
  have hx := hp.1
  have hd := hx.form.det
  refine js_ifr (dt_and (dt_val (de_call h_is_true_map y.1 (da_cons (de_name 0) da_nil) hx)) fun hq => (dt_val (de_call h_is_real (qp ((y.1.m.a + y.1.m.d) * (y.1.m.a + y.1.m.d)) y.1.m.det) (da_cons (de_call h_trace_place y.1 (da_cons (de_name 0) da_nil) hx) da_nil) trivial))) (fun hq1 => js_ret (je de_int ?_)) (fun hq1 => js_ifr (dt_inT de_str (de_name 1)) (fun hq2 => js_ret (je de_int ?_)) (fun hq2 => js_ifr (dt_not (dt_val (de_call h_is_true_map y.1 (da_cons (de_name 0) da_nil) hx))) (fun hq3 => js_ret (je de_non ?_)) (fun hq3 => js_ret (je_ifD (dt_inT de_str (de_name 1)) (fun hq4 => (je de_int ?_)) (fun hq4 => (je de_int ?_))))))
  · refine leafI 2 ?_
    try simp only [eR hd, eT, Bool.or_eq_true, Bool.and_eq_true, Bool.or_eq_false_iff, Bool.and_eq_false_iff, decide_eq_true_eq, decide_eq_false_iff_not, Bool.not_eq_true, Bool.not_eq_false, Bool.not_eq_eq_eq_not, Bool.not_true, Bool.not_false] at *
    unfold fewPM
    simp only [kd]
    grind
  · refine leafI 3 ?_
    try simp only [eR hd, eT, Bool.or_eq_true, Bool.and_eq_true, Bool.or_eq_false_iff, Bool.and_eq_false_iff, decide_eq_true_eq, decide_eq_false_iff_not, Bool.not_eq_true, Bool.not_eq_false, Bool.not_eq_eq_eq_not, Bool.not_true, Bool.not_false] at *
    unfold fewPM
    simp only [kd]
    grind
  · refine leafN ?_
    try simp only [eR hd, eT, Bool.or_eq_true, Bool.and_eq_true, Bool.or_eq_false_iff, Bool.and_eq_false_iff, decide_eq_true_eq, decide_eq_false_iff_not, Bool.not_eq_true, Bool.not_eq_false, Bool.not_eq_eq_eq_not, Bool.not_true, Bool.not_false] at *
    unfold fewPM
    simp only [kd]
    grind
  · refine leafI 3 ?_
    try simp only [eR hd, eT, Bool.or_eq_true, Bool.and_eq_true, Bool.or_eq_false_iff, Bool.and_eq_false_iff, decide_eq_true_eq, decide_eq_false_iff_not, Bool.not_eq_true, Bool.not_eq_false, Bool.not_eq_eq_eq_not, Bool.not_true, Bool.not_false] at *
    unfold fewPM
    simp only [kd]
    grind
  · refine leafI 4 ?_
    try simp only [eR hd, eT, Bool.or_eq_true, Bool.and_eq_true, Bool.or_eq_false_iff, Bool.and_eq_false_iff, decide_eq_true_eq, decide_eq_false_iff_not, Bool.not_eq_true, Bool.not_eq_false, Bool.not_eq_eq_eq_not, Bool.not_true, Bool.not_false] at *
    unfold fewPM
    simp only [kd]
    grind
noncomputable abbrev sp_fewest_mirrored_kept (K : PySem.W.Frag) : Sp := SpD K (α := Ch × List Str) (fun p => [dM p.1, .tuple (p.2.map .str)]) (fun p => Ok 1900 p.1 ∧ p.1.m.c = 0 ∧ p.1.f = true) (fun p => resO (fewMK p.1.m (kd p.2)))
theorem sc56 : FnScope ["chart", "kinds"] ["chart", "kinds"] (defScope (topS 56)) := ⟨rfl, rfl, rfl, by decide +kernel, rfl, by decide +kernel, by decide +kernel⟩
theorem ok_fewest_mirrored_kept (D : DefAt K mg "fewest_mirrored_kept" (topS 56)) (h_is_line_mirror : OKs P w K mg base "is_line_mirror" 6 ["chart"] (sp_is_line_mirror K)) (c_UNITY : CnK K mg "UNITY" (dP (1, 0, 1))) (h_is_true_map : OKs P w K mg base "is_true_map" 3 ["chart"] (sp_is_true_map K)) (h_size_of : OKs P w K mg base "size_of" 3 ["one"] (sp_size_of K)) (h_factor_in : OKs P w K mg base "factor_in" 4 ["chart"] (sp_factor_in K)) : OKs P w K mg base "fewest_mirrored_kept" 7 ["chart", "kinds"] (sp_fewest_mirrored_kept K) := by
  refine okD (k := 6) D sc56 (fun _ _ _ _ _ _ us hl => match us, hl with | [_, _], _ => rfl) (fun _ => rfl) (fun y hp => ?_)
  refine ?_
  have hx := hp.1
  have hd := (diag_ne hx.form.det hp.2.1).2
  refine js_ifr (dt_ninT de_str (de_name 1)) (fun hq1 => js_ifr (dt_ninT de_str (de_name 1)) (fun hq2 => js_ret (je de_non ?_)) (fun hq2 => js_ifr (dt_val (de_call h_is_true_map y.1 (da_cons (de_name 0) da_nil) hx)) (fun hq3 => js_ret (je de_int ?_)) (fun hq3 => js_ret (je_ifD (dt_inT de_str (de_name 1)) (fun hq4 => (je de_int ?_)) (fun hq4 => (je de_non ?_)))))) (fun hq1 => js_ifr (dt_val (de_call h_is_line_mirror y.1 (da_cons (de_name 0) da_nil) hx)) (fun hq5 => js_ret (je de_int ?_)) (fun hq5 => js_ifr (dt_inT de_str (de_name 1)) (fun hq6 => js_ret (je de_int ?_)) (fun hq6 => js_ifr (dt_eq (de_call h_size_of (qp y.1.m.a y.1.m.d) (da_cons (de_call h_factor_in y.1 (da_cons (de_name 0) da_nil) hx) da_nil) (qs4 (sx _ hx).1 (sx _ hx).2.2.2 hd)) (de_glob c_UNITY)) (fun hq7 => js_ret (je_ifD (dt_inT de_str (de_name 1)) (fun hq8 => (je de_int ?_)) (fun hq8 => (je de_int ?_)))) (fun hq7 => js_ret (je_ifD (dt_and (dt_inT de_str (de_name 1)) fun hq => (dt_val (de_call h_is_true_map y.1 (da_cons (de_name 0) da_nil) hx))) (fun hq9 => (je de_int ?_)) (fun hq9 => (je de_non ?_)))))))
  · refine leafN ?_
    try simp only [eL hx hp.2.2 hp.2.1, eS hd, eT, Bool.or_eq_true, Bool.and_eq_true, Bool.or_eq_false_iff, Bool.and_eq_false_iff, decide_eq_true_eq, decide_eq_false_iff_not, Bool.not_eq_true, Bool.not_eq_false, Bool.not_eq_eq_eq_not, Bool.not_true, Bool.not_false] at *
    unfold fewMK
    simp only [kd]
    grind
  · refine leafI 3 ?_
    try simp only [eL hx hp.2.2 hp.2.1, eS hd, eT, Bool.or_eq_true, Bool.and_eq_true, Bool.or_eq_false_iff, Bool.and_eq_false_iff, decide_eq_true_eq, decide_eq_false_iff_not, Bool.not_eq_true, Bool.not_eq_false, Bool.not_eq_eq_eq_not, Bool.not_true, Bool.not_false] at *
    unfold fewMK
    simp only [kd]
    grind
  · refine leafI 4 ?_
    try simp only [eL hx hp.2.2 hp.2.1, eS hd, eT, Bool.or_eq_true, Bool.and_eq_true, Bool.or_eq_false_iff, Bool.and_eq_false_iff, decide_eq_true_eq, decide_eq_false_iff_not, Bool.not_eq_true, Bool.not_eq_false, Bool.not_eq_eq_eq_not, Bool.not_true, Bool.not_false] at *
    unfold fewMK
    simp only [kd]
    grind
  · refine leafN ?_
    try simp only [eL hx hp.2.2 hp.2.1, eS hd, eT, Bool.or_eq_true, Bool.and_eq_true, Bool.or_eq_false_iff, Bool.and_eq_false_iff, decide_eq_true_eq, decide_eq_false_iff_not, Bool.not_eq_true, Bool.not_eq_false, Bool.not_eq_eq_eq_not, Bool.not_true, Bool.not_false] at *
    unfold fewMK
    simp only [kd]
    grind
  · refine leafI 1 ?_
    try simp only [eL hx hp.2.2 hp.2.1, eS hd, eT, Bool.or_eq_true, Bool.and_eq_true, Bool.or_eq_false_iff, Bool.and_eq_false_iff, decide_eq_true_eq, decide_eq_false_iff_not, Bool.not_eq_true, Bool.not_eq_false, Bool.not_eq_eq_eq_not, Bool.not_true, Bool.not_false] at *
    unfold fewMK
    simp only [kd]
    grind
  · refine leafI 2 ?_
    try simp only [eL hx hp.2.2 hp.2.1, eS hd, eT, Bool.or_eq_true, Bool.and_eq_true, Bool.or_eq_false_iff, Bool.and_eq_false_iff, decide_eq_true_eq, decide_eq_false_iff_not, Bool.not_eq_true, Bool.not_eq_false, Bool.not_eq_eq_eq_not, Bool.not_true, Bool.not_false] at *
    unfold fewMK
    simp only [kd]
    grind
  · refine leafI 2 ?_
    try simp only [eL hx hp.2.2 hp.2.1, eS hd, eT, Bool.or_eq_true, Bool.and_eq_true, Bool.or_eq_false_iff, Bool.and_eq_false_iff, decide_eq_true_eq, decide_eq_false_iff_not, Bool.not_eq_true, Bool.not_eq_false, Bool.not_eq_eq_eq_not, Bool.not_true, Bool.not_false] at *
    unfold fewMK
    simp only [kd]
    grind
  · refine leafI 3 ?_
    try simp only [eL hx hp.2.2 hp.2.1, eS hd, eT, Bool.or_eq_true, Bool.and_eq_true, Bool.or_eq_false_iff, Bool.and_eq_false_iff, decide_eq_true_eq, decide_eq_false_iff_not, Bool.not_eq_true, Bool.not_eq_false, Bool.not_eq_eq_eq_not, Bool.not_true, Bool.not_false] at *
    unfold fewMK
    simp only [kd]
    grind
  · refine leafI 3 ?_
    try simp only [eL hx hp.2.2 hp.2.1, eS hd, eT, Bool.or_eq_true, Bool.and_eq_true, Bool.or_eq_false_iff, Bool.and_eq_false_iff, decide_eq_true_eq, decide_eq_false_iff_not, Bool.not_eq_true, Bool.not_eq_false, Bool.not_eq_eq_eq_not, Bool.not_true, Bool.not_false] at *
    unfold fewMK
    simp only [kd]
    grind
  · refine leafN ?_
    try simp only [eL hx hp.2.2 hp.2.1, eS hd, eT, Bool.or_eq_true, Bool.and_eq_true, Bool.or_eq_false_iff, Bool.and_eq_false_iff, decide_eq_true_eq, decide_eq_false_iff_not, Bool.not_eq_true, Bool.not_eq_false, Bool.not_eq_eq_eq_not, Bool.not_true, Bool.not_false] at *
    unfold fewMK
    simp only [kd]
    grind
def stI : Stmt := inClass (topS 47) 0
def partsF (M : Mx) : List (Str × PyData) := [("stretch", dP (qp (M.b * M.c - M.a * M.d) (M.c * M.c))), ("source", dP ((qp (-M.d) M.c).1, -(qp (-M.d) M.c).2.1, (qp (-M.d) M.c).2.2)), ("goal", dP (qp M.a M.c))]
abbrev sp_Parts (K : PySem.W.Frag) (C0 : Addr) : Sp := SpI K C0 (α := Ch) (fun x => [dM x]) (fun x => Ok 1900 x ∧ x.m.c ≠ 0 ∧ x.f = true) (fun x => partsF x.m)
theorem scI : FnScope ["self", "chart", "is_mirrored", "a", "b", "c", "d", "pole"] ["self", "chart"] (defScope stI) := ⟨rfl, rfl, rfl, by decide +kernel, rfl, by decide +kernel, by decide +kernel⟩
theorem neg_sc (z : GI) : (⟨-1 * z.re, -1 * z.im⟩ : GI) = -z := by
  ext
  · show -1 * z.re = -z.re; omega
  · show -1 * z.im = -z.im; omega
theorem ok_Parts {C0 f : Addr} {fd : FuncData} (hm : mg "Parts" = some (.ref C0)) (M : Mk K C0 f) (F : FunD K "__init__" "Parts.__init__" (defArgs stI) (defBody stI) (defScope stI) [] [] f fd) (hcls : Cls K C0) (nat_goal : NoAttr K C0 "goal") (nat_source : NoAttr K C0 "source") (nat_stretch : NoAttr K C0 "stretch") (nat_way : NoAttr K C0 "way") (h_quotient_place : OKs P w K mg base "quotient_place" 3 ["number", "other"] (sp_quotient_place K)) (h_scaled : OKs P w K mg base "scaled" 1 ["number", "factor"] (sp_scaled K)) (h_flipped : OKs P w K mg base "flipped" 1 ["one"] (sp_flipped K)) (h_minus : OKs P w K mg base "minus" 1 ["number", "other"] (sp_minus K)) (h_times : OKs P w K mg base "times" 1 ["number", "other"] (sp_times K)) (h_gap : OKs P w K mg base "gap" 3 ["one", "other"] (sp_gap K)) : OKi P w K mg base "Parts" C0 4 ["self", "chart"] (sp_Parts K C0) := by
  refine okI (k := 3) hm M F scI (fun _ _ _ _ _ _ us hl => match us, hl with | [_, _], _ => rfl) (fun _ => rfl) fun y hp x dx => ?_
  obtain ⟨hx, hc, hf⟩ := hp
  obtain ⟨sa, sb, sc, sd⟩ := sx y hx
  have ss : Sz 4002 (y.m.b * y.m.c - y.m.a * y.m.d) := Sz.sub (sb.mul sc) (sa.mul sd)
  have scc : Sz 4001 (y.m.c * y.m.c) := sc.mul sc
  have g1 := qs4 sa sc hc
  have g2 := qs4 sd.neg sc hc
  refine ji_asg (d := dM y) (de_name 1) (jg_tup (jgs_cons (jg_name (k := 2) ⟨scI.nd, rfl, .inl rfl, .inl rfl⟩ (jgs_cons (jg_name (k := 3) ⟨scI.nd, rfl, .inl rfl, .inl rfl⟩ (jgs_cons (jg_name (k := 4) ⟨scI.nd, rfl, .inl rfl, .inl rfl⟩ (jgs_cons (jg_name (k := 5) ⟨scI.nd, rfl, .inl rfl, .inl rfl⟩ (jgs_cons (jg_name (k := 6) ⟨scI.nd, rfl, .inl rfl, .inl rfl⟩ (jgs_nil ⟨rfl, rfl⟩)))))))))))) ?_
  refine ji_set (d := dP (qp (-y.m.d) y.m.c)) 7 ⟨scI.nd, rfl, .inl rfl, .inl rfl⟩ (de_call h_quotient_place (-y.m.d, y.m.c) (da_cons (DE.is (de_call h_scaled (y.m.d, -1) (da_cons (de_name 6) (da_cons (de_neg de_int) da_nil)) ⟨sd.mono, (by show (1 : Nat) < 2 ^ 200000; exact Nat.one_lt_two_pow (by decide))⟩) (by rw [neg_sc])) (da_cons (de_name 5) da_nil)) ⟨sd.neg.mono, sc.mono⟩) ?_
  refine ji_fld (d := dP (qp y.m.a y.m.c)) (de_call h_quotient_place (y.m.a, y.m.c) (da_cons (de_name 3) (da_cons (de_name 5) da_nil)) ⟨sa.mono, sc.mono⟩) (fun _ h => je_name 0 (h := h)) hcls nat_goal (by decide) ?_
  refine ji_fld (d := dP ((qp (-y.m.d) y.m.c).1, -(qp (-y.m.d) y.m.c).2.1, (qp (-y.m.d) y.m.c).2.2)) (de_if (dt_eq (de_name 2) de_int) (fun hq => (de_call h_flipped (qp (-y.m.d) y.m.c) (da_cons (de_name 7) da_nil) trivial)) (fun hq => ?_)) (fun _ h => je_name 0 (h := h)) hcls nat_source (by show 1 < 1000; decide) ?_
  · exfalso
    rw [dF1, hf] at hq
    cases hq
  refine ji_fld (d := dP (qp (y.m.b * y.m.c - y.m.a * y.m.d) (y.m.c * y.m.c))) (de_call h_quotient_place (y.m.b * y.m.c - y.m.a * y.m.d, y.m.c * y.m.c) (da_cons (de_call h_minus (y.m.b * y.m.c, y.m.a * y.m.d) (da_cons (de_call h_times (y.m.b, y.m.c) (da_cons (de_name 4) (da_cons (de_name 5) da_nil)) ⟨sb.mono, sc.mono⟩) (da_cons (de_call h_times (y.m.a, y.m.d) (da_cons (de_name 3) (da_cons (de_name 6) da_nil)) ⟨sa.mono, sd.mono⟩) da_nil)) trivial) (da_cons (de_call h_times (y.m.c, y.m.c) (da_cons (de_name 5) (da_cons (de_name 5) da_nil)) ⟨sc.mono, sc.mono⟩) da_nil)) ⟨ss.mono, scc.mono⟩) (fun _ h => je_name 0 (h := h)) hcls nat_stretch (by show 2 < 1000; decide) ?_
  exact ji_last (de_call h_gap (qp y.m.a y.m.c, ((qp (-y.m.d) y.m.c).1, -(qp (-y.m.d) y.m.c).2.1, (qp (-y.m.d) y.m.c).2.2)) (da_cons (de_fld (fun _ h => je_name 0 (h := h)) hcls nat_goal) (da_cons (de_fld (fun _ h => je_name 0 (h := h)) hcls nat_source) da_nil)) ⟨g1.1, ⟨g2.1.1, by rw [Int.natAbs_neg]; exact g2.1.2.1, g2.1.2.2⟩, g1.2, g2.2⟩) rfl (fun _ h => je_name 0 (h := h)) hcls nat_way (by show 3 < 1000; decide) rfl
noncomputable abbrev sp_fewest_mirrored_moved (K : PySem.W.Frag) : Sp := SpD K (α := Ch × List Str) (fun p => [dM p.1, .tuple (p.2.map .str)]) (fun p => Ok 1900 p.1 ∧ p.1.m.c ≠ 0 ∧ p.1.f = true) (fun p => resO (fewMM p.1.m (kd p.2)))
theorem sc57 : FnScope ["chart", "kinds", "parts"] ["chart", "kinds"] (defScope (topS 57)) := ⟨rfl, rfl, rfl, by decide +kernel, rfl, by decide +kernel, by decide +kernel⟩
theorem ok_fewest_mirrored_moved {C0 : Addr} (hcls : Cls K C0) (nat_goal : NoAttr K C0 "goal") (nat_source : NoAttr K C0 "source") (nat_stretch : NoAttr K C0 "stretch") (h_Parts : OKi P w K mg base "Parts" C0 4 ["self", "chart"] (sp_Parts K C0)) (D : DefAt K mg "fewest_mirrored_moved" (topS 57)) (h_is_real : OKs P w K mg base "is_real" 1 ["one"] (sp_is_real K)) (h_is_true_map : OKs P w K mg base "is_true_map" 3 ["chart"] (sp_is_true_map K)) : OKs P w K mg base "fewest_mirrored_moved" 6 ["chart", "kinds"] (sp_fewest_mirrored_moved K) := by
  refine okD (k := 5) D sc57 (fun _ _ _ _ _ _ us hl => match us, hl with | [_, _], _ => rfl) (fun _ => rfl) (fun y hp => ?_)
  refine ?_
  have hx := hp.1
  have hc := hp.2.1
  refine js_set 2 ⟨sc57.nd, rfl, .inl rfl, .inl rfl⟩ (je_make h_Parts (jad (da_cons (de_name 0) da_nil) ⟨y.1, rfl, hp, ?_⟩))
  refine js_ifr (dt_and (dt_eq (de_fld (fun _ h => je_name 2 (h := h)) hcls nat_goal) (de_fld (fun _ h => je_name 2 (h := h)) hcls nat_source)) fun hq => (dt_val (de_call h_is_real (qp (y.1.m.b * y.1.m.c - y.1.m.a * y.1.m.d) (y.1.m.c * y.1.m.c)) (da_cons (de_fld (fun _ h => je_name 2 (h := h)) hcls nat_stretch) da_nil) trivial))) (fun hq1 => js_ret (je de_int ?_)) (fun hq1 => js_ifr (dt_or (dt_inT de_str (de_name 1)) fun hq => (dt_and (dt_inT de_str (de_name 1)) fun hq => (dt_val (de_call h_is_real (qp (y.1.m.b * y.1.m.c - y.1.m.a * y.1.m.d) (y.1.m.c * y.1.m.c)) (da_cons (de_fld (fun _ h => je_name 2 (h := h)) hcls nat_stretch) da_nil) trivial)))) (fun hq2 => js_ret (je de_int ?_)) (fun hq2 => js_ret (je_ifD (dt_val (de_call h_is_true_map y.1 (da_cons (de_name 0) da_nil) hx)) (fun hq3 => (je de_int ?_)) (fun hq3 => (je de_non ?_)))))
  · refine leafI 1 ?_
    try simp only [eG hc, eE hc, eT, Bool.or_eq_true, Bool.and_eq_true, Bool.or_eq_false_iff, Bool.and_eq_false_iff, decide_eq_true_eq, decide_eq_false_iff_not, Bool.not_eq_true, Bool.not_eq_false, Bool.not_eq_eq_eq_not, Bool.not_true, Bool.not_false] at *
    unfold fewMM Mx.Turn
    simp only [kd]
    grind
  · refine leafI 2 ?_
    try simp only [eG hc, eE hc, eT, Bool.or_eq_true, Bool.and_eq_true, Bool.or_eq_false_iff, Bool.and_eq_false_iff, decide_eq_true_eq, decide_eq_false_iff_not, Bool.not_eq_true, Bool.not_eq_false, Bool.not_eq_eq_eq_not, Bool.not_true, Bool.not_false] at *
    unfold fewMM Mx.Turn
    simp only [kd]
    grind
  · refine leafI 3 ?_
    try simp only [eG hc, eE hc, eT, Bool.or_eq_true, Bool.and_eq_true, Bool.or_eq_false_iff, Bool.and_eq_false_iff, decide_eq_true_eq, decide_eq_false_iff_not, Bool.not_eq_true, Bool.not_eq_false, Bool.not_eq_eq_eq_not, Bool.not_true, Bool.not_false] at *
    unfold fewMM Mx.Turn
    simp only [kd]
    grind
  · refine leafN ?_
    try simp only [eG hc, eE hc, eT, Bool.or_eq_true, Bool.and_eq_true, Bool.or_eq_false_iff, Bool.and_eq_false_iff, decide_eq_true_eq, decide_eq_false_iff_not, Bool.not_eq_true, Bool.not_eq_false, Bool.not_eq_eq_eq_not, Bool.not_true, Bool.not_false] at *
    unfold fewMM Mx.Turn
    simp only [kd]
    grind
noncomputable abbrev sp_fewest_of (K : PySem.W.Frag) : Sp := SpD K (α := Ch × List Str) (fun p => [dM p.1, .tuple (p.2.map .str)]) (fun p => Ok 1900 p.1) (fun p => resO (p.1.few (kd p.2)))
theorem sc58 : FnScope ["chart", "kinds"] ["chart", "kinds"] (defScope (topS 58)) := ⟨rfl, rfl, rfl, by decide +kernel, rfl, by decide +kernel, by decide +kernel⟩
theorem ok_fewest_of (D : DefAt K mg "fewest_of" (topS 58)) (c_STAYS : CnK K mg "STAYS" (dM still)) (c_ZERO : CnK K mg "ZERO" (dC 0)) (h_fewest_plain_moved : OKs P w K mg base "fewest_plain_moved" 5 ["chart", "kinds"] (sp_fewest_plain_moved K)) (h_fewest_mirrored_moved : OKs P w K mg base "fewest_mirrored_moved" 6 ["chart", "kinds"] (sp_fewest_mirrored_moved K)) (h_fewest_plain_kept : OKs P w K mg base "fewest_plain_kept" 5 ["chart", "kinds"] (sp_fewest_plain_kept K)) (h_fewest_mirrored_kept : OKs P w K mg base "fewest_mirrored_kept" 7 ["chart", "kinds"] (sp_fewest_mirrored_kept K)) : OKs P w K mg base "fewest_of" 8 ["chart", "kinds"] (sp_fewest_of K) := by
  refine okD (k := 7) D sc58 (fun _ _ _ _ _ _ us hl => match us, hl with | [_, _], _ => rfl) (fun _ => rfl) (fun y hp => ?_)
  refine ?_
  have st : y.1 = still ↔ Stays y.1.f y.1.m := by
    constructor
    · intro h; rw [h]; exact ⟨rfl, rfl, rfl, rfl⟩
    · rintro ⟨h1, h2, h3, h4⟩
      have := hp.form.stay h2 h3 h4
      obtain ⟨⟨f, m⟩, ks⟩ := y
      simp only at h1 this
      rw [h1, this]; rfl
  refine js_ifr (dt_eq (de_name 0) (de_glob c_STAYS)) (fun hq1 => js_ret (je de_int ?_)) (fun hq1 => ?_)
  · rw [eqv_M, decide_eq_true_eq] at hq1
    refine leafI 0 ?_
    unfold Ch.few few
    rw [if_pos (st.mp hq1)]
  rw [eqv_M, decide_eq_false_iff_not] at hq1
  have ns : ¬ Stays y.1.f y.1.m := fun h => hq1 (st.mpr h)
  refine js_ifr (dt_eq (de_ixT (de_name 0) de_int) (de_glob c_ZERO)) (fun hq2 => js_ret (je_ifD (dt_eq (de_ixT (de_name 0) de_int) de_int) (fun hq3 => ?_) (fun hq3 => ?_))) (fun hq2 => ?_)
  · rw [eqv_C, decide_eq_true_eq] at hq2
    rw [dF0] at hq3
    have kc := hq2
    have kf : y.1.f = false := by simpa using hq3
    refine je (de_call h_fewest_plain_kept y (da_cons (de_name 0) (da_cons (de_name 1) da_nil)) ⟨hp, kc⟩) ?_
    show SV.dat (resO _) = SV.dat (resO _)
    unfold Ch.few few
    rw [if_neg ns, if_pos kc, kf]
    rfl
  · rw [eqv_C, decide_eq_true_eq] at hq2
    rw [dF0] at hq3
    have kc := hq2
    have kf : y.1.f = true := by simpa using hq3
    refine je (de_call h_fewest_mirrored_kept y (da_cons (de_name 0) (da_cons (de_name 1) da_nil)) ⟨hp, kc, kf⟩) ?_
    show SV.dat (resO _) = SV.dat (resO _)
    unfold Ch.few few
    rw [if_neg ns, if_pos kc, kf]
    rfl
  rw [eqv_C, decide_eq_false_iff_not] at hq2
  have kc := hq2
  refine js_ifr (dt_ninT de_str (de_name 1)) (fun hq4 => js_ret (je de_non ?_)) (fun hq4 => js_ret (je_ifD (dt_eq (de_ixT (de_name 0) de_int) de_int) (fun hq3 => ?_) (fun hq3 => ?_)))
  · refine leafN ?_
    unfold Ch.few few
    rw [if_neg ns, if_neg kc, if_pos]
    simp only [kd]
    simpa using hq4
  · have kt : ¬ ¬ (kd y.2).tu = true := by
      simp only [kd]
      simpa using hq4
    rw [dF0] at hq3
    have kf : y.1.f = false := by simpa using hq3
    refine je (de_call h_fewest_plain_moved y (da_cons (de_name 0) (da_cons (de_name 1) da_nil)) ⟨hp, kc⟩) ?_
    show SV.dat (resO _) = SV.dat (resO _)
    unfold Ch.few few
    rw [if_neg ns, if_neg kc, if_neg kt, kf]
    rfl
  · have kt : ¬ ¬ (kd y.2).tu = true := by
      simp only [kd]
      simpa using hq4
    rw [dF0] at hq3
    have kf : y.1.f = true := by simpa using hq3
    refine je (de_call h_fewest_mirrored_moved y (da_cons (de_name 0) (da_cons (de_name 1) da_nil)) ⟨hp, kc, kf⟩) ?_
    show SV.dat (resO _) = SV.dat (resO _)
    unfold Ch.few few
    rw [if_neg ns, if_neg kc, if_neg kt, kf]
    rfl
noncomputable abbrev sp_fewest_cells (K : PySem.W.Frag) : Sp := SpD K (α := Ch × List Str) (fun p => [dM p.1, .tuple (p.2.map .str)]) (fun p => Ok 1900 p.1 ∧ p.2.Nodup ∧ (∀ z ∈ p.2, z ∈ wordsS) ∧ p.2.length ≤ 1000) (fun p => resO (p.1.few (kd p.2)))
theorem sc59 : FnScope ["chart", "kinds"] ["chart", "kinds"] (defScope (topS 59)) := ⟨rfl, rfl, rfl, by decide +kernel, rfl, by decide +kernel, by decide +kernel⟩
theorem ok_fewest_cells (D : DefAt K mg "fewest_cells" (topS 59)) (h_check_map : OKs P w K mg base "check_map" 6 ["value"] (sp_check_map K)) (h_check_kinds : OKs P w K mg base "check_kinds" 1 ["value"] (sp_check_kinds K)) (h_fewest_of : OKs P w K mg base "fewest_of" 8 ["chart", "kinds"] (sp_fewest_of K)) : OKs P w K mg base "fewest_cells" 9 ["chart", "kinds"] (sp_fewest_cells K) := by
  refine okD (k := 8) D sc59 (fun _ _ _ _ _ _ us hl => match us, hl with | [_, _], _ => rfl) (fun _ => rfl) (fun y hp => ?_)
  refine js_expr (jed .none (de_call h_check_map y.1 (da_cons (de_name 0) da_nil) hp.1.form) (js_expr (jed .none (de_call h_check_kinds y.2 (da_cons (de_name 1) da_nil) ⟨hp.2.1, hp.2.2.1, hp.2.2.2⟩) (js_ret (je (de_call h_fewest_of y (da_cons (de_name 0) (da_cons (de_name 1) da_nil)) hp.1) rfl)))))
theorem okk_fewest_cells (D : DefAt K mg "fewest_cells" (topS 59)) (h_check_map : OKs P w K mg base "check_map" 6 ["value"] (sp_check_map K)) (h_check_kinds : OKs P w K mg base "check_kinds" 1 ["value"] (sp_check_kinds K)) (h_fewest_of : OKs P w K mg base "fewest_of" 8 ["chart", "kinds"] (sp_fewest_of K)) : OKk P w K mg base "fewest_cells" 9 ["chart", "kinds"] (sp_fewest_cells K) := by
  refine okK (k := 8) D sc59 (fun _ _ _ _ _ _ ws hl => match ws, hl with | [_, _], _ => rfl) (fun z => nomatch z) (fun _ => rfl) (fun y hp => ?_)
  refine js_expr (jed .none (de_call h_check_map y.1 (da_cons (de_name 0) da_nil) hp.1.form) (js_expr (jed .none (de_call h_check_kinds y.2 (da_cons (de_name 1) da_nil) ⟨hp.2.1, hp.2.2.1, hp.2.2.2⟩) (js_ret (je (de_call h_fewest_of y (da_cons (de_name 0) (da_cons (de_name 1) da_nil)) hp.1) rfl)))))
end K79
end
section
set_option Elab.async false
set_option linter.all false
set_option maxRecDepth 100000
namespace K79
open PySem PySem.Spec PyProof.Rows L2 GI Mx Ch
/-! ### the boxes of the law: cells as they are told -/
inductive Bx where
  | ca (p s r : Int)
  | gr (p s r P S R : Int) (x : PyData)
  | tu (p s r n m : Int) (x : PyData)
  | mi (l m k : Int)
namespace Bx
def dat : Bx → PyData
  | .ca p s r => .tuple [.str "carry", dP (p, s, r)]
  | .gr p s r P S R x => .tuple [.str "grow", dP (p, s, r), dP (P, S, R), x]
  | .tu p s r n m x => .tuple [.str "turnabout", dP (p, s, r), .tuple [.int n, .int m], x]
  | .mi l m k => .tuple [.str "mirror", .tuple [.int 0, .int l, .int m, .int k]]
def word : Bx → Str
  | .ca .. => "carry"
  | .gr .. => "grow"
  | .tu .. => "turnabout"
  | .mi .. => "mirror"
def kind : Bx → Kind
  | .ca .. => .ca
  | .gr .. => .gr
  | .tu .. => .tu
  | .mi .. => .mi
def f : Bx → Bool
  | .ca .. => false
  | .gr .. => false
  | .tu .. => true
  | .mi .. => true
def raw : Bx → Mx
  | .ca p s r => ⟨⟨r, 0⟩, ⟨p, s⟩, ⟨0, 0⟩, ⟨r, 0⟩⟩
  | .gr p s r P S R _ => ⟨⟨P, S⟩ * ⟨r, 0⟩, ⟨p, s⟩ * (⟨R, 0⟩ - ⟨P, S⟩), ⟨0, 0⟩, ⟨R * r, 0⟩⟩
  | .tu p s r n m _ => ⟨⟨p * r * m, s * r * m⟩, ⟨n * r * r - (p * p + s * s) * m, 0⟩, ⟨r * r * m, 0⟩, ⟨0 - p * r * m, s * r * m⟩⟩
  | .mi l m k => ⟨⟨0 - l, 0 - m⟩, ⟨0 - 2 * k, 0⟩, ⟨0, 0⟩, ⟨l, 0 - m⟩⟩
def T (i : Int) : Prop := i.natAbs < 2 ^ 10
def U (i : Int) : Prop := i.natAbs < 2 ^ 20
def ok : Bx → Prop
  | .ca p s r => T p ∧ T s ∧ T r ∧ 0 < r
  | .gr p s r P S R _ => T p ∧ T s ∧ T r ∧ 0 < r ∧ U P ∧ U S ∧ U R ∧ 0 < R ∧ (P ≠ 0 ∨ S ≠ 0) ∧ (P ≠ R ∨ S ≠ 0)
  | .tu p s r n m _ => T p ∧ T s ∧ T r ∧ 0 < r ∧ T n ∧ n ≠ 0 ∧ T m ∧ 0 < m
  | .mi l m k => T l ∧ T m ∧ T k ∧ (l ≠ 0 ∨ m ≠ 0)
def cell (b : Bx) : Ch := ⟨b.f, b.raw.form⟩
end Bx
theorem gi_ne {a b : Int} (h : a ≠ 0 ∨ b ≠ 0) : (⟨a, b⟩ : GI) ≠ 0 := fun e => by
  have e1 : a = 0 := congrArg GI.re e
  have e2 : b = 0 := congrArg GI.im e
  rcases h with h | h
  · exact h e1
  · exact h e2
theorem Sz.nlt {n m : Nat} {z : GI} (h : Sz n z) (hm : n + n + 1 ≤ m := by decide) : GI.nrm z < 2 ^ m := by
  have h1 := nz h.nrm hm
  have h2 := nrm_nonneg z
  have h3 : (((GI.nrm z).natAbs : Nat) : Int) = GI.nrm z := Int.natAbs_of_nonneg h2
  rw [← h3, ← pow_cast]
  exact Int.ofNat_lt.mpr h1
theorem bd0 {n : Nat} : GI.nrm 0 < 2 ^ n := by rw [nrm_zero]; exact pow2_pos n
theorem sz0 {n : Nat} {i : Int} (h : i.natAbs < 2 ^ n) : Sz n ⟨i, 0⟩ := ⟨h, by show (0 : Int).natAbs < _; rw [Int.natAbs_zero]; exact Nat.two_pow_pos n⟩
theorem ab_neg0 {n : Nat} {i : Int} (h : i.natAbs < 2 ^ n) : (0 - i).natAbs < 2 ^ n := by rw [Int.zero_sub, Int.natAbs_neg]; exact h
theorem Bx.bd {b : Bx} (h : b.ok) : Bd 100 b.raw := by
  cases b with
  | ca p s r =>
    obtain ⟨h1, h2, h3, h4⟩ := h
    exact ⟨(sz0 h3).nlt, Sz.nlt (n := 10) ⟨h1, h2⟩, bd0, (sz0 h3).nlt⟩
  | gr p s r P S R x =>
    obtain ⟨h1, h2, h3, h4, h5, h6, h7, h8, h9, h10⟩ := h
    have h56 : Sz 20 (⟨P, S⟩ : GI) := ⟨h5, h6⟩
    have h12 : Sz 10 (⟨p, s⟩ : GI) := ⟨h1, h2⟩
    have ha : Sz 31 ((⟨P, S⟩ : GI) * ⟨r, 0⟩) := Sz.mul h56 (sz0 h3)
    have hd : Sz 21 ((⟨R, 0⟩ : GI) - ⟨P, S⟩) := Sz.sub (sz0 h7) h56
    have hb : Sz 32 ((⟨p, s⟩ : GI) * ((⟨R, 0⟩ : GI) - ⟨P, S⟩)) := Sz.mul h12 hd
    exact ⟨Sz.nlt (n := 31) ha, Sz.nlt (n := 32) hb, bd0, Sz.nlt (n := 30) (sz0 (ab_mul h7 h3))⟩
  | tu p s r n m x =>
    obtain ⟨h1, h2, h3, h4, h5, h6, h7, h8⟩ := h
    refine ⟨Sz.nlt (n := 30) ⟨ab_mul (ab_mul h1 h3) h7, ab_mul (ab_mul h2 h3) h7⟩, Sz.nlt (n := 32) (sz0 (ab_sub (nz (ab_mul (ab_mul h5 h3) h3) (by decide)) (ab_mul (ab_add (ab_mul h1 h1) (ab_mul h2 h2)) h7))), Sz.nlt (n := 30) (sz0 (ab_mul (ab_mul h3 h3) h7)), Sz.nlt (n := 30) ⟨?_, ab_mul (ab_mul h2 h3) h7⟩⟩
    exact ab_neg0 (ab_mul (ab_mul h1 h3) h7)
  | mi l m k =>
    obtain ⟨h1, h2, h3, h4⟩ := h
    exact ⟨Sz.nlt (n := 10) ⟨ab_neg0 h1, ab_neg0 h2⟩, Sz.nlt (n := 20) (sz0 (ab_neg0 (nz (ab_mul (n := 2) (i := 2) (by decide) h3) (by decide)))), bd0, Sz.nlt (n := 10) ⟨h1, ab_neg0 h2⟩⟩
theorem Bx.cellL {b : Bx} (h : b.ok) : CellL b.kind b.f b.raw := by
  cases b with
  | ca p s r =>
    obtain ⟨h1, h2, h3, h4⟩ := h
    refine ⟨?_, rfl, rfl, rfl⟩
    have hr : (⟨r, 0⟩ : GI) ≠ 0 := gi_ne (.inl (by omega))
    have := mul_ne_zero hr hr
    show (⟨r, 0⟩ : GI) * ⟨r, 0⟩ - ⟨p, s⟩ * ⟨0, 0⟩ ≠ 0
    have e : (⟨r, 0⟩ : GI) * ⟨r, 0⟩ - ⟨p, s⟩ * (0 : GI) = (⟨r, 0⟩ : GI) * ⟨r, 0⟩ := by grind
    intro z
    exact this (e.symm.trans z)
  | gr p s r P S R x =>
    obtain ⟨h1, h2, h3, h4, h5, h6, h7, h8, h9, h10⟩ := h
    have hr : (⟨r, 0⟩ : GI) ≠ 0 := gi_ne (.inl (by omega))
    have hR : (⟨R, 0⟩ : GI) ≠ 0 := gi_ne (.inl (by omega))
    have hP : (⟨P, S⟩ : GI) ≠ 0 := gi_ne h9
    have eR : (⟨R * r, 0⟩ : GI) = ⟨R, 0⟩ * ⟨r, 0⟩ := by
      ext
      · show R * r = R * r - 0 * 0; omega
      · show (0 : Int) = R * 0 + 0 * r; omega
    have hne : (⟨P, S⟩ : GI) ≠ ⟨R, 0⟩ := fun e => by
      have e1 : P = R := congrArg GI.re e
      have e2 : S = 0 := congrArg GI.im e
      rcases h10 with q | q
      · exact q e1
      · exact q e2
    refine ⟨?_, rfl, rfl, ?_⟩
    · have := mul_ne_zero (mul_ne_zero hP hr) (mul_ne_zero hR hr)
      show (⟨P, S⟩ : GI) * ⟨r, 0⟩ * ⟨R * r, 0⟩ - ⟨p, s⟩ * (⟨R, 0⟩ - ⟨P, S⟩) * (0 : GI) ≠ 0
      rw [eR]
      intro z
      apply this
      rw [← z]; grind
    · show (⟨P, S⟩ : GI) * ⟨r, 0⟩ ≠ ⟨R * r, 0⟩
      rw [eR]
      exact fun z => hne (mul_cancel hr (by grind))
  | tu p s r n m x =>
    obtain ⟨h1, h2, h3, h4, h5, h6, h7, h8⟩ := h
    have hc : (⟨r * r * m, 0⟩ : GI) ≠ 0 := gi_ne (.inl (Int.mul_ne_zero (Int.mul_ne_zero (by omega) (by omega)) (by omega)))
    have ed : (Bx.tu p s r n m x).raw.det = ⟨-(n * m * (r * r) * (r * r)), 0⟩ := by
      ext
      · show (p * r * m * (0 - p * r * m) - s * r * m * (s * r * m)) - ((n * r * r - (p * p + s * s) * m) * (r * r * m) - 0 * 0) = _
        grind
      · show (p * r * m * (s * r * m) + s * r * m * (0 - p * r * m)) - ((n * r * r - (p * p + s * s) * m) * 0 + 0 * (r * r * m)) = 0
        grind
    refine ⟨?_, rfl, hc, ?_, ?_⟩
    · rw [ed]
      refine gi_ne (.inl ?_)
      have : n * m * (r * r) * (r * r) ≠ 0 := Int.mul_ne_zero (Int.mul_ne_zero (Int.mul_ne_zero h6 (by omega)) (Int.mul_ne_zero (by omega) (by omega))) (Int.mul_ne_zero (by omega) (by omega))
      omega
    · unfold Mx.GH
      ext
      · show (p * r * m * (r * r * m) - s * r * m * (-0)) + ((0 - p * r * m) * (r * r * m) - -(s * r * m) * 0) = 0
        grind
      · show (p * r * m * (-0) + s * r * m * (r * r * m)) + ((0 - p * r * m) * 0 + -(s * r * m) * (r * r * m)) = 0
        grind
    · unfold Mx.ER
      rw [ed]
      have e1 : GI.bar (⟨-(n * m * (r * r) * (r * r)), 0⟩ : GI) = ⟨-(n * m * (r * r) * (r * r)), 0⟩ := by
        ext
        · rfl
        · show -(0 : Int) = 0; rfl
      have e2 : GI.bar (Bx.tu p s r n m x).raw.c = (Bx.tu p s r n m x).raw.c := by
        ext
        · rfl
        · show -(0 : Int) = 0; rfl
      rw [e1, e2]
  | mi l m k =>
    obtain ⟨h1, h2, h3, h4⟩ := h
    have ed : (Bx.mi l m k).raw.det = ⟨-(l * l + m * m), 0⟩ := by
      ext
      · show ((0 - l) * l - (0 - m) * (0 - m)) - ((0 - 2 * k) * 0 - 0 * 0) = _
        grind
      · show ((0 - l) * (0 - m) + (0 - m) * l) - ((0 - 2 * k) * 0 + 0 * 0) = 0
        grind
    refine ⟨?_, rfl, rfl, ?_, ?_⟩
    · rw [ed]
      refine gi_ne (.inl ?_)
      have q : nrm ⟨l, m⟩ ≠ 0 := nrm_ne (gi_ne h4)
      have q2 : l * l + m * m ≠ 0 := q
      omega
    · unfold Mx.Size1
      ext
      · show (0 - l) * (0 - l) - (0 - m) * (-(0 - m)) = l * l - (0 - m) * (-(0 - m))
        grind
      · show (0 - l) * (-(0 - m)) + (0 - m) * (0 - l) = l * (-(0 - m)) + (0 - m) * l
        grind
    · ext
      · show ((0 - l) * (0 - 2 * k) - (0 - m) * (-0)) + ((0 - 2 * k) * l - 0 * (-(0 - m))) = 0
        grind
      · show ((0 - l) * (-0) + (0 - m) * (0 - 2 * k)) + ((0 - 2 * k) * (-(0 - m)) + 0 * l) = 0
        grind
theorem Bx.isCell {b : Bx} (h : b.ok) : IsCell b.kind b.cell :=
  ⟨form_ok (Bx.cellL h).det (Bx.bd h) (by decide), cell_form ((Bx.bd h).lo (by decide)) (Bx.cellL h)⟩
end K79
end
section
set_option Elab.async false
set_option linter.all false
set_option maxRecDepth 100000
namespace K79
open PySem PySem.Spec PyProof.Rows L2 GI Mx Ch
variable {P : Program} {w : World} {K : PySem.W.Frag} {mg : Str → Option Value} {base : Heap}

theorem abs_if (i : Int) : (if i < 0 then -i else i) = ((i.natAbs : Nat) : Int) := by split <;> omega
abbrev sp__law_gcd (K : PySem.W.Frag) : Sp := SpD K (α := Int × Int) (fun p => [.int p.1, .int p.2]) (fun _ => True) (fun p => .int ((Nat.gcd p.1.natAbs p.2.natAbs : Nat) : Int))
theorem sc66 : FnScope ["_law_one", "_law_two"] ["_law_one", "_law_two"] (defScope (topS 66)) := ⟨rfl, rfl, rfl, by decide +kernel, rfl, by decide +kernel, by decide +kernel⟩
theorem ok__law_gcd (D : DefAt K mg "_law_gcd" (topS 66)) (n_abs : mg "abs" = none) (n_int : mg "int" = none) : OKs P w K mg base "_law_gcd" 1 ["_law_one", "_law_two"] (sp__law_gcd K) := by
  refine okD (k := 0) D sc66 (fun _ _ _ _ _ _ us hl => match us, hl with | [_, _], _ => rfl) (fun _ => rfl) (fun y hp => ?_)
  refine js_par 0 1 rfl rfl (by decide) sc66.nd rfl rfl (jed (.int ((y.1.natAbs : Nat) : Int)) (DE.is (de_abs n_abs (de_name 0)) (by rw [abs_if])) (jed (.int ((y.2.natAbs : Nat) : Int)) (DE.is (de_abs n_abs (de_name 1)) (by rw [abs_if])) (?_)))
  refine js_while (fun m δ' μ' => μ' = [] ∧ ∃ a : Nat, δ' = [some (.dat (.int (a : Int))), some (.dat (.int (m : Int)))] ∧ Nat.gcd a m = Nat.gcd y.1.natAbs y.2.natAbs) y.2.natAbs ⟨rfl, _, rfl, rfl⟩ fun m δ' μ' iv => ?_
  obtain ⟨rfl, a, rfl, hg⟩ := iv
  refine ⟨_, (dt_gt (de_name 1) de_int), fun hq => ?_, fun hq => ?_⟩
  · have hm : 0 < m := by
      have := of_decide_eq_true hq
      omega
    exact js_par 0 1 rfl rfl (by decide) sc66.nd rfl rfl (jed (.int (m : Int)) (de_name 1) (jed (.int ((a % m : Nat) : Int)) (DE.is (de_mod (Int.natCast_pos.mpr hm : (0 : Int) < (m : Int)) (de_intc n_int (de_name 0)) (de_name 1)) (by rw [Int.natCast_emod])) (js_nil ⟨a % m, Nat.mod_lt _ hm, rfl, m, rfl, by rw [← hg, Nat.gcd_comm a m, Nat.gcd_rec m a, Nat.gcd_comm]⟩)))
  · have hm : m = 0 := by
      have := of_decide_eq_false hq
      omega
    subst hm
    rw [Nat.gcd_zero_right] at hg
    exact js_ret (je (de_name 0) (by rw [← hg]))
def thinL (l : List Int) : List Int := if 1 < gcdI l then l.map (· / gcdI l) else l
theorem gcdI_nn (l : List Int) : 0 ≤ gcdI l := by
  unfold gcdI
  have : ∀ (l : List Int) (g : Int), 0 ≤ g → 0 ≤ l.foldl (fun g i => ((Nat.gcd g.natAbs i.natAbs : Nat) : Int)) g := by
    intro l
    induction l with
    | nil => exact fun g h => h
    | cons x r ih => exact fun g h => ih _ (Int.natCast_nonneg _)
  exact this l 0 (Int.le_refl 0)
abbrev sp__law_thin (K : PySem.W.Frag) : Sp := SpD K (α := List Int) (fun l => [.list (l.map .int)]) (fun l => l.length ≤ 1000 ∧ (gcdI l).natAbs < 2 ^ 8900) (fun l => .tuple ((thinL l).map .int))
theorem sc67 : FnScope ["_law_some", "_law_deep", "_law_each"] ["_law_some"] (defScope (topS 67)) := ⟨rfl, rfl, rfl, by decide +kernel, rfl, by decide +kernel, by decide +kernel⟩
theorem ok__law_thin (D : DefAt K mg "_law_thin" (topS 67)) (h__law_gcd : OKs P w K mg base "_law_gcd" 1 ["_law_one", "_law_two"] (sp__law_gcd K)) (n_tuple : mg "tuple" = none) : OKs P w K mg base "_law_thin" 2 ["_law_some"] (sp__law_thin K) := by
  refine okD (k := 1) D sc67 (fun _ _ _ _ _ _ us hl => match us, hl with | [_], _ => rfl) (fun _ => rfl) (fun y hp => ?_)
  refine js_setD 1 ⟨sc67.nd, rfl, .inr rfl, .inl rfl⟩ de_int ?_
  refine js_forL (ds := y.map .int) 2 ⟨sc67.nd, rfl, .inl rfl, .inl rfl⟩ (fun n δ' μ' => μ' = [] ∧ ∃ s2, δ' = [some (.dat (.list (y.map .int))), some (.dat (.int ((y.take n).foldl (fun g i => ((Nat.gcd g.natAbs i.natAbs : Nat) : Int)) 0))), s2]) (je (de_name 0) ⟨rfl, rfl, _, rfl⟩) (fun n d δ' μ' hd iv => ?_) (fun δ' μ' iv => ?_)
  · obtain ⟨rfl, s2, rfl⟩ := iv
    obtain ⟨z, rfl, hz⟩ := map_at hd
    refine js_setD (d := .int ((y.take (n + 1)).foldl (fun g i => ((Nat.gcd g.natAbs i.natAbs : Nat) : Int)) 0)) 1 ⟨sc67.nd, rfl, .inr rfl, .inl rfl⟩ (DE.is (de_call h__law_gcd (_, _) (da_cons (de_name 1) (da_cons (de_name 2) da_nil)) trivial) ?_) (js_nil ⟨rfl, _, rfl⟩)
    rw [foldl_take hz]
  · obtain ⟨rfl, s2, rfl⟩ := iv
    have e : (y.take (y.map PyData.int).length).foldl (fun g i => ((Nat.gcd g.natAbs i.natAbs : Nat) : Int)) 0 = gcdI y := by rw [List.length_map, List.take_length]; rfl
    rw [e]
    refine js_ret (je_ifD (dt_gt (de_name 1) de_int) (fun hq => je (d := .tuple ((thinL y).map .int)) (de_tupleL n_tuple (DE.is (de_lcL (kk := 2) (fun _ => true) (fun d => .int (toI d / gcdI y)) ⟨sc67.nd, blkOk_by (by dsimp only [fC]; decide +kernel), ⟨sc67.nd, rfl, .inl rfl, .inr rfl⟩⟩ (de_name 0) (by rw [List.length_map]; exact hp.1) (fun d hd => dts_nil) (fun d hd _ => ?_)) ?_)) rfl) (fun hq => je (d := .tuple ((thinL y).map .int)) (DE.is (de_tupleL n_tuple (de_name 0)) ?_) rfl))
    · obtain ⟨z, _, rfl⟩ := List.mem_map.mp hd
      exact de_fdiv ⟨by have := of_decide_eq_true hq; omega, dv1 hp.2⟩ (de_name 2) (de_name 1)
    · rw [outs_all, List.map_map]
      unfold thinL
      rw [if_pos (of_decide_eq_true hq), List.map_map]
      rfl
    · unfold thinL
      rw [if_neg (of_decide_eq_false hq)]
def upF (full : List Int) : List Int → List Int
  | [] => full
  | v :: r => if v ≠ 0 then (if 0 < v then full else full.map (0 - ·)) else upF full r
abbrev sp__law_upright (K : PySem.W.Frag) : Sp := SpD K (α := List Int) (fun l => [.tuple (l.map .int)]) (fun l => l.length ≤ 1000) (fun l => .tuple ((upF l l).map .int))
theorem sc68 : FnScope ["_law_some", "_law_each", "_law_k"] ["_law_some"] (defScope (topS 68)) := ⟨rfl, rfl, rfl, by decide +kernel, rfl, by decide +kernel, by decide +kernel⟩
theorem ok__law_upright (D : DefAt K mg "_law_upright" (topS 68)) (n_tuple : mg "tuple" = none) : OKs P w K mg base "_law_upright" 1 ["_law_some"] (sp__law_upright K) := by
  refine okD (k := 0) D sc68 (fun _ _ _ _ _ _ us hl => match us, hl with | [_], _ => rfl) (fun _ => rfl) (fun y hp => ?_)
  refine js_forT (ds := y.map .int) 1 ⟨sc68.nd, rfl, .inl rfl, .inl rfl⟩ (fun n δ' μ' => μ' = [] ∧ ∃ s1 s2, δ' = [some (.dat (.tuple (y.map .int))), s1, s2] ∧ upF y y = upF y (y.drop n)) (je (de_name 0) ⟨rfl, rfl, _, _, rfl, rfl⟩) (fun n d δ' μ' hd iv => ?_) (fun δ' μ' iv => ?_)
  · obtain ⟨rfl, s1, s2, rfl, hu⟩ := iv
    obtain ⟨z, rfl, hz⟩ := map_at hd
    have ed : y.drop n = z :: y.drop (n + 1) := by
      obtain ⟨hn, ez⟩ := List.getElem?_eq_some_iff.mp hz
      rw [← ez]; exact List.drop_eq_getElem_cons hn
    rw [ed, upF] at hu
    refine js_ifr (dt_ne (de_name 1) de_int) (fun hq => js_ret (je_ifD (dt_gt (de_name 1) de_int) (fun hq2 => je (de_tupleT n_tuple (de_name 0)) ?_) (fun hq2 => je (de_tupleL n_tuple (de_lcT (kk := 2) (fun _ => true) (fun d => .int (0 - toI d)) ⟨sc68.nd, blkOk_by (by dsimp only [fC]; decide +kernel), ⟨sc68.nd, rfl, .inl rfl, .inr rfl⟩⟩ (de_name 0) (by rw [List.length_map]; exact hp) (fun d hd => dts_nil) (fun d hd _ => ?_))) ?_))) (fun hq => js_nil ⟨rfl, _, _, rfl, ?_⟩)
    · rw [eqv_int] at hq
      have hz0 : z ≠ 0 := by simpa using hq
      have hz1 := of_decide_eq_true hq2
      rw [hu, if_pos hz0, if_pos hz1]
    · obtain ⟨v, _, rfl⟩ := List.mem_map.mp hd
      exact de_sub de_int (de_name 2)
    · rw [eqv_int] at hq
      have hz0 : z ≠ 0 := by simpa using hq
      have hz1 := of_decide_eq_false hq2
      rw [outs_all, List.map_map, hu, if_pos hz0, if_neg hz1, List.map_map]
      rfl
    · rw [eqv_int] at hq
      have hz0 : z = 0 := by simpa using hq
      rw [hu, if_neg (fun h => h hz0)]
  · obtain ⟨rfl, s1, s2, rfl, hu⟩ := iv
    refine js_ret (je (de_tupleT n_tuple (de_name 0)) ?_)
    rw [hu, List.length_map, List.drop_length]
    rfl
abbrev sp__law_over (K : PySem.W.Frag) : Sp := SpD K (α := GI × GI) (fun p => [dC p.1, dC p.2]) (fun p => p.2 ≠ 0 ∧ Sz 2000 p.1 ∧ Sz 2000 p.2) (fun p => dC (quo p.1 p.2))
theorem sc74 : FnScope ["_law_one", "_law_two", "_law_top", "_law_deep"] ["_law_one", "_law_two"] (defScope (topS 74)) := ⟨rfl, rfl, rfl, by decide +kernel, rfl, by decide +kernel, by decide +kernel⟩
theorem ok__law_over (D : DefAt K mg "_law_over" (topS 74)) (h__law_times : OKs P w K mg base "_law_times" 1 ["_law_one", "_law_two"] (sp__law_times K)) (h__law_norm : OKs P w K mg base "_law_norm" 1 ["_law_one"] (sp__law_norm K)) (h__law_bar : OKs P w K mg base "_law_bar" 1 ["_law_one"] (sp__law_bar K)) : OKs P w K mg base "_law_over" 2 ["_law_one", "_law_two"] (sp__law_over K) := by
  refine okD (k := 1) D sc74 (fun _ _ _ _ _ _ us hl => match us, hl with | [_, _], _ => rfl) (fun _ => rfl) (fun y hp => ?_)
  refine ?_
  have hn : 0 < nrm y.2 ∧ (nrm y.2).natAbs < 2 ^ 8900 := ⟨nrm_pos hp.1, nz hp.2.2.nrm (by decide)⟩
  exact js_par 2 3 rfl rfl (by decide) sc74.nd rfl rfl (jed (dC (y.1 * GI.bar y.2)) (de_call h__law_times (y.1, GI.bar y.2) (da_cons (de_name 0) (da_cons (de_call h__law_bar y.2 (da_cons (de_name 1) da_nil) trivial) da_nil)) ⟨hp.2.1.mono, hp.2.2.bar.mono⟩) (jed (.int (nrm y.2)) (de_call h__law_norm y.2 (da_cons (de_name 1) da_nil) hp.2.2.mono) (js_ret (je (de_tup (da_cons (de_fdiv ⟨hn.1, dv1 hn.2⟩ (de_ixT (de_name 2) de_int) (de_name 3)) (da_cons (de_fdiv ⟨hn.1, dv1 hn.2⟩ (de_ixT (de_name 2) de_int) (de_name 3)) da_nil))) rfl))))
theorem fd2 {i j : Int} (h : 0 < j ∧ j.natAbs < 2 ^ 8900) : CDivW i (2 * j) := ⟨by omega, dv2 h.2⟩
abbrev sp__law_common (K : PySem.W.Frag) : Sp := SpD K (α := GI × GI) (fun p => [dC p.1, dC p.2]) (fun p => Lo p.1 ∧ Lo p.2) (fun p => dC (gcdO p.1 p.2))
theorem sc75 : FnScope ["_law_one", "_law_two", "_law_turn", "_law_deep", "_law_top", "_law_near"] ["_law_one", "_law_two"] (defScope (topS 75)) := ⟨rfl, rfl, rfl, by decide +kernel, rfl, by decide +kernel, by decide +kernel⟩
theorem ok__law_common (D : DefAt K mg "_law_common" (topS 75)) (n_range : mg "range" = none) (h__law_norm : OKs P w K mg base "_law_norm" 1 ["_law_one"] (sp__law_norm K)) (h__law_times : OKs P w K mg base "_law_times" 1 ["_law_one", "_law_two"] (sp__law_times K)) (h__law_minus : OKs P w K mg base "_law_minus" 1 ["_law_one", "_law_two"] (sp__law_minus K)) (h__law_bar : OKs P w K mg base "_law_bar" 1 ["_law_one"] (sp__law_bar K)) : OKs P w K mg base "_law_common" 2 ["_law_one", "_law_two"] (sp__law_common K) := by
  refine okD (k := 1) D sc75 (fun _ _ _ _ _ _ us hl => match us, hl with | [_, _], _ => rfl) (fun _ => rfl) (fun y hp => ?_)
  refine js_forR 2 ⟨sc75.nd, rfl, .inl rfl, .inl rfl⟩ (fun m δ' μ' => μ' = [] ∧ ∃ x z s2 s3 s4 s5, δ' = [some (.dat (dC x)), some (.dat (dC z)), s2, s3, s4, s5] ∧ Lo x ∧ Lo z ∧ gcdO y.1 y.2 = gcdF (4000 - m) x z) 4000 (by decide) n_range (je de_int ⟨rfl, rfl, _, _, _, _, _, _, rfl, hp.1, hp.2, rfl⟩) (fun m δ' μ' hm iv => ?_) (fun δ' μ' iv => ?_)
  · obtain ⟨rfl, x, z, s2, s3, s4, s5, rfl, la, lb, hg⟩ := iv
    refine js_ifr (dt_eq (de_name 1) (de_tup (da_cons de_int (da_cons de_int da_nil)))) (fun hq => js_brk ?_) (fun hq => ?_)
    · have hz : z = 0 := by
        rw [show PyData.tuple [.int 0, .int 0] = dC 0 from rfl, eqv_C] at hq
        exact of_decide_eq_true hq
      subst hz
      refine js_ret (je (de_name 0) ?_)
      rw [hg, gcdF_zero]
    · have hz : z ≠ 0 := by
        rw [show PyData.tuple [.int 0, .int 0] = dC 0 from rfl, eqv_C] at hq
        exact of_decide_eq_false hq
      have hn := nr0 lb hz
      refine js_par 3 4 rfl rfl (by decide) sc75.nd rfl rfl (jed (.int (nrm z)) (de_call h__law_norm z (da_cons (de_name 1) da_nil) lb.sz.mono) (jed (dC (x * GI.bar z)) (de_call h__law_times (x, GI.bar z) (da_cons (de_name 0) (da_cons (de_call h__law_bar z (da_cons (de_name 1) da_nil) trivial) da_nil)) ⟨la.sz.mono, lb.sz.bar.mono⟩) (?_)))
      refine js_setD (d := dC (quoG x z)) 5 ⟨sc75.nd, rfl, .inl rfl, .inl rfl⟩ (de_tup (da_cons (de_fdiv (fd2 hn) (de_add (de_mul (cm (n := 2) (by decide) (nz (Sz.mul la.sz lb.sz.bar).1 (by decide : (_ : Nat) ≤ 200000))) de_int (de_ixT (de_name 4) de_int)) (de_name 3)) (de_mul (cm (n := 2) (by decide) hn.2) de_int (de_name 3))) (da_cons (de_fdiv (fd2 hn) (de_add (de_mul (cm (n := 2) (by decide) (nz (Sz.mul la.sz lb.sz.bar).2 (by decide : (_ : Nat) ≤ 200000))) de_int (de_ixT (de_name 4) de_int)) (de_name 3)) (de_mul (cm (n := 2) (by decide) hn.2) de_int (de_name 3))) da_nil))) ?_
      refine js_par 0 1 rfl rfl (by decide) sc75.nd rfl rfl (jed (dC z) (de_name 1) (jed (dC (stp x z)) (de_call h__law_minus (x, quoG x z * z) (da_cons (de_name 0) (da_cons (de_call h__law_times (quoG x z, z) (da_cons (de_name 5) (da_cons (de_name 1) da_nil)) ⟨quo_sz la lb hz, lb.sz.mono⟩) da_nil)) trivial) (js_nil ⟨rfl, _, _, _, _, _, _, rfl, lb, lo_stp lb hz, ?_⟩)))
      have e : 4000 - m = (4000 - (m + 1)) + 1 := by omega
      rw [hg, e, gcdF, if_neg hz]
  · obtain ⟨rfl, x, z, s2, s3, s4, s5, rfl, la, lb, hg⟩ := iv
    refine js_ret (je (de_name 0) ?_)
    rw [hg]
    rfl
def uq : Nat → GI
  | 0 => 1
  | 1 => ui
  | 2 => -1
  | 3 => -ui
  | _ => 1
theorem uq_succ (z : GI) {m : Nat} (h : m < 4) : z * uq m * ⟨0, 1⟩ = z * uq (m + 1) := by
  have e : (⟨0, 1⟩ : GI) = ui := rfl
  have i2 : ui * ui = -1 := by decide
  rw [e]
  match m, h with
  | 0, _ => show z * 1 * ui = z * ui; grind
  | 1, _ => show z * ui * ui = z * (-1); grind
  | 2, _ => show z * (-1) * ui = z * (-ui); grind
  | 3, _ => show z * (-ui) * ui = z * 1; grind
theorem unitF_at {z : GI} {m : Nat} (hm : m < 4) (hq : QF (z * uq m)) (hb : ∀ j, j < m → ¬ QF (z * uq j)) : unitF z = uq m := by
  unfold unitF
  match m, hm with
  | 0, _ => rw [if_pos (show QF (z * 1) from hq)]; rfl
  | 1, _ => rw [if_neg (show ¬ QF (z * 1) from hb 0 (by decide)), if_pos (show QF (z * ui) from hq)]; rfl
  | 2, _ => rw [if_neg (show ¬ QF (z * 1) from hb 0 (by decide)), if_neg (show ¬ QF (z * ui) from hb 1 (by decide)), if_pos (show QF (z * (-1)) from hq)]; rfl
  | 3, _ => rw [if_neg (show ¬ QF (z * 1) from hb 0 (by decide)), if_neg (show ¬ QF (z * ui) from hb 1 (by decide)), if_neg (show ¬ QF (z * (-1)) from hb 2 (by decide))]; rfl
theorem uq_all {z : GI} (h : z ≠ 0) (hb : ∀ j, j < 4 → ¬ QF (z * uq j)) : False := by
  have q := unitF_qf h
  unfold unitF at q
  rw [if_neg (show ¬ QF (z * 1) from hb 0 (by decide)), if_neg (show ¬ QF (z * ui) from hb 1 (by decide)), if_neg (show ¬ QF (z * (-1)) from hb 2 (by decide))] at q
  exact hb 3 (by decide) q
theorem sz_i : Sz 200000 (⟨0, 1⟩ : GI) := Sz.mono (n := 1) ⟨by decide, by decide⟩
theorem uq_sz (z : GI) (m : Nat) (h : Sz 2000 z) : Sz 4000 (z * uq m) := by
  have q : Sz 1 (uq m) := by
    match m with
    | 0 => exact ⟨by decide, by decide⟩
    | 1 => exact ⟨by decide, by decide⟩
    | 2 => exact ⟨by decide, by decide⟩
    | 3 => exact ⟨by decide, by decide⟩
    | m + 4 =>
      show Sz 1 (1 : GI)
      exact ⟨by decide, by decide⟩
  exact (Sz.mul h q).mono
abbrev sp__law_quarter (K : PySem.W.Frag) : Sp := SpD K (α := GI) (fun z => [dC z]) (fun z => z ≠ 0 ∧ Sz 2000 z) (fun z => dC (z * unitF z))
theorem sc76 : FnScope ["_law_one", "_law_turn"] ["_law_one"] (defScope (topS 76)) := ⟨rfl, rfl, rfl, by decide +kernel, rfl, by decide +kernel, by decide +kernel⟩
theorem ok__law_quarter (D : DefAt K mg "_law_quarter" (topS 76)) (n_range : mg "range" = none) (h__law_times : OKs P w K mg base "_law_times" 1 ["_law_one", "_law_two"] (sp__law_times K)) : OKs P w K mg base "_law_quarter" 2 ["_law_one"] (sp__law_quarter K) := by
  refine okD (k := 1) D sc76 (fun _ _ _ _ _ _ us hl => match us, hl with | [_], _ => rfl) (fun _ => rfl) (fun y hp => ?_)
  refine js_forR 1 ⟨sc76.nd, rfl, .inl rfl, .inl rfl⟩ (fun m δ' μ' => μ' = [] ∧ ∃ s1, δ' = [some (.dat (dC (y * uq m))), s1] ∧ ∀ j, j < m → ¬ QF (y * uq j)) 4 (by decide) n_range (je de_int ⟨rfl, rfl, _, by rw [show y * uq 0 = y from one_form y]; rfl, fun j hj => absurd hj (Nat.not_lt_zero j)⟩) (fun m δ' μ' hm iv => ?_) (fun δ' μ' iv => ?_)
  · obtain ⟨rfl, s1, rfl, hb⟩ := iv
    refine js_ifr (dt_and (dt_gt (de_ixT (de_name 0) de_int) de_int) fun hq => (dt_ge (de_ixT (de_name 0) de_int) de_int)) (fun hq => js_ret (je (de_name 0) ?_)) (fun hq => ?_)
    · have hq' : QF (y * uq m) := by
        simp only [Bool.and_eq_true, decide_eq_true_eq] at hq
        exact hq
      show SV.dat (dC (y * uq m)) = .dat (dC (y * unitF y))
      rw [unitF_at hm hq' hb]
    · refine js_setD (d := dC (y * uq (m + 1))) 0 ⟨sc76.nd, rfl, .inl rfl, .inl rfl⟩ (DE.is (de_call h__law_times (y * uq m, ⟨0, 1⟩) (da_cons (de_name 0) (da_cons (de_tup (da_cons de_int (da_cons de_int da_nil))) da_nil)) ⟨(uq_sz y m hp.2).mono, sz_i⟩) (by rw [← uq_succ y hm])) (js_nil ⟨rfl, _, rfl, fun j hj => ?_⟩)
      rcases Nat.lt_or_ge j m with h | h
      · exact hb j h
      · have : j = m := by omega
        subst this
        intro hq'
        simp only [Bool.and_eq_false_iff, decide_eq_false_iff_not] at hq
        rcases hq with h1 | h1
        · exact h1 hq'.1
        · exact h1 hq'.2
  · obtain ⟨rfl, s1, rfl, hb⟩ := iv
    exact absurd (uq_all hp.1 hb) id
theorem take4 {M : Mx} {n : Nat} {d : PyData} (h : [dC M.a, dC M.b, dC M.c, dC M.d][n]? = some d) : ∃ z, d = dC z ∧ z ∈ M.lst ∧ M.lst[n]? = some z := by
  have e : [dC M.a, dC M.b, dC M.c, dC M.d] = M.lst.map dC := rfl
  rw [e] at h
  obtain ⟨z, e1, e2⟩ := map_at h
  exact ⟨z, e1, List.mem_of_getElem? e2, e2⟩
def firstN : List GI → GI
  | [] => 0
  | z :: r => if z ≠ 0 then z else firstN r
theorem firstN_lst {M : Mx} (hd : M.det ≠ 0) : firstN M.lst = M.fst := by
  unfold fst lst
  simp only [firstN]
  split
  · rfl
  · split
    · rfl
    · split
      · rfl
      · rename_i h1 h2 h3
        have hdd : M.d ≠ 0 := fun e => hd (by unfold Mx.det; rw [e]; grind)
        rw [if_pos hdd]
abbrev sp__law_form (K : PySem.W.Frag) : Sp := SpD K (α := Bool × Mx) (fun p => [dF p.1, .list [dC p.2.a, dC p.2.b, dC p.2.c, dC p.2.d]]) (fun p => p.2.Lo ∧ p.2.det ≠ 0) (fun p => dM ⟨p.1, p.2.form⟩)
theorem sc77 : FnScope ["_law_side", "_law_some", "_law_deep", "_law_each", "_law_unit", "_law_one"] ["_law_side", "_law_some"] (defScope (topS 77)) := ⟨rfl, rfl, rfl, by decide +kernel, rfl, by decide +kernel, by decide +kernel⟩
theorem ok__law_form (D : DefAt K mg "_law_form" (topS 77)) (n_list : mg "list" = none) (h__law_common : OKs P w K mg base "_law_common" 2 ["_law_one", "_law_two"] (sp__law_common K)) (h__law_over : OKs P w K mg base "_law_over" 2 ["_law_one", "_law_two"] (sp__law_over K)) (h__law_quarter : OKs P w K mg base "_law_quarter" 2 ["_law_one"] (sp__law_quarter K)) (h__law_times : OKs P w K mg base "_law_times" 1 ["_law_one", "_law_two"] (sp__law_times K)) : OKs P w K mg base "_law_form" 3 ["_law_side", "_law_some"] (sp__law_form K) := by
  refine okD (k := 2) D sc77 (fun _ _ _ _ _ _ us hl => match us, hl with | [_, _], _ => rfl) (fun _ => rfl) (fun y hp => ?_)
  refine ?_
  obtain ⟨f, M⟩ := y
  have hl : M.Lo := hp.1
  have hd : M.det ≠ 0 := hp.2
  have ql := qs_lo hl hd
  have qd := qs_det hl hd
  refine js_asg (jed (.tuple [dC 0, .list [dC M.a, dC M.b, dC M.c, dC M.d]]) (de_tup (da_cons (de_tup (da_cons de_int (da_cons de_int da_nil))) (da_cons (de_listL n_list (de_name 1)) da_nil))) (jg_tup (jgs_cons (jg_name (k := 2) ⟨sc77.nd, rfl, .inr rfl, .inl rfl⟩ (jgs_cons (jg_name (k := 1) ⟨sc77.nd, rfl, .inl rfl, .inl rfl⟩ (jgs_nil (?_))))))))
  refine js_forL (ds := [dC M.a, dC M.b, dC M.c, dC M.d]) 3 ⟨sc77.nd, rfl, .inl rfl, .inl rfl⟩ (fun n δ' μ' => μ' = [] ∧ ∃ s3, δ' = [some (.dat (dF f)), some (.dat (.list [dC M.a, dC M.b, dC M.c, dC M.d])), some (.dat (dC ((M.lst.take n).foldl gcdO 0))), s3, none, none]) (je (de_name 1) ⟨rfl, rfl, _, rfl⟩) (fun n d δ' μ' hd' iv => ?_) (fun δ' μ' iv => ?_)
  · obtain ⟨rfl, s3, rfl⟩ := iv
    obtain ⟨z, rfl, hz, hzn⟩ := take4 hd'
    have lg : Lo ((M.lst.take n).foldl gcdO 0) := lo_fold _ _ lo_zero fun z hz => hl z (List.mem_of_mem_take hz)
    refine js_setD (d := dC ((M.lst.take (n + 1)).foldl gcdO 0)) 2 ⟨sc77.nd, rfl, .inr rfl, .inl rfl⟩ (DE.is (de_call h__law_common (_, _) (da_cons (de_name 2) (da_cons (de_name 3) da_nil)) ⟨lg, hl z hz⟩) ?_) (js_nil ⟨rfl, _, rfl⟩)
    rw [foldl_take hzn]
  obtain ⟨rfl, s3, rfl⟩ := iv
  refine js_setLcL (ds := [dC M.a, dC M.b, dC M.c, dC M.d]) (kk := 3) 1 (fun _ => true) (fun d => dC (quo (toC d) M.g)) ⟨sc77.nd, blkOk_by (by dsimp only [fC]; decide +kernel), ⟨sc77.nd, rfl, .inl rfl, .inr rfl⟩⟩ rfl rfl (de_name 1) (Nat.le_of_ble_eq_true rfl) (fun d hd => dts_nil) (fun d hd' _ => ?_) ?_
  · obtain ⟨z, rfl, hz⟩ := mem4 hd'
    exact (de_call h__law_over (z, M.g) (da_cons (de_name 3) (da_cons (de_name 2) da_nil)) ⟨g_ne hl hd, (hl z hz).sz, (g_lo hl).sz⟩)
  refine js_forL (ds := [dC M.qs.a, dC M.qs.b, dC M.qs.c, dC M.qs.d]) 3 ⟨sc77.nd, rfl, .inl rfl, .inl rfl⟩ (fun n δ' μ' => μ' = [] ∧ ∃ s3, δ' = [some (.dat (dF f)), some (.dat (.list [dC M.qs.a, dC M.qs.b, dC M.qs.c, dC M.qs.d])), some (.dat (dC M.g)), s3, none, none] ∧ firstN (M.qs.lst.drop n) = M.qs.fst) (je (de_name 1) ⟨rfl, rfl, _, rfl, firstN_lst qd⟩) (fun n d δ' μ' hd' iv => ?_) (fun δ' μ' iv => ?_)
  · obtain ⟨rfl, s3, rfl, hf⟩ := iv
    obtain ⟨z, rfl, hz, hzn⟩ := take4 hd'
    have ed : M.qs.lst.drop n = z :: M.qs.lst.drop (n + 1) := by
      obtain ⟨hn, ez⟩ := List.getElem?_eq_some_iff.mp hzn
      rw [← ez]; exact List.drop_eq_getElem_cons hn
    rw [ed, firstN] at hf
    refine js_ifr (dt_ne (de_name 3) (de_tup (da_cons de_int (da_cons de_int da_nil)))) (fun hq => ?_) (fun hq => ?_)
    · have hz0 : z ≠ 0 := by
        rw [show PyData.tuple [.int 0, .int 0] = dC 0 from rfl, eqv_C] at hq
        simpa using hq
      rw [if_pos hz0] at hf
      have lu : Lo (z * unitF z) := by
        have := ql z hz
        unfold Lo at *
        rw [nrm_mul, unitF_nrm, Int.mul_one]; exact this
      have eu : quo (z * unitF z) z = unitF M.qs.fst := by
        rw [show z * unitF z = unitF z * z by grind, quo_mul _ _ hz0, hf]
      refine js_setD (d := dC (unitF M.qs.fst)) 4 ⟨sc77.nd, rfl, .inr rfl, .inl rfl⟩ (DE.is (de_call h__law_over (z * unitF z, z) (da_cons (de_call h__law_quarter z (da_cons (de_name 3) da_nil) ⟨hz0, (ql z hz).sz⟩) (da_cons (de_name 3) da_nil)) ⟨hz0, lu.sz, (ql z hz).sz⟩) (by rw [eu])) ?_
      refine js_setLcL (ds := [dC M.qs.a, dC M.qs.b, dC M.qs.c, dC M.qs.d]) (kk := 5) 1 (fun _ => true) (fun d => dC (toC d * unitF M.qs.fst)) ⟨sc77.nd, blkOk_by (by dsimp only [fC]; decide +kernel), ⟨sc77.nd, rfl, .inl rfl, .inr rfl⟩⟩ rfl rfl (de_name 1) (Nat.le_of_ble_eq_true rfl) (fun d hd => dts_nil) (fun d hd' _ => ?_) (js_brk ?_)
      · obtain ⟨u, rfl, hu⟩ := mem4 hd'
        exact (de_call h__law_times (u, unitF M.qs.fst) (da_cons (de_name 5) (da_cons (de_name 4) da_nil)) ⟨(ql u hu).sz.mono, unit_sz _⟩)
      · exact js_ret (je ((de_tup (da_cons (de_name 0) (da_cons (de_ixL (de_name 1) de_int) (da_cons (de_ixL (de_name 1) de_int) (da_cons (de_ixL (de_name 1) de_int) (da_cons (de_ixL (de_name 1) de_int) da_nil))))))) rfl)
    · have hz0 : z = 0 := by
        rw [show PyData.tuple [.int 0, .int 0] = dC 0 from rfl, eqv_C] at hq
        simpa using hq
      rw [if_neg (fun h => h hz0)] at hf
      exact js_nil ⟨rfl, _, rfl, hf⟩
  · obtain ⟨rfl, s3, rfl, hf⟩ := iv
    exact absurd hf.symm (fst_ne qd)
end K79
end
section
set_option Elab.async false
set_option linter.all false
set_option maxRecDepth 100000
namespace K79
open PySem PySem.Spec PyProof.Rows L2 GI Mx Ch
variable {P : Program} {w : World} {K : PySem.W.Frag} {mg : Str → Option Value} {base : Heap}

theorem dF_join2 (f g : Bool) : PyData.int (((if f then 1 else 0) + (if g then 1 else 0)) % 2) = dF (fl f g) := by cases f <;> cases g <;> rfl
abbrev sp__law_joined (K : PySem.W.Frag) : Sp := SpD K (α := Ch × Ch) (fun p => [dM p.1, dM p.2]) (fun p => Ok 1900 p.1 ∧ Ok 1900 p.2) (fun p => dM (Ch.join p.1 p.2))
theorem sc78 : FnScope ["_law_early", "_law_late", "_law_one", "_law_two", "_law_some", "_law_each"] ["_law_early", "_law_late"] (defScope (topS 78)) := ⟨rfl, rfl, rfl, by decide +kernel, rfl, by decide +kernel, by decide +kernel⟩
theorem ok__law_joined (D : DefAt K mg "_law_joined" (topS 78)) (h__law_form : OKs P w K mg base "_law_form" 3 ["_law_side", "_law_some"] (sp__law_form K)) (h__law_plus : OKs P w K mg base "_law_plus" 1 ["_law_one", "_law_two"] (sp__law_plus K)) (h__law_bar : OKs P w K mg base "_law_bar" 1 ["_law_one"] (sp__law_bar K)) (h__law_times : OKs P w K mg base "_law_times" 1 ["_law_one", "_law_two"] (sp__law_times K)) (n_int : mg "int" = none) : OKs P w K mg base "_law_joined" 4 ["_law_early", "_law_late"] (sp__law_joined K) := by
  refine okD (k := 3) D sc78 (fun _ _ _ _ _ _ us hl => match us, hl with | [_, _], _ => rfl) (fun _ => rfl) (fun y hp => ?_)
  refine ?_
  obtain ⟨z, x⟩ := y
  obtain ⟨hz, hx⟩ := hp
  have hx : Ok 1900 x := hx
  have hz : Ok 1900 z := hz
  have sx := sz4 hx.form.lo
  have sn := sz4 (brd (f := x.f) hz.form.lo)
  have hlo : (Mx.thn x.f z.m x.m).Lo := (bd_thn (g := x.f) hz.bd hx.bd).lo (by decide)
  have hdt := thn_ne (g := x.f) hz.form.det hx.form.det
  have ed : Mx.thn x.f z.m x.m = x.m.mul (if x.f then z.m.bar else z.m) := rfl
  refine js_setLcT (ds := [dC z.m.a, dC z.m.b, dC z.m.c, dC z.m.d]) (kk := 5) 2 (fun _ => true) (fun d => dC (if x.f then GI.bar (toC d) else toC d)) ⟨sc78.nd, blkOk_by (by dsimp only [fC]; decide +kernel), ⟨sc78.nd, rfl, .inl rfl, .inr rfl⟩⟩ rfl rfl (DE.is (de_slT (de_name 0) (do_some de_int) do_none) rfl) (Nat.le_of_ble_eq_true rfl) (fun d hd => dts_nil) (fun d hd _ => ?_) ?_
  · obtain ⟨u, rfl, hu⟩ := mem4 hd
    refine de_if (dt_eq (de_ixT (de_name 1) de_int) de_int) (fun hq => ?_) (fun hq => ?_)
    · rw [dF1] at hq
      have hf : x.f = true := hq
      refine DE.is (de_call h__law_bar u (da_cons (de_name 5) da_nil) trivial) ?_
      rw [hf]; rfl
    · rw [dF1] at hq
      have hf : x.f = false := hq
      refine DE.is (de_name 5) ?_
      rw [hf]; rfl
  have eo : outs (fun _ => true) (fun d => dC (if x.f then GI.bar (toC d) else toC d)) [dC z.m.a, dC z.m.b, dC z.m.c, dC z.m.d] = [dC (if x.f then z.m.bar else z.m).a, dC (if x.f then z.m.bar else z.m).b, dC (if x.f then z.m.bar else z.m).c, dC (if x.f then z.m.bar else z.m).d] := by
    cases x.f <;> rfl
  rw [eo]
  generalize eN : (if x.f then z.m.bar else z.m) = N at sn ed
  refine js_setD (d := .tuple [dC x.m.a, dC x.m.b, dC x.m.c, dC x.m.d]) 3 ⟨sc78.nd, rfl, .inl rfl, .inl rfl⟩ (DE.is (de_slT (de_name 1) (do_some de_int) do_none) rfl) ?_
  refine js_setD (d := .list [dC (x.m.a * N.a + x.m.b * N.c), dC (x.m.a * N.b + x.m.b * N.d), dC (x.m.c * N.a + x.m.d * N.c), dC (x.m.c * N.b + x.m.d * N.d)]) 4 ⟨sc78.nd, rfl, .inl rfl, .inl rfl⟩ (de_lst (da_cons (de_call h__law_plus (x.m.a * N.a, x.m.b * N.c) (da_cons (de_call h__law_times (x.m.a, N.a) (da_cons (de_ixT (de_name 3) de_int) (da_cons (de_ixL (de_name 2) de_int) da_nil)) ⟨sx.1, sn.1⟩) (da_cons (de_call h__law_times (x.m.b, N.c) (da_cons (de_ixT (de_name 3) de_int) (da_cons (de_ixL (de_name 2) de_int) da_nil)) ⟨sx.2.1, sn.2.2.1⟩) da_nil)) trivial) (da_cons (de_call h__law_plus (x.m.a * N.b, x.m.b * N.d) (da_cons (de_call h__law_times (x.m.a, N.b) (da_cons (de_ixT (de_name 3) de_int) (da_cons (de_ixL (de_name 2) de_int) da_nil)) ⟨sx.1, sn.2.1⟩) (da_cons (de_call h__law_times (x.m.b, N.d) (da_cons (de_ixT (de_name 3) de_int) (da_cons (de_ixL (de_name 2) de_int) da_nil)) ⟨sx.2.1, sn.2.2.2⟩) da_nil)) trivial) (da_cons (de_call h__law_plus (x.m.c * N.a, x.m.d * N.c) (da_cons (de_call h__law_times (x.m.c, N.a) (da_cons (de_ixT (de_name 3) de_int) (da_cons (de_ixL (de_name 2) de_int) da_nil)) ⟨sx.2.2.1, sn.1⟩) (da_cons (de_call h__law_times (x.m.d, N.c) (da_cons (de_ixT (de_name 3) de_int) (da_cons (de_ixL (de_name 2) de_int) da_nil)) ⟨sx.2.2.2, sn.2.2.1⟩) da_nil)) trivial) (da_cons (de_call h__law_plus (x.m.c * N.b, x.m.d * N.d) (da_cons (de_call h__law_times (x.m.c, N.b) (da_cons (de_ixT (de_name 3) de_int) (da_cons (de_ixL (de_name 2) de_int) da_nil)) ⟨sx.2.2.1, sn.2.1⟩) (da_cons (de_call h__law_times (x.m.d, N.d) (da_cons (de_ixT (de_name 3) de_int) (da_cons (de_ixL (de_name 2) de_int) da_nil)) ⟨sx.2.2.2, sn.2.2.2⟩) da_nil)) trivial) da_nil))))) ?_
  refine js_ret (je (de_call h__law_form (fl z.f x.f, Mx.thn x.f z.m x.m) (da_cons (DE.is (de_mod (by decide) (de_intc n_int (de_add (de_ixT (de_name 0) de_int) (de_ixT (de_name 1) de_int))) de_int) (dF_join2 _ _)) (da_cons (DE.is (de_name 4) (by rw [ed]; rfl)) da_nil)) ⟨hlo, hdt⟩) rfl)
theorem zsub (z : GI) : (0 : GI) - z = -z := by grind
abbrev sp__law_home (K : PySem.W.Frag) : Sp := SpD K (α := Ch) (fun x => [dM x]) (fun x => Ok 1900 x) (fun x => dM (Ch.home x))
theorem sc79 : FnScope ["_law_map2", "_law_some", "_law_each"] ["_law_map2"] (defScope (topS 79)) := ⟨rfl, rfl, rfl, by decide +kernel, rfl, by decide +kernel, by decide +kernel⟩
theorem ok__law_home (D : DefAt K mg "_law_home" (topS 79)) (h__law_form : OKs P w K mg base "_law_form" 3 ["_law_side", "_law_some"] (sp__law_form K)) (h__law_minus : OKs P w K mg base "_law_minus" 1 ["_law_one", "_law_two"] (sp__law_minus K)) (h__law_bar : OKs P w K mg base "_law_bar" 1 ["_law_one"] (sp__law_bar K)) : OKs P w K mg base "_law_home" 4 ["_law_map2"] (sp__law_home K) := by
  refine okD (k := 3) D sc79 (fun _ _ _ _ _ _ us hl => match us, hl with | [_], _ => rfl) (fun _ => rfl) (fun y hp => ?_)
  refine ?_
  have hlo : (y.m.inv y.f).Lo := (bd_inv (f := y.f) hp.bd).lo (by decide)
  have hdt := det_inv (f := y.f) hp.form.det
  refine js_setD (d := .list [dC y.m.adj.a, dC y.m.adj.b, dC y.m.adj.c, dC y.m.adj.d]) 1 ⟨sc79.nd, rfl, .inl rfl, .inl rfl⟩ (DE.is (de_lst (da_cons (de_ixT (de_name 0) de_int) (da_cons (de_call h__law_minus (0, y.m.b) (da_cons (de_tup (da_cons de_int (da_cons de_int da_nil))) (da_cons (de_ixT (de_name 0) de_int) da_nil)) trivial) (da_cons (de_call h__law_minus (0, y.m.c) (da_cons (de_tup (da_cons de_int (da_cons de_int da_nil))) (da_cons (de_ixT (de_name 0) de_int) da_nil)) trivial) (da_cons (de_ixT (de_name 0) de_int) da_nil))))) (by rw [zsub, zsub]; rfl)) ?_
  refine js_ret (je (de_call h__law_form (y.f, y.m.inv y.f) (da_cons (de_ixT (de_name 0) de_int) (da_cons (DE.is (de_lcL (ds := [dC y.m.adj.a, dC y.m.adj.b, dC y.m.adj.c, dC y.m.adj.d]) (kk := 2) (fun _ => true) (fun d => dC (if y.f then GI.bar (toC d) else toC d)) ⟨sc79.nd, blkOk_by (by dsimp only [fC]; decide +kernel), ⟨sc79.nd, rfl, .inl rfl, .inr rfl⟩⟩ (de_name 1) (Nat.le_of_ble_eq_true rfl) (fun d hd => dts_nil) (fun d hd _ => ?_)) ?_) da_nil)) ⟨hlo, hdt⟩) rfl)
  · obtain ⟨u, rfl, hu⟩ := mem4 hd
    refine de_if (dt_eq (de_ixT (de_name 0) de_int) de_int) (fun hq => ?_) (fun hq => ?_)
    · rw [dF1] at hq
      have hf : y.f = true := hq
      refine DE.is (de_call h__law_bar u (da_cons (de_name 2) da_nil) trivial) ?_
      rw [hf]; rfl
    · rw [dF1] at hq
      have hf : y.f = false := hq
      refine DE.is (de_name 2) ?_
      rw [hf]; rfl
  show PyData.list (outs (fun _ => true) (fun d => dC (if y.f then GI.bar (toC d) else toC d)) [dC y.m.adj.a, dC y.m.adj.b, dC y.m.adj.c, dC y.m.adj.d]) = .list [dC (y.m.inv y.f).a, dC (y.m.inv y.f).b, dC (y.m.inv y.f).c, dC (y.m.inv y.f).d]
  unfold Mx.inv
  cases y.f <;> rfl
abbrev sp__law_still (K : PySem.W.Frag) : Sp := SpD K (α := Unit) (fun _ => []) (fun _ => True) (fun _ => dM still)
theorem sc80 : FnScope [] [] (defScope (topS 80)) := ⟨rfl, rfl, rfl, by decide +kernel, rfl, by decide +kernel, by decide +kernel⟩
theorem ok__law_still (D : DefAt K mg "_law_still" (topS 80)) : OKs P w K mg base "_law_still" 1 [] (sp__law_still K) := by
  refine okD (k := 0) D sc80 (fun _ _ _ _ _ _ us hl => match us, hl with | [], _ => rfl) (fun _ => rfl) (fun y hp => ?_)
  refine js_ret (je (de_tup (da_cons de_int (da_cons (de_tup (da_cons de_int (da_cons de_int da_nil))) (da_cons (de_tup (da_cons de_int (da_cons de_int da_nil))) (da_cons (de_tup (da_cons de_int (da_cons de_int da_nil))) (da_cons (de_tup (da_cons de_int (da_cons de_int da_nil))) da_nil)))))) rfl)
abbrev sp__law_cell_map (K : PySem.W.Frag) : Sp := SpD K (α := Bx) (fun b => [b.dat]) (fun b => b.ok) (fun b => dM b.cell)
theorem sc81 : FnScope ["_law_box_here", "_law_p", "_law_s", "_law_r", "_law_top", "_law_low", "_law_n", "_law_m", "_law_rest", "_law_l", "_law_k"] ["_law_box_here"] (defScope (topS 81)) := ⟨rfl, rfl, rfl, by decide +kernel, rfl, by decide +kernel, by decide +kernel⟩
theorem ok__law_cell_map (D : DefAt K mg "_law_cell_map" (topS 81)) (h__law_form : OKs P w K mg base "_law_form" 3 ["_law_side", "_law_some"] (sp__law_form K)) (h__law_times : OKs P w K mg base "_law_times" 1 ["_law_one", "_law_two"] (sp__law_times K)) (h__law_minus : OKs P w K mg base "_law_minus" 1 ["_law_one", "_law_two"] (sp__law_minus K)) : OKs P w K mg base "_law_cell_map" 4 ["_law_box_here"] (sp__law_cell_map K) := by
  refine okD (k := 3) D sc81 (fun _ _ _ _ _ _ us hl => match us, hl with | [_], _ => rfl) (fun _ => rfl) (fun y hp => ?_)
  refine ?_
  have hlo := (Bx.bd hp).lo (by decide)
  have hdt := (Bx.cellL hp).det
  cases y with
  | ca p s r =>
    obtain ⟨h1, h2, h3, h4⟩ := id hp
    refine js_ifr (q := true) (DT.is (dt_eq (de_ixT (de_name 0) de_int) de_str (by first | decide +kernel | (dsimp only; decide +kernel)) (by decide +kernel)) (by decide +kernel)) (fun hq => ?_) (fun hq => nomatch hq)
    exact js_asg (jed (dP (p, s, r)) (de_ixT (de_name 0) de_int) (jg_tup (jgs_cons (jg_name (k := 1) ⟨sc81.nd, rfl, .inl rfl, .inl rfl⟩ (jgs_cons (jg_name (k := 2) ⟨sc81.nd, rfl, .inl rfl, .inl rfl⟩ (jgs_cons (jg_name (k := 3) ⟨sc81.nd, rfl, .inl rfl, .inl rfl⟩ (jgs_nil (js_ret (je (de_call h__law_form (false, (Bx.ca p s r).raw) (da_cons de_int (da_cons (de_lst (da_cons (de_tup (da_cons (de_name 3) (da_cons de_int da_nil))) (da_cons (de_tup (da_cons (de_name 1) (da_cons (de_name 2) da_nil))) (da_cons (de_tup (da_cons de_int (da_cons de_int da_nil))) (da_cons (de_tup (da_cons (de_name 3) (da_cons de_int da_nil))) da_nil))))) da_nil)) ⟨hlo, hdt⟩) rfl)))))))))))
  | gr p s r P S R x =>
    obtain ⟨h1, h2, h3, h4, h5, h6, h7, h8, h9, h10⟩ := id hp
    have sPS : Sz 200000 (⟨P, S⟩ : GI) := Sz.mono (n := 20) ⟨h5, h6⟩
    have sps : Sz 200000 (⟨p, s⟩ : GI) := Sz.mono (n := 10) ⟨h1, h2⟩
    have sr0 : Sz 200000 (⟨r, 0⟩ : GI) := (sz0 h3).mono
    have sd : Sz 200000 ((⟨R, 0⟩ : GI) - ⟨P, S⟩) := (Sz.sub (n := 20) (z := ⟨R, 0⟩) (w := ⟨P, S⟩) (sz0 h7) (show Sz 20 (⟨P, S⟩ : GI) from ⟨h5, h6⟩)).mono
    refine js_ifr (q := false) (DT.is (dt_eq (de_ixT (de_name 0) de_int) de_str (by first | decide +kernel | (dsimp only; decide +kernel)) (by decide +kernel)) (by decide +kernel)) (fun hq => nomatch hq) (fun hq => ?_)
    refine js_ifr (q := true) (DT.is (dt_eq (de_ixT (de_name 0) de_int) de_str (by first | decide +kernel | (dsimp only; decide +kernel)) (by decide +kernel)) (by decide +kernel)) (fun hq => ?_) (fun hq => nomatch hq)
    exact js_asg (jed (dP (p, s, r)) (de_ixT (de_name 0) de_int) (jg_tup (jgs_cons (jg_name (k := 1) ⟨sc81.nd, rfl, .inl rfl, .inl rfl⟩ (jgs_cons (jg_name (k := 2) ⟨sc81.nd, rfl, .inl rfl, .inl rfl⟩ (jgs_cons (jg_name (k := 3) ⟨sc81.nd, rfl, .inl rfl, .inl rfl⟩ (jgs_nil (js_par 4 5 rfl rfl (by decide) sc81.nd rfl rfl (jed (dC ⟨P, S⟩) (de_tup (da_cons (de_ixT (de_ixT (de_name 0) de_int) de_int) (da_cons (de_ixT (de_ixT (de_name 0) de_int) de_int) da_nil))) (jed (.int R) (de_ixT (de_ixT (de_name 0) de_int) de_int) (js_ret (je (de_call h__law_form (false, (Bx.gr p s r P S R x).raw) (da_cons de_int (da_cons (de_lst (da_cons (de_call h__law_times (⟨P, S⟩, ⟨r, 0⟩) (da_cons (de_name 4) (da_cons (de_tup (da_cons (de_name 3) (da_cons de_int da_nil))) da_nil)) ⟨sPS, sr0⟩) (da_cons (de_call h__law_times (⟨p, s⟩, ⟨R, 0⟩ - ⟨P, S⟩) (da_cons (de_tup (da_cons (de_name 1) (da_cons (de_name 2) da_nil))) (da_cons (de_call h__law_minus (⟨R, 0⟩, ⟨P, S⟩) (da_cons (de_tup (da_cons (de_name 5) (da_cons de_int da_nil))) (da_cons (de_name 4) da_nil)) trivial) da_nil)) ⟨sps, sd⟩) (da_cons (de_tup (da_cons de_int (da_cons de_int da_nil))) (da_cons (de_tup (da_cons (de_mul (cm h7 h3) (de_name 5) (de_name 3)) (da_cons de_int da_nil))) da_nil))))) da_nil)) ⟨hlo, hdt⟩) rfl))))))))))))))
  | tu p s r n m x =>
    obtain ⟨h1, h2, h3, h4, h5, h6, h7, h8⟩ := id hp
    refine js_ifr (q := false) (DT.is (dt_eq (de_ixT (de_name 0) de_int) de_str (by first | decide +kernel | (dsimp only; decide +kernel)) (by decide +kernel)) (by decide +kernel)) (fun hq => nomatch hq) (fun hq => ?_)
    refine js_ifr (q := false) (DT.is (dt_eq (de_ixT (de_name 0) de_int) de_str (by first | decide +kernel | (dsimp only; decide +kernel)) (by decide +kernel)) (by decide +kernel)) (fun hq => nomatch hq) (fun hq => ?_)
    refine js_ifr (q := true) (DT.is (dt_eq (de_ixT (de_name 0) de_int) de_str (by first | decide +kernel | (dsimp only; decide +kernel)) (by decide +kernel)) (by decide +kernel)) (fun hq => ?_) (fun hq => nomatch hq)
    exact js_asg (jed (dP (p, s, r)) (de_ixT (de_name 0) de_int) (jg_tup (jgs_cons (jg_name (k := 1) ⟨sc81.nd, rfl, .inl rfl, .inl rfl⟩ (jgs_cons (jg_name (k := 2) ⟨sc81.nd, rfl, .inl rfl, .inl rfl⟩ (jgs_cons (jg_name (k := 3) ⟨sc81.nd, rfl, .inl rfl, .inl rfl⟩ (jgs_nil (js_asg (jed (.tuple [.int n, .int m]) (de_ixT (de_name 0) de_int) (jg_tup (jgs_cons (jg_name (k := 6) ⟨sc81.nd, rfl, .inl rfl, .inl rfl⟩ (jgs_cons (jg_name (k := 7) ⟨sc81.nd, rfl, .inl rfl, .inl rfl⟩ (jgs_nil (js_setD (d := .int (n * r * r - (p * p + s * s) * m)) 8 ⟨sc81.nd, rfl, .inl rfl, .inl rfl⟩ (de_sub (de_mul (cm (ab_mul h5 h3) h3) (de_mul (cm h5 h3) (de_name 6) (de_name 3)) (de_name 3)) (de_mul (cm (ab_add (ab_mul h1 h1) (ab_mul h2 h2)) h7) (de_add (de_mul (cm h1 h1) (de_name 1) (de_name 1)) (de_mul (cm h2 h2) (de_name 2) (de_name 2))) (de_name 7))) (js_ret (je (de_call h__law_form (true, (Bx.tu p s r n m x).raw) (da_cons de_int (da_cons (de_lst (da_cons (de_tup (da_cons (de_mul (cm (ab_mul h1 h3) h7) (de_mul (cm h1 h3) (de_name 1) (de_name 3)) (de_name 7)) (da_cons (de_mul (cm (ab_mul h2 h3) h7) (de_mul (cm h2 h3) (de_name 2) (de_name 3)) (de_name 7)) da_nil))) (da_cons (de_tup (da_cons (de_name 8) (da_cons de_int da_nil))) (da_cons (de_tup (da_cons (de_mul (cm (ab_mul h3 h3) h7) (de_mul (cm h3 h3) (de_name 3) (de_name 3)) (de_name 7)) (da_cons de_int da_nil))) (da_cons (de_tup (da_cons (de_sub de_int (de_mul (cm (ab_mul h1 h3) h7) (de_mul (cm h1 h3) (de_name 1) (de_name 3)) (de_name 7))) (da_cons (de_mul (cm (ab_mul h2 h3) h7) (de_mul (cm h2 h3) (de_name 2) (de_name 3)) (de_name 7)) da_nil))) da_nil))))) da_nil)) ⟨hlo, hdt⟩) rfl))))))))))))))))))))
  | mi l m k =>
    obtain ⟨h1, h2, h3, h4⟩ := id hp
    refine js_ifr (q := false) (DT.is (dt_eq (de_ixT (de_name 0) de_int) de_str (by first | decide +kernel | (dsimp only; decide +kernel)) (by decide +kernel)) (by decide +kernel)) (fun hq => nomatch hq) (fun hq => ?_)
    refine js_ifr (q := false) (DT.is (dt_eq (de_ixT (de_name 0) de_int) de_str (by first | decide +kernel | (dsimp only; decide +kernel)) (by decide +kernel)) (by decide +kernel)) (fun hq => nomatch hq) (fun hq => ?_)
    refine js_ifr (q := false) (DT.is (dt_eq (de_ixT (de_name 0) de_int) de_str (by first | decide +kernel | (dsimp only; decide +kernel)) (by decide +kernel)) (by decide +kernel)) (fun hq => nomatch hq) (fun hq => ?_)
    exact js_asg (jed (.tuple [.int l, .int m, .int k]) (DE.is (de_slT (de_ixT (de_name 0) de_int) (do_some de_int) do_none) rfl) (jg_tup (jgs_cons (jg_name (k := 9) ⟨sc81.nd, rfl, .inl rfl, .inl rfl⟩ (jgs_cons (jg_name (k := 7) ⟨sc81.nd, rfl, .inl rfl, .inl rfl⟩ (jgs_cons (jg_name (k := 10) ⟨sc81.nd, rfl, .inl rfl, .inl rfl⟩ (jgs_nil (js_ret (je (de_call h__law_form (true, (Bx.mi l m k).raw) (da_cons de_int (da_cons (de_lst (da_cons (de_tup (da_cons (de_sub de_int (de_name 9)) (da_cons (de_sub de_int (de_name 7)) da_nil))) (da_cons (de_tup (da_cons (de_sub de_int (de_mul (cm (n := 2) (by decide) h3) de_int (de_name 10))) (da_cons de_int da_nil))) (da_cons (de_tup (da_cons de_int (da_cons de_int da_nil))) (da_cons (de_tup (da_cons (de_name 9) (da_cons (de_sub de_int (de_name 7)) da_nil))) da_nil))))) da_nil)) ⟨hlo, hdt⟩) rfl)))))))))))
theorem wayFrom_ok {bs : List Bx} (hb : ∀ b ∈ bs, b.ok) (hl : bs.length ≤ 10) (n : Nat) : Ok 1900 (wayFrom still ((bs.take n).map Bx.cell)) := by
  have h := way_ok ((bs.take n).map Bx.cell) still 1 still_ok (fun y hy => by
    obtain ⟨b, hb', rfl⟩ := List.mem_map.mp hy
    exact ⟨_, Bx.isCell (hb b (List.mem_of_mem_take hb'))⟩) (by rw [List.length_map, List.length_take]; omega)
  exact h.mono (by rw [List.length_map, List.length_take]; omega)
theorem wayFrom_succ {bs : List Bx} {n : Nat} {b : Bx} (h : bs[n]? = some b) : wayFrom still ((bs.take (n + 1)).map Bx.cell) = Ch.join (wayFrom still ((bs.take n).map Bx.cell)) b.cell := by
  rw [List.take_add_one, h, List.map_append]
  unfold wayFrom
  rw [List.foldl_append]; rfl
abbrev sp__law_way (K : PySem.W.Frag) : Sp := SpD K (α := List Bx) (fun bs => [.tuple (bs.map Bx.dat)]) (fun bs => (∀ b ∈ bs, b.ok) ∧ bs.length ≤ 10) (fun bs => dM (way (bs.map Bx.cell)))
theorem sc82 : FnScope ["_law_boxes_here", "_law_found", "_law_each"] ["_law_boxes_here"] (defScope (topS 82)) := ⟨rfl, rfl, rfl, by decide +kernel, rfl, by decide +kernel, by decide +kernel⟩
theorem ok__law_way (D : DefAt K mg "_law_way" (topS 82)) (h__law_still : OKs P w K mg base "_law_still" 1 [] (sp__law_still K)) (h__law_joined : OKs P w K mg base "_law_joined" 4 ["_law_early", "_law_late"] (sp__law_joined K)) (h__law_cell_map : OKs P w K mg base "_law_cell_map" 4 ["_law_box_here"] (sp__law_cell_map K)) : OKs P w K mg base "_law_way" 5 ["_law_boxes_here"] (sp__law_way K) := by
  refine okD (k := 4) D sc82 (fun _ _ _ _ _ _ us hl => match us, hl with | [_], _ => rfl) (fun _ => rfl) (fun y hp => ?_)
  refine js_set 1 ⟨sc82.nd, rfl, .inl rfl, .inl rfl⟩ (je_call0 h__law_still (by exact Nat.le_of_ble_eq_true rfl) rfl (by decide) () rfl trivial ?_)
  refine js_forT (ds := y.map Bx.dat) 2 ⟨sc82.nd, rfl, .inl rfl, .inl rfl⟩ (fun n δ' μ' => μ' = [] ∧ ∃ s2, δ' = [some (.dat (.tuple (y.map Bx.dat))), some (.dat (dM (wayFrom still ((y.take n).map Bx.cell)))), s2]) (je (de_name 0) ⟨rfl, rfl, _, rfl⟩) (fun n d δ' μ' hd iv => ?_) (fun δ' μ' iv => ?_)
  · obtain ⟨rfl, s2, rfl⟩ := iv
    obtain ⟨z, rfl, hz⟩ := map_at hd
    have hzm := List.mem_of_getElem? hz
    refine js_setD (d := dM (wayFrom still ((y.take (n + 1)).map Bx.cell))) 1 ⟨sc82.nd, rfl, .inl rfl, .inl rfl⟩ (DE.is (de_call h__law_joined (wayFrom still ((y.take n).map Bx.cell), z.cell) (da_cons (de_name 1) (da_cons (de_call h__law_cell_map z (da_cons (de_name 2) da_nil) (hp.1 z hzm)) da_nil)) ⟨wayFrom_ok hp.1 hp.2 n, (Bx.isCell (hp.1 z hzm)).ok.mono (by decide)⟩) ?_) (js_nil ⟨rfl, _, rfl⟩)
    rw [wayFrom_succ hz]
  · obtain ⟨rfl, s2, rfl⟩ := iv
    refine js_ret (je (de_name 1) ?_)
    rw [List.length_map, List.take_length]
    rfl
abbrev sp__law_quotient (K : PySem.W.Frag) : Sp := SpD K (α := GI × GI) (fun p => [dC p.1, dC p.2]) (fun p => p.2 ≠ 0 ∧ Sz 2000 p.1 ∧ Sz 2000 p.2) (fun p => .tuple ((thinL [(p.1 * GI.bar p.2).re, (p.1 * GI.bar p.2).im, nrm p.2]).map .int))
theorem sc83 : FnScope ["_law_top", "_law_low", "_law_over_here"] ["_law_top", "_law_low"] (defScope (topS 83)) := ⟨rfl, rfl, rfl, by decide +kernel, rfl, by decide +kernel, by decide +kernel⟩
theorem ok__law_quotient (D : DefAt K mg "_law_quotient" (topS 83)) (h__law_times : OKs P w K mg base "_law_times" 1 ["_law_one", "_law_two"] (sp__law_times K)) (h__law_thin : OKs P w K mg base "_law_thin" 2 ["_law_some"] (sp__law_thin K)) (h__law_bar : OKs P w K mg base "_law_bar" 1 ["_law_one"] (sp__law_bar K)) (h__law_norm : OKs P w K mg base "_law_norm" 1 ["_law_one"] (sp__law_norm K)) : OKs P w K mg base "_law_quotient" 3 ["_law_top", "_law_low"] (sp__law_quotient K) := by
  refine okD (k := 2) D sc83 (fun _ _ _ _ _ _ us hl => match us, hl with | [_, _], _ => rfl) (fun _ => rfl) (fun y hp => ?_)
  refine js_ifr (q := false) (DT.is (dt_eq (de_name 1) (de_tup (da_cons de_int (da_cons de_int da_nil)))) ?_) (fun hq => nomatch hq) (fun hq => js_setD (d := dC (y.1 * GI.bar y.2)) 2 ⟨sc83.nd, rfl, .inl rfl, .inl rfl⟩ (de_call h__law_times (y.1, GI.bar y.2) (da_cons (de_name 0) (da_cons (de_call h__law_bar y.2 (da_cons (de_name 1) da_nil) trivial) da_nil)) ⟨hp.2.1.mono, hp.2.2.bar.mono⟩) (js_ret (je (de_call h__law_thin [(y.1 * GI.bar y.2).re, (y.1 * GI.bar y.2).im, nrm y.2] (da_cons (de_lst (da_cons (de_ixT (de_name 2) de_int) (da_cons (de_ixT (de_name 2) de_int) (da_cons (de_call h__law_norm y.2 (da_cons (de_name 1) da_nil) hp.2.2.mono) da_nil)))) da_nil) ⟨Nat.le_of_ble_eq_true rfl, (g3 (nrm_pos hp.1) (nz hp.2.2.nrm (by decide))).2.1⟩) rfl)))
  rw [show PyData.tuple [.int 0, .int 0] = dC 0 from rfl, eqv_C]
  exact decide_eq_false hp.1
end K79
end
section
set_option Elab.async false
set_option linter.all false
set_option maxRecDepth 100000
namespace K79
open PySem PySem.Spec PyProof.Rows L2 GI Mx Ch
/-! ### the spring: draws that are left -/
def Sk (k : Nat) (g : Sg) : Prop := 0 ≤ g.a ∧ 0 ≤ g.s ∧ g.s < 2147483563 ∧ 0 ≤ g.c ∧ g.c + (k : Int) ≤ 1000000
theorem Sk.mono {k j : Nat} {g : Sg} (h : Sk k g) (hj : j ≤ k := by omega) : Sk j g := by
  obtain ⟨a, b, c, d, e⟩ := h
  exact ⟨a, b, c, d, by omega⟩
section
variable {C : Ctx} {e a b c : Expr} {es : List Expr} {δ : En} {μ : Mem} {Φ : SV → Mem → Prop} {pos : Pos} {d : PyData} {ds : List PyData} {x : Str} {i j : Int} {E : AE} {rest : List Stmt}
theorem jad1 {Φ : List SV → Mem → Prop} (h : DE C e δ μ d) (k : JA C es δ μ fun ss μ2 => Φ (.dat d :: ss) μ2) (hst : ∀ env, starEach (e :: es) env = (false, eval e env) :: starEach es env := by intro _; rfl) : JA C (e :: es) δ μ Φ := ja_cons (h _ k) hst
theorem je_sp {n : Nat} {k : Nat} {ps : List Str} {α : Type} {args : α → List PyData} {pre : α → Sg → Prop} {post : α → Sg → PyData → Sg → Prop} {pp : Pos} (F : OKc C x k ps (SpS C.K args pre post)) (y : α) (hs : DL C e δ μ n) (ha : DA C es δ μ (args y)) {st : Sg} (h0 : μ[n]? = some (some (dS st))) (hp : pre y st)
    (h : ∀ d st', post y st d st' → Φ (.dat d) (μ.set n (some (dS st')))) (hk : k ≤ C.k := by exact Nat.le_of_ble_eq_true rfl) (hg : GlC C x := by rfl) (hdb : (x == ("__debug__" : Str)) = false := by decide)
    (hst : ∀ env, starEach (e :: es) env = (false, eval e env) :: starEach es env := by intro _; rfl) (hpl : ∀ env, (backTo pos (starEach es env)).any (·.1) = false := by intro _; rfl) : JE C (.Call (.Name x pp) (e :: es) [] pos) δ μ Φ :=
  je_callS F hk hg hdb hst hpl (ja_cons (hs _ (ha _ ⟨n, st, y, rfl, h0, hp, h⟩)) hst)
/-- the effect on the left, a plain number on the right -/
theorem je_subR (h : JE C a δ μ fun s1 μ1 => ∃ i : Int, s1 = .dat (.int i) ∧ ∃ j : Int, DE C b δ μ1 (.int j) ∧ Φ (.dat (.int (i - j))) μ1) : JE C (.BinOp a .Sub b pos) δ μ Φ :=
  je_op (fun _ _ => op_sub) (h.imp fun s μ' ⟨i, e1, j, hb, p⟩ => ⟨.int i, e1, hb _ ⟨.int j, .int (i - j), rfl, opI0 fun _ => .int _, p⟩⟩)
theorem je_addL (ha : DE C a δ μ (.int i)) (h : JE C b δ μ fun s1 μ1 => ∃ j : Int, s1 = .dat (.int j) ∧ Φ (.dat (.int (i + j))) μ1) : JE C (.BinOp a .Add b pos) δ μ Φ :=
  je_op (fun _ _ => op_add) (ha _ ⟨.int i, rfl, h.imp fun s μ' ⟨j, e1, p⟩ => ⟨.int j, .int (i + j), e1, opI0 fun _ => .int _, p⟩⟩)
end
end K79
end
section
set_option Elab.async false
set_option linter.all false
set_option maxRecDepth 100000
namespace K79
open PySem PySem.Spec PyProof.Rows L2 GI Mx Ch
variable {P : Program} {w : World} {K : PySem.W.Frag} {mg : Str → Option Value} {base : Heap}

theorem n0 : (0 : Nat) < 3 := by decide
theorem fd61 (i : Int) : CDivW i 61 := ⟨by decide, by decide⟩
theorem r_mod {i : Int} {t : Nat} (h : 0 < t) : ∃ r : Nat, i % (t : Int) = (r : Int) ∧ r < t := by
  have h1 := Int.emod_nonneg i (show (t : Int) ≠ 0 by omega)
  have h2 := Int.emod_lt_of_pos i (show (0 : Int) < t by omega)
  exact ⟨(i % (t : Int)).toNat, by omega, by omega⟩
abbrev sp__law_draw (K : PySem.W.Frag) : Sp := SpS K (α := Nat × Nat) (fun y => [.int (y.2 : Int)]) (fun y g => Sk (y.1 + 1) g ∧ 0 < y.2 ∧ y.2 ≤ 1000) (fun y g d g2 => Sk y.1 g2 ∧ ∃ r : Nat, d = .int (r : Int) ∧ r < y.2)
theorem sc62 : FnScope ["_law_spring_here", "_law_top", "_law_digit", "_law_factor"] ["_law_spring_here", "_law_top"] (defScope (topS 62)) := ⟨rfl, rfl, rfl, by decide +kernel, rfl, by decide +kernel, by decide +kernel⟩
theorem ok__law_draw (D : DefAt K mg "_law_draw" (topS 62)) (n_divmod : mg "divmod" = none) (n_int : mg "int" = none) : OKs P w K mg base "_law_draw" 1 ["_law_spring_here", "_law_top"] (sp__law_draw K) := by
  refine okS (k := 0) D sc62 (fun _ _ _ _ _ _ us hl => match us, hl with | [_, _], _ => rfl) (fun _ => rfl) (fun y ss hp => ?_)
  refine ?_
  obtain ⟨k, t⟩ := y
  obtain ⟨hk, ht, ht2⟩ := hp
  obtain ⟨a, s, c⟩ := ss
  obtain ⟨h1, h2, h3, h4, h5⟩ := hk
  simp only at ht ht2 h1 h2 h3 h4 h5
  refine js_ifr (dt_gt (de_ixM (dl_name 0) de_int) de_int) (fun hq => ?_) (fun hq => ?_)
  · refine js_asg (jed (.tuple [.int (a / t), .int (a % t)]) (de_callB (fun _ _ => call_divmod) bDivmod (da_cons (de_ixM (dl_name 0) de_int) (da_cons (de_name 1) da_nil)) (caDivmod ⟨by show (0 : Int) < t; omega, by show (t : Int) < _; omega⟩) n_divmod) (jg_tup (jgs_cons (jg_setM (ds := dS ⟨a, s, c⟩) (k := 0) (dl_name 0) de_int rfl (by show 0 < 3; decide) (jgs_cons (jg_name (k := 2) ⟨sc62.nd, rfl, .inl rfl, .inl rfl⟩ (jgs_nil ?_)))))))
    obtain ⟨r, e, hr⟩ := r_mod (i := a) ht
    refine js_ret (je (de_name 2) ⟨.int (a % t), ⟨a / t, s, c⟩, rfl, rfl, ⟨?_, h2, h3, h4, by push_cast at h5 ⊢; omega⟩, r, by rw [e], hr⟩)
    exact Int.ediv_nonneg h1 (by omega)
  refine js_asg (jed (.int (c + 1)) (de_add (de_ixM (dl_name 0) de_int) de_int) (jg_setM (ds := dS ⟨a, s, c⟩) (k := 2) (dl_name 0) de_int rfl (by show 2 < 3; decide) ?_))
  have hc : (c + 1).natAbs < 2 ^ 21 := by push_cast at h5; omega
  have hs : s.natAbs < 2 ^ 31 := by omega
  refine js_setD (d := .int (30011 + 2 * (c + 1))) 3 ⟨sc62.nd, rfl, .inl rfl, .inl rfl⟩ (de_add de_int (de_mul (cm (n := 2) (by decide) hc) de_int (de_intc n_int (de_ixM (ds := dS ⟨a, s, c + 1⟩) (dl_name 0) de_int)))) ?_
  have hf : (30011 + 2 * (c + 1)).natAbs < 2 ^ 23 := by omega
  refine js_asg (jed (.int ((s * (30011 + 2 * (c + 1)) + 70207 * (c + 1) + 13) % 2147483563)) (de_mod (by decide) (de_intc n_int (de_add (de_add (de_mul (cm hs hf) (de_ixM (ds := dS ⟨a, s, c + 1⟩) (dl_name 0) de_int) (de_name 3)) (de_mul (cm (n := 17) (by decide) hc) de_int (de_ixM (ds := dS ⟨a, s, c + 1⟩) (dl_name 0) de_int))) de_int)) de_int) (jg_setM (ds := dS ⟨a, s, c + 1⟩) (k := 1) (dl_name 0) de_int rfl (by show 1 < 3; decide) ?_))
  generalize hz : (s * (30011 + 2 * (c + 1)) + 70207 * (c + 1) + 13) % 2147483563 = z
  have hz1 : 0 ≤ z ∧ z < 2147483563 := by
    rw [← hz]
    exact ⟨Int.emod_nonneg _ (by decide), Int.emod_lt_of_pos _ (by decide)⟩
  obtain ⟨r, e, hr⟩ := r_mod (i := z / 61) ht
  refine js_ret (je (de_mod (show (0 : Int) < t by omega) (de_intc n_int (de_fdiv (fd61 z) (de_ixM (ds := dS ⟨a, z, c + 1⟩) (dl_name 0) de_int) de_int)) (de_name 1)) ⟨.int (z / 61 % t), ⟨a, z, c + 1⟩, rfl, rfl, ⟨h1, hz1.1, hz1.2, by show 0 ≤ c + 1; omega, by show (c + 1) + (k : Int) ≤ 1000000; push_cast at h5; omega⟩, r, by rw [e], hr⟩)
theorem pick_perm {α : Type} : ∀ (l : List α) (r : Nat) (h : r < l.length), ([l[r]] ++ l.eraseIdx r).Perm l
  | [], r, h => absurd h (Nat.not_lt_zero r)
  | x :: t, 0, h => List.Perm.refl _
  | x :: t, r + 1, h => by
    have hr : r < t.length := by simpa using h
    have ih := pick_perm t r hr
    show (t[r] :: x :: t.eraseIdx r).Perm (x :: t)
    exact (List.Perm.swap x t[r] (t.eraseIdx r)).trans (List.Perm.cons x ih)
theorem atI_nat {ds : List PyData} {r : Nat} (h : r < ds.length) : atI ds (r : Int) = some ds[r] := by
  unfold atI
  rw [ixN_nat h]
  exact List.getElem?_eq_getElem h
abbrev sp__law_one_of (K : PySem.W.Frag) : Sp := SpS K (α := Nat × List PyData) (fun y => [.list y.2]) (fun y g => Sk (y.1 + 1) g ∧ y.2 ≠ [] ∧ y.2.length ≤ 1000) (fun y g d g2 => Sk y.1 g2 ∧ d ∈ y.2)
theorem sc63 : FnScope ["_law_spring_here", "_law_some"] ["_law_spring_here", "_law_some"] (defScope (topS 63)) := ⟨rfl, rfl, rfl, by decide +kernel, rfl, by decide +kernel, by decide +kernel⟩
theorem ok__law_one_of (D : DefAt K mg "_law_one_of" (topS 63)) (h__law_draw : OKs P w K mg base "_law_draw" 1 ["_law_spring_here", "_law_top"] (sp__law_draw K)) (n_len : mg "len" = none) : OKs P w K mg base "_law_one_of" 2 ["_law_spring_here", "_law_some"] (sp__law_one_of K) := by
  refine okS (k := 1) D sc63 (fun _ _ _ _ _ _ us hl => match us, hl with | [_, _], _ => rfl) (fun _ => rfl) (fun y ss hp => ?_)
  refine ?_
  obtain ⟨k, l⟩ := y
  obtain ⟨hk, hl, hl2⟩ := hp
  have h0 : 0 < l.length := List.length_pos_iff.mpr hl
  refine js_ret (je_ixL (fun _ _ => rfl) (jed (.list l) (de_name 1) ⟨_, rfl, je_sp h__law_draw (k, l.length) (dl_name 0) (da_cons (de_lenL n_len (de_name 1)) da_nil) rfl ⟨hk, h0, hl2⟩ (fun d s1 hp1 => ?_)⟩))
  obtain ⟨hk1, r, rfl, hr⟩ := hp1
  exact ⟨_, _, rfl, opIxL (atI_nat hr), _, s1, rfl, rfl, hk1, List.getElem_mem hr⟩
abbrev sp__law_about (K : PySem.W.Frag) : Sp := SpS K (α := Nat × Nat) (fun y => [.int (y.2 : Int)]) (fun y g => Sk (y.1 + 1) g ∧ y.2 ≤ 400) (fun y g d g2 => Sk y.1 g2 ∧ ∃ i : Int, d = .int i ∧ i.natAbs ≤ y.2)
theorem sc64 : FnScope ["_law_spring_here", "_law_wide"] ["_law_spring_here", "_law_wide"] (defScope (topS 64)) := ⟨rfl, rfl, rfl, by decide +kernel, rfl, by decide +kernel, by decide +kernel⟩
theorem ok__law_about (D : DefAt K mg "_law_about" (topS 64)) (h__law_draw : OKs P w K mg base "_law_draw" 1 ["_law_spring_here", "_law_top"] (sp__law_draw K)) : OKs P w K mg base "_law_about" 2 ["_law_spring_here", "_law_wide"] (sp__law_about K) := by
  refine okS (k := 1) D sc64 (fun _ _ _ _ _ _ us hl => match us, hl with | [_, _], _ => rfl) (fun _ => rfl) (fun y ss hp => ?_)
  refine ?_
  obtain ⟨k, t⟩ := y
  obtain ⟨hk, ht⟩ := hp
  simp only at ht
  refine js_ret (je_subR (je_sp h__law_draw (k, 2 * t + 1) (dl_name 0) (da_cons (DE.is (de_add (de_mul (cm (n := 2) (m := 9) (by decide) (show ((t : Nat) : Int).natAbs < 2 ^ 9 by omega)) de_int (de_name 1)) de_int) (by show PyData.int (2 * (t : Int) + 1) = PyData.int ((2 * t + 1 : Nat) : Int); push_cast; rfl)) da_nil) rfl ⟨hk, by show 0 < 2 * t + 1; omega, by show 2 * t + 1 ≤ 1000; omega⟩ (fun d s1 hp1 => ?_)))
  obtain ⟨hk1, r, rfl, hr⟩ := hp1
  simp only at hr
  exact ⟨_, rfl, _, de_name 1, _, s1, rfl, rfl, hk1, _, rfl, by show ((r : Int) - (t : Int)).natAbs ≤ t; omega⟩
abbrev sp__law_shuffled (K : PySem.W.Frag) : Sp := SpS K (α := Nat × List PyData) (fun y => [.list y.2]) (fun y g => Sk (y.1 + y.2.length) g ∧ y.2.length ≤ 1000) (fun y g d g2 => Sk y.1 g2 ∧ ∃ es, d = .list es ∧ es.Perm y.2)
theorem sc65 : FnScope ["_law_spring_here", "_law_some", "_law_left", "_law_found", "_law_turn"] ["_law_spring_here", "_law_some"] (defScope (topS 65)) := ⟨rfl, rfl, rfl, by decide +kernel, rfl, by decide +kernel, by decide +kernel⟩
theorem ok__law_shuffled (D : DefAt K mg "_law_shuffled" (topS 65)) (n_range : mg "range" = none) (n_list : mg "list" = none) (n_len : mg "len" = none) (h__law_draw : OKs P w K mg base "_law_draw" 1 ["_law_spring_here", "_law_top"] (sp__law_draw K)) : OKs P w K mg base "_law_shuffled" 2 ["_law_spring_here", "_law_some"] (sp__law_shuffled K) := by
  refine okS (k := 1) D sc65 (fun _ _ _ _ _ _ us hl => match us, hl with | [_, _], _ => rfl) (fun _ => rfl) (fun y ss hp => ?_)
  refine ?_
  obtain ⟨k, l⟩ := y
  obtain ⟨hk, hl⟩ := hp
  simp only at hl hk
  refine js_par 2 3 rfl rfl (by decide) sc65.nd rfl rfl (je_listM n_list (jed (.list l) (de_name 1) ⟨l, .inr rfl, je_lstM (ja_nil ⟨[], rfl, Nat.zero_le _, ?_⟩)⟩))
  refine js_forR 4 ⟨sc65.nd, rfl, .inl rfl, .inl rfl⟩ (fun m δ' μ' => ∃ st left found s4, δ' = [some (.loc 0), some (.dat (.list l)), some (.loc 1), some (.loc 2), s4] ∧ μ' = [some (dS st), some left, some found] ∧ Sk (k + left.length) st ∧ (found ++ left).Perm l ∧ left.length + m = l.length) l.length (by omega) n_range (jed (.int l.length) (de_lenL n_len (de_name 1)) ⟨rfl, ss, l, [], _, rfl, rfl, hk, List.Perm.refl _, rfl⟩) (fun m δ' μ' hm iv => ?_) (fun δ' μ' iv => ?_)
  · obtain ⟨st, left, found, s4, rfl, rfl, hk, hP, hll⟩ := iv
    have hlen := hP.length_eq
    rw [List.length_append] at hlen
    refine js_expr (je_append (n := 2) (dl_name 3) rfl (je_pop (n := 1) (dl_name 2) rfl (je_sp h__law_draw (k + left.length - 1, left.length) (dl_name 0) (da_cons (de_lenM n_len (dl_name 2)) da_nil) rfl ⟨hk.mono, by show 0 < left.length; omega, by show left.length ≤ 1000; omega⟩ (fun d s1 hp1 => ?_))))
    obtain ⟨hk1, r, rfl, hr⟩ := hp1
    simp only at hr
    refine ⟨r, left[r], left, rfl, rfl, by omega, List.getElem?_eq_getElem hr, left[r], found, rfl, rfl, by omega, js_nil ⟨s1, left.eraseIdx r, found ++ [left[r]], _, rfl, rfl, ?_, ?_, ?_⟩⟩
    · rw [List.length_eraseIdx_of_lt hr]
      exact hk1.mono
    · rw [List.append_assoc]
      refine List.Perm.trans (List.Perm.append_left found ?_) hP
      exact pick_perm left r hr
    · rw [List.length_eraseIdx_of_lt hr]; omega
  · obtain ⟨st, left, found, s4, rfl, rfl, hk, hP, hll⟩ := iv
    have l0 : left = [] := List.eq_nil_of_length_eq_zero (by omega)
    subst l0
    rw [List.append_nil] at hP
    refine js_freeze (ds := found) 2 (by decide) rfl (js_ret (je (d := .list found) (de_name 3) ⟨_, st, rfl, rfl, hk, found, rfl, hP⟩))
end K79
end
section
set_option Elab.async false
set_option linter.all false
set_option maxRecDepth 100000
namespace K79
open PySem PySem.Spec PyProof.Rows L2 GI Mx Ch
variable {P : Program} {w : World} {K : PySem.W.Frag} {mg : Str → Option Value} {base : Heap}

section
variable {C : Ctx} {e a b c : Expr} {es : List Expr} {δ : En} {μ : Mem} {Φ : SV → Mem → Prop} {pos : Pos} {d : PyData} {x : Str}
theorem je_cl {k : Nat} {ps : List Str} {α : Type} {args : α → List PyData} {pre : α → Prop} {g : α → PyData} {pp : Pos} (F : OKc C x k ps (SpD C.K args pre g)) (h : JA C (e :: es) δ μ fun ss μ1 => ∃ y, ss = (args y).map .dat ∧ pre y ∧ Φ (.dat (g y)) μ1) (hk : k ≤ C.k := by exact Nat.le_of_ble_eq_true rfl) (hg : GlC C x := by rfl) (hdb : (x == ("__debug__" : Str)) = false := by decide)
    (hst : ∀ env, starEach (e :: es) env = (false, eval e env) :: starEach es env := by intro _; rfl) (hpl : ∀ env, (backTo pos (starEach es env)).any (·.1) = false := by intro _; rfl) : JE C (.Call (.Name x pp) (e :: es) [] pos) δ μ Φ := je_call F hk hg hdb hst hpl h
end
/-! ### thinned rows -/
theorem thin3 {a b c : Int} (hc : 0 < c) : ∃ a' b' c' k : Int, thinL [a, b, c] = [a', b', c'] ∧ 0 < k ∧ a = k * a' ∧ b = k * b' ∧ c = k * c' ∧ 0 < c' ∧ gcdI [a', b', c'] = 1 ∧ a'.natAbs ≤ a.natAbs ∧ b'.natAbs ≤ b.natAbs ∧ c'.natAbs ≤ c.natAbs := by
  have hp := gcdI3_pos (a := a) (b := b) hc
  obtain ⟨h1, h2, h3⟩ := low3_eq a b c
  have e : ∀ {u v k : Int}, 0 < k → u = k * v → v.natAbs ≤ u.natAbs := fun {u v k} hk he => by
    rw [he, Int.natAbs_mul]
    have : 1 * v.natAbs ≤ k.natAbs * v.natAbs := Nat.mul_le_mul_right _ (by omega)
    omega
  have key : thinL [a, b, c] = [(low3 (a, b, c)).1, (low3 (a, b, c)).2.1, (low3 (a, b, c)).2.2] := by
    unfold thinL
    split
    · rfl
    · rename_i h
      have g1 : gcdI [a, b, c] = 1 := by omega
      rw [g1, Int.one_mul] at h1 h2 h3
      rw [← h1, ← h2, ← h3]
  have hc' : 0 < (low3 (a, b, c)).2.2 := by
    rcases Int.lt_trichotomy (low3 (a, b, c)).2.2 0 with q | q | q
    · have := Int.mul_neg_of_pos_of_neg hp q; omega
    · rw [q] at h3; omega
    · exact q
  refine ⟨_, _, _, _, key, hp, h1, h2, h3, hc', ?_, e hp h1, e hp h2, e hp h3⟩
  have q := gcdI3_mul (gcdI [a, b, c]) (low3 (a, b, c)).1 (low3 (a, b, c)).2.1 (low3 (a, b, c)).2.2 (by omega)
  rw [← h1, ← h2, ← h3] at q
  have q2 : gcdI [a, b, c] * 1 = gcdI [a, b, c] * gcdI [(low3 (a, b, c)).1, (low3 (a, b, c)).2.1, (low3 (a, b, c)).2.2] := by rw [Int.mul_one]; exact q
  exact (Int.eq_of_mul_eq_mul_left (by omega) q2).symm
theorem red_ne {P S R : Int} (hR : 0 < R) (hg : gcdI [P, S, R] = 1) (h1 : (P, S, R) ≠ (0, 0, 1)) (h2 : (P, S, R) ≠ (1, 0, 1)) : (P ≠ 0 ∨ S ≠ 0) ∧ (P ≠ R ∨ S ≠ 0) := by
  rw [gcdI3] at hg
  refine ⟨?_, ?_⟩
  · by_cases hP : P = 0
    · by_cases hS : S = 0
      · subst hP hS
        exfalso
        have : R = 1 := by
          simp at hg
          omega
        subst this
        exact h1 rfl
      · exact .inr hS
    · exact .inl hP
  · by_cases hP : P = R
    · by_cases hS : S = 0
      · subst hP hS
        exfalso
        have : P = 1 := by
          simp at hg
          omega
        subst this
        exact h2 rfl
      · exact .inr hS
    · exact .inl hP
def V9 (i : Int) : Prop := i.natAbs < 2 ^ 9
instance (i : Int) : Decidable (Bx.U i) := inferInstanceAs (Decidable (_ < _))
structure SpotOk (p s r : Int) : Prop where
  a : V9 p
  b : V9 s
  c : V9 r
  d : 0 < r
  e : gcdI [p, s, r] = 1
theorem V9.T {i : Int} (h : V9 i) : Bx.T i := nz h (by decide)
theorem V9.U {i : Int} (h : V9 i) : Bx.U i := nz h (by decide)
structure ScOk (P S R : Int) : Prop where
  a : Bx.U P
  b : Bx.U S
  c : Bx.U R
  d : 0 < R
  e : P ≠ 0 ∨ S ≠ 0
  f : P ≠ R ∨ S ≠ 0
theorem gb {a b c : Int} {n : Nat} (hc : 0 < c) (h : c.natAbs < 2 ^ n) (hn : n ≤ 8900 := by decide) : (gcdI [a, b, c]).natAbs < 2 ^ 8900 := (g3 hc (nz h hn)).2.1
abbrev sp__law_spot (K : PySem.W.Frag) : Sp := SpS K (α := Nat × Nat) (fun y => [.int (y.2 : Int)]) (fun y g => Sk (y.1 + 3) g ∧ 1 ≤ y.2 ∧ y.2 ≤ 400) (fun y g d g2 => Sk y.1 g2 ∧ ∃ p s r : Int, d = dP (p, s, r) ∧ SpotOk p s r)
theorem sc84 : FnScope ["_law_spring_here", "_law_wide", "_law_p", "_law_s"] ["_law_spring_here", "_law_wide"] (defScope (topS 84)) := ⟨rfl, rfl, rfl, by decide +kernel, rfl, by decide +kernel, by decide +kernel⟩
theorem ok__law_spot (D : DefAt K mg "_law_spot" (topS 84)) (h__law_thin : OKs P w K mg base "_law_thin" 2 ["_law_some"] (sp__law_thin K)) (h__law_about : OKs P w K mg base "_law_about" 2 ["_law_spring_here", "_law_wide"] (sp__law_about K)) (h__law_draw : OKs P w K mg base "_law_draw" 1 ["_law_spring_here", "_law_top"] (sp__law_draw K)) : OKs P w K mg base "_law_spot" 3 ["_law_spring_here", "_law_wide"] (sp__law_spot K) := by
  refine okS (k := 2) D sc84 (fun _ _ _ _ _ _ us hl => match us, hl with | [_, _], _ => rfl) (fun _ => rfl) (fun y ss hp => ?_)
  refine ?_
  obtain ⟨k, t⟩ := y
  obtain ⟨hk, h1, h2⟩ := hp
  simp only at h1 h2 hk
  refine js_par 2 3 rfl rfl (by decide) sc84.nd rfl rfl (je_sp h__law_about (k + 2, t) (dl_name 0) (da_cons (de_name 1) da_nil) rfl ⟨hk, h2⟩ (fun d s1 hp1 => ?_))
  obtain ⟨hk1, p, rfl, hp⟩ := hp1
  refine je_sp h__law_about (k + 1, t) (dl_name 0) (da_cons (de_name 1) da_nil) rfl ⟨hk1, h2⟩ (fun d s2 hp2 => ?_)
  obtain ⟨hk2, s, rfl, hs⟩ := hp2
  refine js_ret (je_cl h__law_thin (ja_cons (je_lst (jad1 (de_name 2) (jad1 (de_name 3) (ja_cons (je_addL de_int (je_sp h__law_draw (k, t) (dl_name 0) (da_cons (de_name 1) da_nil) rfl ⟨hk2, h1, by show t ≤ 1000; omega⟩ (fun d s3 hp3 => ?_))))))))) 
  obtain ⟨hk3, r, rfl, hr⟩ := hp3
  simp only at hr hp hs
  obtain ⟨a', b', c', kk, e, _, _, _, _, h0, hg, q1, q2, q3⟩ := thin3 (a := p) (b := s) (c := 1 + (r : Int)) (by omega)
  refine ⟨_, rfl, ja_nil ⟨[.int p, .int s, .int (1 + (r : Int))], rfl, Nat.le_of_ble_eq_true rfl, ja_nil ⟨[p, s, 1 + (r : Int)], rfl, ⟨Nat.le_of_ble_eq_true rfl, gb (n := 9) (by omega) (by omega)⟩, .tuple [.int a', .int b', .int c'], s3, ?_, rfl, hk3, a', b', c', rfl, ⟨by unfold V9; omega, by unfold V9; omega, by unfold V9; omega, h0, hg⟩⟩⟩⟩
  rw [e]
  rfl
theorem low3_first {P R : Int} : (if P ≠ 0 then P else 2) ≠ 0 := by split <;> omega
abbrev sp__law_scale (K : PySem.W.Frag) : Sp := SpS K (α := Nat × Nat) (fun y => [.int (y.2 : Int)]) (fun y g => Sk (y.1 + 5) g ∧ 1 ≤ y.2 ∧ y.2 ≤ 400) (fun y g d g2 => Sk y.1 g2 ∧ ∃ P S R : Int, d = dP (P, S, R) ∧ ScOk P S R)
theorem sc85 : FnScope ["_law_spring_here", "_law_wide", "_law_way_here", "_law_spot_here"] ["_law_spring_here", "_law_wide"] (defScope (topS 85)) := ⟨rfl, rfl, rfl, by decide +kernel, rfl, by decide +kernel, by decide +kernel⟩
theorem ok__law_scale (D : DefAt K mg "_law_scale" (topS 85)) (h__law_draw : OKs P w K mg base "_law_draw" 1 ["_law_spring_here", "_law_top"] (sp__law_draw K)) (h__law_spot : OKs P w K mg base "_law_spot" 3 ["_law_spring_here", "_law_wide"] (sp__law_spot K)) (h__law_thin : OKs P w K mg base "_law_thin" 2 ["_law_some"] (sp__law_thin K)) (h__law_quotient : OKs P w K mg base "_law_quotient" 3 ["_law_top", "_law_low"] (sp__law_quotient K)) (h__law_one_of : OKs P w K mg base "_law_one_of" 2 ["_law_spring_here", "_law_some"] (sp__law_one_of K)) : OKs P w K mg base "_law_scale" 4 ["_law_spring_here", "_law_wide"] (sp__law_scale K) := by
  refine okS (k := 3) D sc85 (fun _ _ _ _ _ _ us hl => match us, hl with | [_, _], _ => rfl) (fun _ => rfl) (fun y ss hp => ?_)
  refine ?_
  obtain ⟨k, t⟩ := y
  obtain ⟨hk, h1, h2⟩ := hp
  simp only at h1 h2 hk
  refine js_par 2 3 rfl rfl (by decide) sc85.nd rfl rfl (je_sp h__law_draw (k + 4, 4) (dl_name 0) (da_cons de_int da_nil) rfl ⟨hk, by show 0 < 4; decide, by show 4 ≤ 1000; decide⟩ (fun d s1 hp1 => ?_))
  obtain ⟨hk1, w0, rfl, hw0⟩ := hp1
  refine je_sp h__law_spot (k + 1, t) (dl_name 0) (da_cons (de_name 1) da_nil) rfl ⟨hk1, h1, h2⟩ (fun d s2 hp2 => ?_)
  obtain ⟨hk2, p, s, r, rfl, hs⟩ := hp2
  refine js_ifn (fun δ' μ' => ∃ st P S R, δ' = [some (.loc 0), some (.dat (.int (t : Int))), some (.dat (.int (w0 : Int))), some (.dat (dP (P, S, R)))] ∧ μ' = [some (dS st)] ∧ Sk (k + 1) st ∧ SpotOk P S R) (dt_eq (de_name 2) de_int) (fun hq => ?_) (fun hq => ⟨s2, p, s, r, rfl, rfl, hk2, hs⟩) (fun δ' μ' iv => ?_)
  · obtain ⟨hVP, hVS, hVR, hR, hg⟩ := hs
    obtain ⟨a', b', c', kk, e, _, _, _, _, h0, hg', q1, q2, q3⟩ := thin3 (a := if p ≠ 0 then p else 2) (b := 0) (c := r) hR
    refine js_setD (d := dP (a', b', c')) 3 ⟨sc85.nd, rfl, .inl rfl, .inl rfl⟩ (DE.is (de_call h__law_thin [(if p ≠ 0 then p else 2), 0, r] (da_cons (de_lst (da_cons (DE.is (d := .int (if p ≠ 0 then p else 2)) (de_if (dt_ne (de_ixT (de_name 3) de_int) de_int) (fun hq => DE.is (de_ixT (de_name 3) de_int) ?_) (fun hq => DE.is de_int ?_)) rfl) (da_cons de_int (da_cons (de_ixT (de_name 3) de_int) da_nil)))) da_nil) ⟨Nat.le_of_ble_eq_true rfl, gb (n := 9) hR hVR⟩) ?_) (js_nil ⟨s2, a', b', c', rfl, rfl, hk2, ?_, ?_, ?_, h0, hg'⟩)
    · rw [eqv_int] at hq
      have hz : p ≠ 0 := by simpa using hq
      rw [if_pos hz]
    · rw [eqv_int] at hq
      have hz : p = 0 := by simpa using hq
      rw [if_neg (fun h => h hz)]
    · rw [e]; rfl
    · unfold V9 at *
      split at q1 <;> omega
    · unfold V9 at *; omega
    · unfold V9 at *; omega
  obtain ⟨st, P, S, R, rfl, rfl, hk3, hV⟩ := iv
  obtain ⟨hVP, hVS, hVR, hR, hg⟩ := hV
  refine js_ifn (fun δ' μ' => ∃ st P S R, δ' = [some (.loc 0), some (.dat (.int (t : Int))), some (.dat (.int (w0 : Int))), some (.dat (dP (P, S, R)))] ∧ μ' = [some (dS st)] ∧ Sk (k + 1) st ∧ Bx.U P ∧ Bx.U S ∧ Bx.U R ∧ 0 < R ∧ gcdI [P, S, R] = 1) (dt_and (dt_eq (de_name 2) de_int) fun hq => (dt_ne (DE.is (de_slT (de_name 3) do_none (do_some de_int)) rfl) (de_tup (da_cons de_int (da_cons de_int da_nil))))) (fun hq => ?_) (fun hq => ⟨st, P, S, R, rfl, rfl, hk3, hVP.U, hVS.U, hVR.U, hR, hg⟩) (fun δ' μ' iv => ?_)
  · have hne : P ≠ 0 ∨ 0 - S ≠ 0 := by
      have hq2 : (PyData.eqv (.int (w0 : Int)) (.int 1) && !(PyData.eqv (dC ⟨P, S⟩) (dC 0))) = true := hq
      rw [eqv_C, Bool.and_eq_true] at hq2
      have hz : (⟨P, S⟩ : GI) ≠ 0 := by simpa using hq2.2
      by_cases hP : P = 0
      · right
        intro hS
        apply hz
        rw [hP, show S = 0 by omega]; rfl
      · exact .inl hP
    have sz1 : Sz 2000 (⟨P, S⟩ : GI) := Sz.mono (n := 9) ⟨hVP, hVS⟩
    have sz2 : Sz 2000 (⟨P, 0 - S⟩ : GI) := Sz.mono (n := 9) ⟨hVP, ab_neg0 hVS⟩
    have hn := nrm_pos (gi_ne hne)
    obtain ⟨a', b', c', kk, e, _, _, _, _, h0, hg', q1, q2, q3⟩ := thin3 (a := ((⟨P, S⟩ : GI) * GI.bar ⟨P, 0 - S⟩).re) (b := ((⟨P, S⟩ : GI) * GI.bar ⟨P, 0 - S⟩).im) hn
    have hm : Sz 19 ((⟨P, S⟩ : GI) * GI.bar ⟨P, 0 - S⟩) := Sz.mul (n := 9) (m := 9) ⟨hVP, hVS⟩ (Sz.bar (n := 9) ⟨hVP, ab_neg0 hVS⟩)
    have hm2 : (nrm (⟨P, 0 - S⟩ : GI)).natAbs < 2 ^ 19 := Sz.nrm (n := 9) ⟨hVP, ab_neg0 hVS⟩
    refine js_setD (d := dP (a', b', c')) 3 ⟨sc85.nd, rfl, .inl rfl, .inl rfl⟩ (DE.is (de_call h__law_quotient (⟨P, S⟩, ⟨P, 0 - S⟩) (da_cons (de_tup (da_cons (de_ixT (de_name 3) de_int) (da_cons (de_ixT (de_name 3) de_int) da_nil))) (da_cons (de_tup (da_cons (de_ixT (de_name 3) de_int) (da_cons (de_sub de_int (de_ixT (de_name 3) de_int)) da_nil))) da_nil)) ⟨gi_ne hne, sz1, sz2⟩) ?_) (js_nil ⟨st, a', b', c', rfl, rfl, hk3, ?_, ?_, ?_, h0, hg'⟩)
    · rw [e]; rfl
    · exact Nat.lt_of_le_of_lt q1 (nz hm.1 (by decide))
    · exact Nat.lt_of_le_of_lt q2 (nz hm.2 (by decide))
    · exact Nat.lt_of_le_of_lt q3 (nz hm2 (by decide))
  obtain ⟨st, P, S, R, rfl, rfl, hk3, hUP, hUS, hUR, hR, hg⟩ := iv
  refine js_ifr (dt_inD (de_name 3) (de_lst (da_cons (de_tup (da_cons de_int (da_cons de_int (da_cons de_int da_nil)))) (da_cons (de_tup (da_cons de_int (da_cons de_int (da_cons de_int da_nil)))) da_nil)))) (fun hq => ?_) (fun hq => ?_)
  · refine js_ret (je_sp h__law_one_of (k, [dP (2, 0, 1), dP (0, 1, 1), dP (-1, 0, 1), dP (1, 1, 2), dP (1, 0, 3)]) (dl_name 0) (da_cons (de_lst (da_cons (de_tup (da_cons de_int (da_cons de_int (da_cons de_int da_nil)))) (da_cons (de_tup (da_cons de_int (da_cons de_int (da_cons de_int da_nil)))) (da_cons (de_tup (da_cons (de_neg de_int) (da_cons de_int (da_cons de_int da_nil)))) (da_cons (de_tup (da_cons de_int (da_cons de_int (da_cons de_int da_nil)))) (da_cons (de_tup (da_cons de_int (da_cons de_int (da_cons de_int da_nil)))) da_nil)))))) da_nil) rfl ⟨hk3, by simp, by show 5 ≤ 1000; decide⟩ (fun d s4 hp4 => ?_))
    obtain ⟨hk4, hm⟩ := hp4
    simp only [List.mem_cons, List.not_mem_nil, or_false] at hm
    rcases hm with rfl | rfl | rfl | rfl | rfl
    · exact ⟨_, s4, rfl, rfl, hk4, 2, 0, 1, rfl, ⟨by decide, by decide, by decide, by decide, by decide, by decide⟩⟩
    · exact ⟨_, s4, rfl, rfl, hk4, 0, 1, 1, rfl, ⟨by decide, by decide, by decide, by decide, by decide, by decide⟩⟩
    · exact ⟨_, s4, rfl, rfl, hk4, -1, 0, 1, rfl, ⟨by decide, by decide, by decide, by decide, by decide, by decide⟩⟩
    · exact ⟨_, s4, rfl, rfl, hk4, 1, 1, 2, rfl, ⟨by decide, by decide, by decide, by decide, by decide, by decide⟩⟩
    · exact ⟨_, s4, rfl, rfl, hk4, 1, 0, 3, rfl, ⟨by decide, by decide, by decide, by decide, by decide, by decide⟩⟩
  · have q : (0, 0, 1) ≠ (P, S, R) ∧ (1, 0, 1) ≠ (P, S, R) := by
      have hq' : ([dP (0, 0, 1), dP (1, 0, 1)].any fun z => PyData.eqv z (dP (P, S, R))) = false := hq
      simp only [List.any_cons, List.any_nil, eqv_P, Bool.or_false, Bool.or_eq_false_iff, decide_eq_false_iff_not] at hq'
      exact hq'
    obtain ⟨n1, n2⟩ := red_ne hR hg (Ne.symm q.1) (Ne.symm q.2)
    exact js_ret (je (d := dP (P, S, R)) (de_name 3) ⟨_, st, rfl, rfl, hk3.mono, P, S, R, rfl, ⟨hUP, hUS, hUR, hR, n1, n2⟩⟩)
end K79
end
section
set_option Elab.async false
set_option linter.all false
set_option maxRecDepth 100000
namespace K79
open PySem PySem.Spec PyProof.Rows L2 GI Mx Ch
variable {P : Program} {w : World} {K : PySem.W.Frag} {mg : Str → Option Value} {base : Heap}

abbrev sp__law_pair (K : PySem.W.Frag) : Sp := SpS K (α := Nat × Nat) (fun y => [.int (y.2 : Int)]) (fun y g => Sk (y.1 + 3) g ∧ y.2 ≤ 400) (fun y g d g2 => Sk y.1 g2 ∧ ∃ z : GI, d = dC z ∧ z ≠ 0 ∧ Sz 9 z)
theorem sc91 : FnScope ["_law_spring_here", "_law_wide", "_law_one"] ["_law_spring_here", "_law_wide"] (defScope (topS 91)) := ⟨rfl, rfl, rfl, by decide +kernel, rfl, by decide +kernel, by decide +kernel⟩
theorem ok__law_pair (D : DefAt K mg "_law_pair" (topS 91)) (h__law_about : OKs P w K mg base "_law_about" 2 ["_law_spring_here", "_law_wide"] (sp__law_about K)) (h__law_one_of : OKs P w K mg base "_law_one_of" 2 ["_law_spring_here", "_law_some"] (sp__law_one_of K)) : OKs P w K mg base "_law_pair" 3 ["_law_spring_here", "_law_wide"] (sp__law_pair K) := by
  refine okS (k := 2) D sc91 (fun _ _ _ _ _ _ us hl => match us, hl with | [_, _], _ => rfl) (fun _ => rfl) (fun y ss hp => ?_)
  refine ?_
  obtain ⟨k, t⟩ := y
  obtain ⟨hk, h2⟩ := hp
  simp only at h2 hk
  refine js_set 2 ⟨sc91.nd, rfl, .inl rfl, .inl rfl⟩ (je_tup (ja_cons (je_sp h__law_about (k + 2, t) (dl_name 0) (da_cons (de_name 1) da_nil) rfl ⟨hk, h2⟩ (fun d s1 hp1 => ?_))))
  obtain ⟨hk1, p, rfl, hp⟩ := hp1
  refine ja_cons (je_sp h__law_about (k + 1, t) (dl_name 0) (da_cons (de_name 1) da_nil) rfl ⟨hk1, h2⟩ (fun d s2 hp2 => ?_))
  obtain ⟨hk2, s, rfl, hs⟩ := hp2
  simp only at hp hs
  refine ja_nil ⟨[.int p, .int s], rfl, Nat.le_of_ble_eq_true rfl, ?_⟩
  refine js_ret (je_ifD (dt_ne (de_name 2) (de_tup (da_cons de_int (da_cons de_int da_nil)))) (fun hq => je (de_name 2) ⟨dC ⟨p, s⟩, s2, rfl, rfl, hk2.mono, ⟨p, s⟩, rfl, ?_, ⟨by show p.natAbs < 2 ^ 9; omega, by show s.natAbs < 2 ^ 9; omega⟩⟩) (fun hq => ?_))
  · have hq2 : (!(PyData.eqv (dC ⟨p, s⟩) (dC 0))) = true := hq
    rw [eqv_C] at hq2
    simpa using hq2
  refine je_sp h__law_one_of (k, [dC 1, dC ⟨0, 1⟩, dC ⟨1, -2⟩]) (dl_name 0) (da_cons (de_lst (da_cons (de_tup (da_cons de_int (da_cons de_int da_nil))) (da_cons (de_tup (da_cons de_int (da_cons de_int da_nil))) (da_cons (de_tup (da_cons de_int (da_cons (de_neg de_int) da_nil))) da_nil)))) da_nil) rfl ⟨hk2, by simp, by show 3 ≤ 1000; decide⟩ (fun d s4 hp4 => ?_)
  obtain ⟨hk4, hm⟩ := hp4
  simp only [List.mem_cons, List.not_mem_nil, or_false] at hm
  rcases hm with rfl | rfl | rfl
  · exact ⟨_, s4, rfl, rfl, hk4, 1, rfl, by decide, ⟨by decide, by decide⟩⟩
  · exact ⟨_, s4, rfl, rfl, hk4, ⟨0, 1⟩, rfl, by decide, ⟨by decide, by decide⟩⟩
  · exact ⟨_, s4, rfl, rfl, hk4, ⟨1, -2⟩, rfl, by decide, ⟨by decide, by decide⟩⟩
theorem thin2 {a b : Int} (hb : 0 < b) : ∃ a' b' k : Int, thinL [a, b] = [a', b'] ∧ 0 < k ∧ a = k * a' ∧ b = k * b' ∧ 0 < b' ∧ a'.natAbs ≤ a.natAbs ∧ b'.natAbs ≤ b.natAbs := by
  have e0 : gcdI [0, a, b] = gcdI [a, b] := by simp only [gcdI, List.foldl, Int.natAbs_natCast, Int.natAbs_zero, Nat.gcd_zero_left]
  obtain ⟨z, a', b', k, e, hk, h1, h2, h3, h4, _, q1, q2, q3⟩ := thin3 (a := 0) (b := a) (c := b) hb
  refine ⟨a', b', k, ?_, hk, h2, h3, h4, q2, q3⟩
  unfold thinL at e ⊢
  rw [e0] at e
  split at e
  · rename_i h
    rw [if_pos h]
    simp only [List.map_cons, List.map_nil, List.cons.injEq] at e ⊢
    exact e.2
  · rename_i h
    rw [if_neg h]
    simp only [List.cons.injEq] at e ⊢
    exact e.2
theorem g2b {a b : Int} {n : Nat} (hb : 0 < b) (h : b.natAbs < 2 ^ n) (hn : n ≤ 8900 := by decide) : (gcdI [a, b]).natAbs < 2 ^ 8900 := by
  have e0 : gcdI [0, a, b] = gcdI [a, b] := by simp only [gcdI, List.foldl, Int.natAbs_natCast, Int.natAbs_zero, Nat.gcd_zero_left]
  rw [← e0]
  exact gb hb h hn
abbrev sp__law_power (K : PySem.W.Frag) : Sp := SpS K (α := Nat × Nat) (fun y => [.int (y.2 : Int)]) (fun y g => Sk (y.1 + 3) g ∧ 1 ≤ y.2 ∧ y.2 ≤ 400) (fun y g d g2 => Sk y.1 g2 ∧ ∃ n m : Int, d = .tuple [.int n, .int m] ∧ Bx.T n ∧ n ≠ 0 ∧ Bx.T m ∧ 0 < m)
theorem sc88 : FnScope ["_law_spring_here", "_law_wide", "_law_n"] ["_law_spring_here", "_law_wide"] (defScope (topS 88)) := ⟨rfl, rfl, rfl, by decide +kernel, rfl, by decide +kernel, by decide +kernel⟩
theorem ok__law_power (D : DefAt K mg "_law_power" (topS 88)) (h__law_about : OKs P w K mg base "_law_about" 2 ["_law_spring_here", "_law_wide"] (sp__law_about K)) (h__law_thin : OKs P w K mg base "_law_thin" 2 ["_law_some"] (sp__law_thin K)) (h__law_draw : OKs P w K mg base "_law_draw" 1 ["_law_spring_here", "_law_top"] (sp__law_draw K)) : OKs P w K mg base "_law_power" 3 ["_law_spring_here", "_law_wide"] (sp__law_power K) := by
  refine okS (k := 2) D sc88 (fun _ _ _ _ _ _ us hl => match us, hl with | [_, _], _ => rfl) (fun _ => rfl) (fun y ss hp => ?_)
  refine ?_
  obtain ⟨k, t⟩ := y
  obtain ⟨hk, h1, h2⟩ := hp
  simp only at h1 h2 hk
  refine js_set 2 ⟨sc88.nd, rfl, .inl rfl, .inl rfl⟩ (je_sp h__law_about (k + 2, t) (dl_name 0) (da_cons (de_name 1) da_nil) rfl ⟨hk, h2⟩ (fun d s1 hp1 => ?_))
  obtain ⟨hk1, n, rfl, hn⟩ := hp1
  simp only at hn
  refine js_ret (je_cl h__law_thin (ja_cons (je_lst (ja_cons (JE.imp (Φ := fun s μ1 => ∃ (i : Int) (s2 : Sg), s = .dat (.int i) ∧ i ≠ 0 ∧ i.natAbs ≤ 400 ∧ μ1 = [some (dS s2)] ∧ Sk (k + 1) s2) (je_ifD (dt_ne (de_name 2) de_int) (fun hq => je (de_name 2) ⟨n, s1, rfl, ?_, by omega, rfl, hk1.mono⟩) (fun hq => je_addL de_int (je_sp h__law_draw (k + 1, 4) (dl_name 0) (da_cons de_int da_nil) rfl ⟨hk1, by show 0 < 4; decide, by show 4 ≤ 1000; decide⟩ (fun d s2 hp2 => ?_)))) (fun s μ1 hs => ?_))))))
  · rw [eqv_int] at hq
    simpa using hq
  · obtain ⟨hk2, r, rfl, hr⟩ := hp2
    simp only at hr
    exact ⟨_, rfl, 1 + (r : Int), s2, rfl, by omega, by omega, rfl, hk2⟩
  obtain ⟨i, s2, rfl, hi, hi2, rfl, hk2⟩ := hs
  refine ja_cons (je_addL de_int (je_sp h__law_draw (k, t) (dl_name 0) (da_cons (de_name 1) da_nil) rfl ⟨hk2, h1, by show t ≤ 1000; omega⟩ (fun d s3 hp3 => ?_)))
  obtain ⟨hk3, r, rfl, hr⟩ := hp3
  simp only at hr
  obtain ⟨a1, b1, kk, e, hkk, e1, e2, h0, q1, q2⟩ := thin2 (a := i) (b := 1 + (r : Int)) (by omega)
  refine ⟨_, rfl, ja_nil ⟨[.int i, .int (1 + (r : Int))], rfl, Nat.le_of_ble_eq_true rfl, ja_nil ⟨[i, 1 + (r : Int)], rfl, ⟨Nat.le_of_ble_eq_true rfl, g2b (n := 9) (by omega) (by omega)⟩, .tuple [.int a1, .int b1], s3, ?_, rfl, hk3, a1, b1, rfl, by unfold Bx.T; omega, fun z => hi (by rw [e1, z, Int.mul_zero]), by unfold Bx.T; omega, h0⟩⟩⟩
  rw [e]
  rfl
abbrev sp__law_span (K : PySem.W.Frag) : Sp := SpS K (α := Nat) (fun _ => []) (fun y g => Sk (y + 4) g) (fun y g d g2 => Sk y g2)
theorem sc86 : FnScope ["_law_spring_here", "_law_one", "_law_two"] ["_law_spring_here"] (defScope (topS 86)) := ⟨rfl, rfl, rfl, by decide +kernel, rfl, by decide +kernel, by decide +kernel⟩
theorem ok__law_span (D : DefAt K mg "_law_span" (topS 86)) (h__law_thin : OKs P w K mg base "_law_thin" 2 ["_law_some"] (sp__law_thin K)) (h__law_draw : OKs P w K mg base "_law_draw" 1 ["_law_spring_here", "_law_top"] (sp__law_draw K)) : OKs P w K mg base "_law_span" 3 ["_law_spring_here"] (sp__law_span K) := by
  refine okS (k := 2) D sc86 (fun _ _ _ _ _ _ us hl => match us, hl with | [_], _ => rfl) (fun _ => rfl) (fun y ss hp => ?_)
  refine ?_
  have hk : Sk (y + 4) ss := hp
  refine js_set 1 ⟨sc86.nd, rfl, .inl rfl, .inl rfl⟩ (je_cl h__law_thin (ja_cons (je_lst (ja_cons (je_addL de_int (je_sp h__law_draw ((y + 2) + 1, 9) (dl_name 0) (da_cons de_int da_nil) rfl ⟨hk, by show 0 < 9; decide, by show 9 ≤ 1000; decide⟩ (fun d s1x hp1 => ?_)))))))
  obtain ⟨hk1x, r1x, rfl, hr1x⟩ := hp1
  simp only at hr1x
  refine ⟨_, rfl, ja_cons (je_addL de_int (je_sp h__law_draw ((y + 2), 9) (dl_name 0) (da_cons de_int da_nil) rfl ⟨hk1x, by show 0 < 9; decide, by show 9 ≤ 1000; decide⟩ (fun d s2x hp2 => ?_)))⟩
  obtain ⟨hk2x, r2x, rfl, hr2x⟩ := hp2
  simp only at hr2x
  obtain ⟨ax, bx, kkx, ex, hkkx, _, _, h0x, q1x, q2x⟩ := thin2 (a := 1 + (r1x : Int)) (b := 1 + (r2x : Int)) (by omega)
  refine ⟨_, rfl, ja_nil ⟨[.int (1 + (r1x : Int)), .int (1 + (r2x : Int))], rfl, Nat.le_of_ble_eq_true rfl, ja_nil ⟨[1 + (r1x : Int), 1 + (r2x : Int)], rfl, ⟨Nat.le_of_ble_eq_true rfl, g2b (n := 9) (by omega) (by omega)⟩, ?_⟩⟩⟩
  rw [show (PyData.tuple ((thinL [1 + (r1x : Int), 1 + (r2x : Int)]).map .int)) = .tuple [.int ax, .int bx] by rw [ex]; rfl]
  refine js_set 2 ⟨sc86.nd, rfl, .inl rfl, .inl rfl⟩ (je_cl h__law_thin (ja_cons (je_lst (ja_cons (je_addL de_int (je_sp h__law_draw (y + 1, 400) (dl_name 0) (da_cons de_int da_nil) rfl ⟨hk2x, by show 0 < 400; decide, by show 400 ≤ 1000; decide⟩ (fun d s1w hp1 => ?_)))))))
  obtain ⟨hk1w, r1w, rfl, hr1w⟩ := hp1
  simp only at hr1w
  refine ⟨_, rfl, ja_cons (je_addL de_int (je_sp h__law_draw (y, 3) (dl_name 0) (da_cons de_int da_nil) rfl ⟨hk1w, by show 0 < 3; decide, by show 3 ≤ 1000; decide⟩ (fun d s2w hp2 => ?_)))⟩
  obtain ⟨hk2w, r2w, rfl, hr2w⟩ := hp2
  simp only at hr2w
  obtain ⟨aw, bw, kkw, ew, hkkw, _, _, h0w, q1w, q2w⟩ := thin2 (a := 1 + (r1w : Int)) (b := 1 + (r2w : Int)) (by omega)
  refine ⟨_, rfl, ja_nil ⟨[.int (1 + (r1w : Int)), .int (1 + (r2w : Int))], rfl, Nat.le_of_ble_eq_true rfl, ja_nil ⟨[1 + (r1w : Int), 1 + (r2w : Int)], rfl, ⟨Nat.le_of_ble_eq_true rfl, g2b (n := 9) (by omega) (by omega)⟩, ?_⟩⟩⟩
  rw [show (PyData.tuple ((thinL [1 + (r1w : Int), 1 + (r2w : Int)]).map .int)) = .tuple [.int aw, .int bw] by rw [ew]; rfl]
  refine js_ifr (dt_eq (de_name 1) (de_name 2)) (fun hq => js_ret (je (de_tup (da_cons (de_name 1) (da_cons (de_tup (da_cons (de_add (de_ixT (de_name 1) de_int) (de_ixT (de_name 1) de_int)) (da_cons (de_ixT (de_name 1) de_int) da_nil))) da_nil))) ⟨_, s2w, rfl, rfl, hk2w⟩)) (fun hq => js_ret (je_ifD (dt_lt (de_mul (cm (show ax.natAbs < 2 ^ 9 by omega) (show bw.natAbs < 2 ^ 9 by omega)) (de_ixT (de_name 1) de_int) (de_ixT (de_name 2) de_int)) (de_mul (cm (show aw.natAbs < 2 ^ 9 by omega) (show bx.natAbs < 2 ^ 9 by omega)) (de_ixT (de_name 2) de_int) (de_ixT (de_name 1) de_int))) (fun hq => je (de_tup (da_cons (de_name 1) (da_cons (de_name 2) da_nil))) ⟨_, s2w, rfl, rfl, hk2w⟩) (fun hq => je (de_tup (da_cons (de_name 2) (da_cons (de_name 1) da_nil))) ⟨_, s2w, rfl, rfl, hk2w⟩)))
theorem thin4 {l m k : Int} (h : l ≠ 0 ∨ m ≠ 0) : ∃ l' m' k' : Int, thinL [0, l, m, k] = [0, l', m', k'] ∧ (l' ≠ 0 ∨ m' ≠ 0) ∧ l'.natAbs ≤ l.natAbs ∧ m'.natAbs ≤ m.natAbs ∧ k'.natAbs ≤ k.natAbs ∧ gcdI [0, l, m, k] = ((Nat.gcd (Nat.gcd l.natAbs m.natAbs) k.natAbs : Nat) : Int) := by
  have e : gcdI [0, l, m, k] = ((Nat.gcd (Nat.gcd l.natAbs m.natAbs) k.natAbs : Nat) : Int) := by simp only [gcdI, List.foldl, Int.natAbs_natCast, Int.natAbs_zero, Nat.gcd_zero_left]
  have hp : 0 < Nat.gcd (Nat.gcd l.natAbs m.natAbs) k.natAbs := by
    refine Nat.gcd_pos_of_pos_left _ ?_
    rcases h with h | h
    · exact Nat.gcd_pos_of_pos_left _ (by omega)
    · exact Nat.gcd_pos_of_pos_right _ (by omega)
  have d1 : ((Nat.gcd (Nat.gcd l.natAbs m.natAbs) k.natAbs : Nat) : Int) ∣ l := Int.ofNat_dvd_left.mpr (Nat.dvd_trans (Nat.gcd_dvd_left _ _) (Nat.gcd_dvd_left _ _))
  have d2 : ((Nat.gcd (Nat.gcd l.natAbs m.natAbs) k.natAbs : Nat) : Int) ∣ m := Int.ofNat_dvd_left.mpr (Nat.dvd_trans (Nat.gcd_dvd_left _ _) (Nat.gcd_dvd_right _ _))
  have d3 : ((Nat.gcd (Nat.gcd l.natAbs m.natAbs) k.natAbs : Nat) : Int) ∣ k := Int.ofNat_dvd_left.mpr (Nat.gcd_dvd_right _ _)
  generalize hg : ((Nat.gcd (Nat.gcd l.natAbs m.natAbs) k.natAbs : Nat) : Int) = g at *
  have hg0 : 0 < g := by omega
  obtain ⟨l', rfl⟩ := d1
  obtain ⟨m', rfl⟩ := d2
  obtain ⟨k', rfl⟩ := d3
  have f : ∀ v : Int, v.natAbs ≤ (g * v).natAbs := fun v => by
    rw [Int.natAbs_mul]
    have : 1 * v.natAbs ≤ g.natAbs * v.natAbs := Nat.mul_le_mul_right _ (by omega)
    omega
  by_cases h1 : 1 < g
  · refine ⟨l', m', k', ?_, ?_, f _, f _, f _, e⟩
    · unfold thinL
      rw [e, if_pos h1]
      simp only [List.map_cons, List.map_nil, Int.zero_ediv, Int.mul_ediv_cancel_left _ (show g ≠ 0 by omega)]
    · rcases h with h | h
      · exact .inl (fun z => h (by rw [z, Int.mul_zero]))
      · exact .inr (fun z => h (by rw [z, Int.mul_zero]))
  · refine ⟨g * l', g * m', g * k', ?_, h, Nat.le_refl _, Nat.le_refl _, Nat.le_refl _, e⟩
    unfold thinL
    rw [e, if_neg h1]
theorem up4 {l m k : Int} (h : l ≠ 0 ∨ m ≠ 0) : ∃ l' m' k' : Int, upF [0, l, m, k] [0, l, m, k] = [0, l', m', k'] ∧ (l' ≠ 0 ∨ m' ≠ 0) ∧ l'.natAbs = l.natAbs ∧ m'.natAbs = m.natAbs ∧ k'.natAbs = k.natAbs := by
  have key : upF [0, l, m, k] [0, l, m, k] = [0, l, m, k] ∨ upF [0, l, m, k] [0, l, m, k] = [0, 0 - l, 0 - m, 0 - k] := by
    simp only [upF, List.map_cons, List.map_nil, ne_eq, not_true_eq_false, if_false, Int.sub_self]
    repeat' split
    all_goals simp
  rcases key with e | e
  · exact ⟨l, m, k, e, h, rfl, rfl, rfl⟩
  · exact ⟨0 - l, 0 - m, 0 - k, e, by omega, by omega, by omega, by omega⟩
abbrev sp__law_stroke (K : PySem.W.Frag) : Sp := SpS K (α := Nat × Nat) (fun y => [.int (y.2 : Int)]) (fun y g => Sk (y.1 + 4) g ∧ y.2 ≤ 400) (fun y g d g2 => Sk y.1 g2 ∧ ∃ l m k : Int, d = .tuple [.int 0, .int l, .int m, .int k] ∧ Bx.T l ∧ Bx.T m ∧ Bx.T k ∧ (l ≠ 0 ∨ m ≠ 0))
theorem sc87 : FnScope ["_law_spring_here", "_law_wide", "_law_l", "_law_m"] ["_law_spring_here", "_law_wide"] (defScope (topS 87)) := ⟨rfl, rfl, rfl, by decide +kernel, rfl, by decide +kernel, by decide +kernel⟩
theorem ok__law_stroke (D : DefAt K mg "_law_stroke" (topS 87)) (h__law_upright : OKs P w K mg base "_law_upright" 1 ["_law_some"] (sp__law_upright K)) (h__law_about : OKs P w K mg base "_law_about" 2 ["_law_spring_here", "_law_wide"] (sp__law_about K)) (h__law_one_of : OKs P w K mg base "_law_one_of" 2 ["_law_spring_here", "_law_some"] (sp__law_one_of K)) (h__law_thin : OKs P w K mg base "_law_thin" 2 ["_law_some"] (sp__law_thin K)) : OKs P w K mg base "_law_stroke" 3 ["_law_spring_here", "_law_wide"] (sp__law_stroke K) := by
  refine okS (k := 2) D sc87 (fun _ _ _ _ _ _ us hl => match us, hl with | [_, _], _ => rfl) (fun _ => rfl) (fun y ss hp => ?_)
  refine ?_
  obtain ⟨k, t⟩ := y
  obtain ⟨hk, h2⟩ := hp
  simp only at h2 hk
  refine js_par 2 3 rfl rfl (by decide) sc87.nd rfl rfl (je_sp h__law_about (k + 3, t) (dl_name 0) (da_cons (de_name 1) da_nil) rfl ⟨hk, h2⟩ (fun d s1 hp1 => ?_))
  obtain ⟨hk1, p, rfl, hp⟩ := hp1
  refine je_sp h__law_about (k + 2, t) (dl_name 0) (da_cons (de_name 1) da_nil) rfl ⟨hk1, h2⟩ (fun d s2 hp2 => ?_)
  obtain ⟨hk2, s, rfl, hs⟩ := hp2
  simp only at hp hs
  refine js_ifn (fun δ' μ' => ∃ st l m, δ' = [some (.loc 0), some (.dat (.int (t : Int))), some (.dat (.int l)), some (.dat (.int m))] ∧ μ' = [some (dS st)] ∧ Sk (k + 1) st ∧ l.natAbs ≤ 400 ∧ m.natAbs ≤ 400 ∧ (l ≠ 0 ∨ m ≠ 0)) (dt_eq (de_tup (da_cons (de_name 2) (da_cons (de_name 3) da_nil))) (de_tup (da_cons de_int (da_cons de_int da_nil)))) (fun hq => ?_) (fun hq => ⟨s2, p, s, rfl, rfl, hk2.mono, by omega, by omega, ?_⟩) (fun δ' μ' iv => ?_)
  · refine js_asg (je_sp h__law_one_of (k + 1, [dC 1, dC ⟨0, 1⟩, dC ⟨1, -1⟩]) (dl_name 0) (da_cons (de_lst (da_cons (de_tup (da_cons de_int (da_cons de_int da_nil))) (da_cons (de_tup (da_cons de_int (da_cons de_int da_nil))) (da_cons (de_tup (da_cons de_int (da_cons (de_neg de_int) da_nil))) da_nil)))) da_nil) rfl ⟨hk2, by simp, by show 3 ≤ 1000; decide⟩ (fun d s4 hp4 => ?_))
    obtain ⟨hk4, hm⟩ := hp4
    simp only [List.mem_cons, List.not_mem_nil, or_false] at hm
    rcases hm with rfl | rfl | rfl
    · exact (jg_tup (jgs_cons (jg_name (k := 2) ⟨sc87.nd, rfl, .inl rfl, .inl rfl⟩ (jgs_cons (jg_name (k := 3) ⟨sc87.nd, rfl, .inl rfl, .inl rfl⟩ (jgs_nil (js_nil ⟨s4, 1, 0, rfl, rfl, hk4, by decide, by decide, by decide⟩)))))))
    · exact (jg_tup (jgs_cons (jg_name (k := 2) ⟨sc87.nd, rfl, .inl rfl, .inl rfl⟩ (jgs_cons (jg_name (k := 3) ⟨sc87.nd, rfl, .inl rfl, .inl rfl⟩ (jgs_nil (js_nil ⟨s4, 0, 1, rfl, rfl, hk4, by decide, by decide, by decide⟩)))))))
    · exact (jg_tup (jgs_cons (jg_name (k := 2) ⟨sc87.nd, rfl, .inl rfl, .inl rfl⟩ (jgs_cons (jg_name (k := 3) ⟨sc87.nd, rfl, .inl rfl, .inl rfl⟩ (jgs_nil (js_nil ⟨s4, 1, -1, rfl, rfl, hk4, by decide, by decide, by decide⟩)))))))
  · have hq2 : PyData.eqv (dC ⟨p, s⟩) (dC 0) = false := hq
    rw [eqv_C] at hq2
    have hz : (⟨p, s⟩ : GI) ≠ 0 := by simpa using hq2
    by_cases hp0 : p = 0
    · right
      intro hs0
      apply hz
      rw [hp0, hs0]; rfl
    · exact .inl hp0
  obtain ⟨st, l, m, rfl, rfl, hk3, hl, hm, hne⟩ := iv
  refine js_ret (je_cl h__law_upright (ja_cons (je_cl h__law_thin (ja_cons (je_lst (jad1 de_int (jad1 (de_name 2) (jad1 (de_name 3) (ja_cons (je_sp h__law_about (k, t) (dl_name 0) (da_cons (de_name 1) da_nil) rfl ⟨hk3, h2⟩ (fun d s5 hp5 => ?_))))))))))) 
  obtain ⟨hk5, v, rfl, hv⟩ := hp5
  simp only at hv
  obtain ⟨l1, m1, v1, e1, hne1, q1, q2, q3, eg⟩ := thin4 (k := v) hne
  obtain ⟨l2, m2, v2, e2, hne2, r1, r2, r3⟩ := up4 (k := v1) hne1
  have hgb : (gcdI [0, l, m, v]).natAbs < 2 ^ 8900 := by
    rw [eg, Int.natAbs_natCast]
    have hx : Nat.gcd (Nat.gcd l.natAbs m.natAbs) v.natAbs ≤ 400 := by
      have hp : 0 < Nat.gcd l.natAbs m.natAbs := by
        rcases hne with h | h
        · exact Nat.gcd_pos_of_pos_left _ (by omega)
        · exact Nat.gcd_pos_of_pos_right _ (by omega)
      refine Nat.le_trans (Nat.le_of_dvd hp (Nat.gcd_dvd_left _ _)) ?_
      rcases hne with h | h
      · exact Nat.le_trans (Nat.le_of_dvd (by omega) (Nat.gcd_dvd_left _ _)) hl
      · exact Nat.le_trans (Nat.le_of_dvd (by omega) (Nat.gcd_dvd_right _ _)) hm
    exact Nat.lt_of_le_of_lt hx (Nat.lt_of_lt_of_le (show 400 < 2 ^ 9 by decide) (Nat.pow_le_pow_right (by decide) (by decide)))
  refine ja_nil ⟨[.int 0, .int l, .int m, .int v], rfl, Nat.le_of_ble_eq_true rfl, ja_nil ⟨[0, l, m, v], rfl, ⟨Nat.le_of_ble_eq_true rfl, hgb⟩, ja_nil ⟨[0, l1, m1, v1], by rw [e1]; rfl, by show 4 ≤ 1000; decide, .tuple [.int 0, .int l2, .int m2, .int v2], s5, ?_, rfl, hk5, l2, m2, v2, rfl, by unfold Bx.T; omega, by unfold Bx.T; omega, by unfold Bx.T; omega, hne2⟩⟩⟩
  rw [e2]
  rfl
end K79
end
section
set_option Elab.async false
set_option linter.all false
set_option maxRecDepth 100000
namespace K79
open PySem PySem.Spec PyProof.Rows L2 GI Mx Ch
variable {P : Program} {w : World} {K : PySem.W.Frag} {mg : Str → Option Value} {base : Heap}

section
variable {C : Ctx} {e a b c : Expr} {es : List Expr} {δ : En} {μ : Mem} {Φ : SV → Mem → Prop} {pos : Pos} {d : PyData} {x : Str}
theorem jtd {k : Bool} {Φ : Bool → Mem → Prop} (h : DT C e δ μ k) (q : Φ k μ) : JT C e δ μ Φ := h _ q
theorem je_spJ {n : Nat} {k : Nat} {ps : List Str} {α : Type} {args : α → List PyData} {pre : α → Sg → Prop} {post : α → Sg → PyData → Sg → Prop} {pp : Pos} (F : OKc C x k ps (SpS C.K args pre post)) (hs : DL C e δ μ n) (h : JA C es δ μ fun ss μ1 => ∃ st y, ss = (args y).map .dat ∧ μ1[n]? = some (some (dS st)) ∧ pre y st ∧ ∀ d st', post y st d st' → Φ (.dat d) (μ1.set n (some (dS st'))))
    (hk : k ≤ C.k := by exact Nat.le_of_ble_eq_true rfl) (hg : GlC C x := by rfl) (hdb : (x == ("__debug__" : Str)) = false := by decide)
    (hst : ∀ env, starEach (e :: es) env = (false, eval e env) :: starEach es env := by intro _; rfl) (hpl : ∀ env, (backTo pos (starEach es env)).any (·.1) = false := by intro _; rfl) : JE C (.Call (.Name x pp) (e :: es) [] pos) δ μ Φ :=
  je_callS F hk hg hdb hst hpl (ja_cons (hs _ (fun hs' σ H as S Q k => h hs' σ H as S Q fun vs H2 ss μ2 as2 n2 m2 sv2 ⟨st, y, e1, e2, e3, e4⟩ => k vs H2 ss μ2 as2 n2 m2 sv2 ⟨n, st, y, by rw [e1], e2, e3, e4⟩)) hst)
theorem je_tupleL {pp : Pos} (hm : NoC C "tuple") (h : JE C a δ μ fun s μ1 => ∃ ds, s = .dat (.list ds) ∧ Φ (.dat (.tuple ds)) μ1) (hg : GlC C "tuple" := by rfl) (hst : ∀ env, starEach [a] env = (false, eval a env) :: starEach [] env := by intro _; rfl) (hpl : ∀ env, (backTo pos (starEach [] env)).any (·.1) = false := by intro _; rfl) : JE C (.Call (.Name "tuple" pp) [a] [] pos) δ μ Φ :=
  je_callTy (fun _ hX => tupR hX) hm bTuple hg (by decide) (by decide) hst hpl (ja_cons (h.imp fun s μ' ⟨ds, e1, p⟩ => ja_nil ⟨[.list ds], .tuple ds, by rw [e1]; rfl, caTupL, p⟩) hst)
end
theorem word4 {z : Str} (h : z ∈ wordsS) : z = "carry" ∨ z = "grow" ∨ z = "turnabout" ∨ z = "mirror" := by simpa [wordsS] using h
abbrev sp__law_box (K : PySem.W.Frag) : Sp := SpS K (α := Nat × Str × Nat) (fun y => [.str y.2.1, .int (y.2.2 : Int)]) (fun y g => Sk (y.1 + 12) g ∧ y.2.1 ∈ wordsS ∧ 1 ≤ y.2.2 ∧ y.2.2 ≤ 400) (fun y g d g2 => Sk y.1 g2 ∧ ∃ b : Bx, d = b.dat ∧ b.ok ∧ b.word = y.2.1)
theorem sc89 : FnScope ["_law_spring_here", "_law_word", "_law_wide", "_law_spot_here"] ["_law_spring_here", "_law_word", "_law_wide"] (defScope (topS 89)) := ⟨rfl, rfl, rfl, by decide +kernel, rfl, by decide +kernel, by decide +kernel⟩
theorem ok__law_box (D : DefAt K mg "_law_box" (topS 89)) (h__law_spot : OKs P w K mg base "_law_spot" 3 ["_law_spring_here", "_law_wide"] (sp__law_spot K)) (h__law_power : OKs P w K mg base "_law_power" 3 ["_law_spring_here", "_law_wide"] (sp__law_power K)) (h__law_span : OKs P w K mg base "_law_span" 3 ["_law_spring_here"] (sp__law_span K)) (h__law_stroke : OKs P w K mg base "_law_stroke" 3 ["_law_spring_here", "_law_wide"] (sp__law_stroke K)) (h__law_scale : OKs P w K mg base "_law_scale" 4 ["_law_spring_here", "_law_wide"] (sp__law_scale K)) (h__law_one_of : OKs P w K mg base "_law_one_of" 2 ["_law_spring_here", "_law_some"] (sp__law_one_of K)) : OKs P w K mg base "_law_box" 5 ["_law_spring_here", "_law_word", "_law_wide"] (sp__law_box K) := by
  refine okS (k := 4) D sc89 (fun _ _ _ _ _ _ us hl => match us, hl with | [_, _, _], _ => rfl) (fun _ => rfl) (fun y ss hp => ?_)
  refine ?_
  obtain ⟨k, z, t⟩ := y
  obtain ⟨hk, hz, h1, h2⟩ := hp
  simp only at h1 h2 hk hz
  rcases word4 hz with rfl | rfl | rfl | rfl
  · refine js_ifr (q := true) (DT.is (dt_eq (de_name 1) de_str (by first | decide +kernel | (dsimp only; decide +kernel)) (by decide +kernel)) (by first | decide +kernel | (dsimp only; decide +kernel))) (fun hq => ?_) (fun hq => nomatch hq)
    refine js_set 3 ⟨sc89.nd, rfl, .inl rfl, .inl rfl⟩ (je_sp h__law_spot (k + 9, t) (dl_name 0) (da_cons (de_name 2) da_nil) rfl ⟨hk, h1, h2⟩ (fun d s1 hp1 => ?_))
    obtain ⟨hk1, p, s, r, rfl, hs⟩ := hp1
    refine js_ret (je_tup (jad1 de_str (ja_cons (je_ifD (dt_ne (de_name 3) (de_tup (da_cons de_int (da_cons de_int (da_cons de_int da_nil))))) (fun hq => je (de_name 3) ?_) (fun hq => je_sp h__law_one_of (k, [dP (1, 0, 1), dP (0, -1, 2), dP (3, 4, 5)]) (dl_name 0) (da_cons (de_lst (da_cons (de_tup (da_cons de_int (da_cons de_int (da_cons de_int da_nil)))) (da_cons (de_tup (da_cons de_int (da_cons (de_neg de_int) (da_cons de_int da_nil)))) (da_cons (de_tup (da_cons de_int (da_cons de_int (da_cons de_int da_nil)))) da_nil)))) da_nil) rfl ⟨hk1.mono, by simp, by show 3 ≤ 1000; decide⟩ (fun d s4 hp4 => ?_))))))
    · exact ja_nil ⟨[.str "carry", dP (p, s, r)], rfl, Nat.le_of_ble_eq_true rfl, _, s1, rfl, rfl, hk1.mono, Bx.ca p s r, rfl, ⟨hs.a.T, hs.b.T, hs.c.T, hs.d⟩, rfl⟩
    · obtain ⟨hk4, hm⟩ := hp4
      simp only [List.mem_cons, List.not_mem_nil, or_false] at hm
      rcases hm with rfl | rfl | rfl
      · exact ja_nil ⟨[.str "carry", dP (1, 0, 1)], rfl, Nat.le_of_ble_eq_true rfl, _, s4, rfl, rfl, hk4, Bx.ca 1 0 1, rfl, ⟨by unfold Bx.T; decide, by unfold Bx.T; decide, by unfold Bx.T; decide, by decide⟩, rfl⟩
      · exact ja_nil ⟨[.str "carry", dP (0, -1, 2)], rfl, Nat.le_of_ble_eq_true rfl, _, s4, rfl, rfl, hk4, Bx.ca 0 (-1) 2, rfl, ⟨by unfold Bx.T; decide, by unfold Bx.T; decide, by unfold Bx.T; decide, by decide⟩, rfl⟩
      · exact ja_nil ⟨[.str "carry", dP (3, 4, 5)], rfl, Nat.le_of_ble_eq_true rfl, _, s4, rfl, rfl, hk4, Bx.ca 3 4 5, rfl, ⟨by unfold Bx.T; decide, by unfold Bx.T; decide, by unfold Bx.T; decide, by decide⟩, rfl⟩
  · refine js_ifr (q := false) (DT.is (dt_eq (de_name 1) de_str (by first | decide +kernel | (dsimp only; decide +kernel)) (by decide +kernel)) (by first | decide +kernel | (dsimp only; decide +kernel))) (fun hq => nomatch hq) (fun hq => ?_)
    refine js_ifr (q := false) (DT.is (dt_eq (de_name 1) de_str (by first | decide +kernel | (dsimp only; decide +kernel)) (by decide +kernel)) (by first | decide +kernel | (dsimp only; decide +kernel))) (fun hq => nomatch hq) (fun hq => ?_)
    refine js_set 3 ⟨sc89.nd, rfl, .inl rfl, .inl rfl⟩ (je_sp h__law_spot (k + 9, t) (dl_name 0) (da_cons (de_name 2) da_nil) rfl ⟨hk, h1, h2⟩ (fun d s1 hp1 => ?_))
    obtain ⟨hk1, p, s, r, rfl, hs⟩ := hp1
    refine js_ifr (q := true) (DT.is (dt_eq (de_name 1) de_str (by first | decide +kernel | (dsimp only; decide +kernel)) (by decide +kernel)) (by first | decide +kernel | (dsimp only; decide +kernel))) (fun hq => ?_) (fun hq => nomatch hq)
    refine js_ret (je_tup (jad1 de_str (jad1 (de_name 3) (ja_cons (je_sp h__law_scale (k + 4, t) (dl_name 0) (da_cons (de_name 2) da_nil) rfl ⟨hk1, h1, h2⟩ (fun d s2 hp2 => ?_))))))
    obtain ⟨hk2, P, S, R, rfl, hS⟩ := hp2
    refine ja_cons (je_sp h__law_span k (dl_name 0) da_nil rfl hk2 (fun d s3 hk3 => ?_))
    exact ja_nil ⟨[.str "grow", dP (p, s, r), dP (P, S, R), d], rfl, by show 4 ≤ 1000; decide, _, s3, rfl, rfl, hk3, Bx.gr p s r P S R d, rfl, ⟨hs.a.T, hs.b.T, hs.c.T, hs.d, hS.a, hS.b, hS.c, hS.d, hS.e, hS.f⟩, rfl⟩
  · refine js_ifr (q := false) (DT.is (dt_eq (de_name 1) de_str (by first | decide +kernel | (dsimp only; decide +kernel)) (by decide +kernel)) (by first | decide +kernel | (dsimp only; decide +kernel))) (fun hq => nomatch hq) (fun hq => ?_)
    refine js_ifr (q := false) (DT.is (dt_eq (de_name 1) de_str (by first | decide +kernel | (dsimp only; decide +kernel)) (by decide +kernel)) (by first | decide +kernel | (dsimp only; decide +kernel))) (fun hq => nomatch hq) (fun hq => ?_)
    refine js_set 3 ⟨sc89.nd, rfl, .inl rfl, .inl rfl⟩ (je_sp h__law_spot (k + 9, t) (dl_name 0) (da_cons (de_name 2) da_nil) rfl ⟨hk, h1, h2⟩ (fun d s1 hp1 => ?_))
    obtain ⟨hk1, p, s, r, rfl, hs⟩ := hp1
    refine js_ifr (q := false) (DT.is (dt_eq (de_name 1) de_str (by first | decide +kernel | (dsimp only; decide +kernel)) (by decide +kernel)) (by first | decide +kernel | (dsimp only; decide +kernel))) (fun hq => nomatch hq) (fun hq => ?_)
    refine js_ret (je_tup (jad1 de_str (jad1 (de_name 3) (ja_cons (je_sp h__law_power (k + 6, t) (dl_name 0) (da_cons (de_name 2) da_nil) rfl ⟨hk1, h1, h2⟩ (fun d s2 hp2 => ?_))))))
    obtain ⟨hk2, n, m, rfl, g1, g2, g3, g4⟩ := hp2
    refine ja_cons (je_sp h__law_span (k + 2) (dl_name 0) da_nil rfl hk2 (fun d s3 hk3 => ?_))
    have hk3 : Sk (k + 2) s3 := hk3
    exact ja_nil ⟨[.str "turnabout", dP (p, s, r), .tuple [.int n, .int m], d], rfl, by show 4 ≤ 1000; decide, _, s3, rfl, rfl, hk3.mono, Bx.tu p s r n m d, rfl, ⟨hs.a.T, hs.b.T, hs.c.T, hs.d, g1, g2, g3, g4⟩, rfl⟩
  · refine js_ifr (q := false) (DT.is (dt_eq (de_name 1) de_str (by first | decide +kernel | (dsimp only; decide +kernel)) (by decide +kernel)) (by first | decide +kernel | (dsimp only; decide +kernel))) (fun hq => nomatch hq) (fun hq => ?_)
    refine js_ifr (q := true) (DT.is (dt_eq (de_name 1) de_str (by first | decide +kernel | (dsimp only; decide +kernel)) (by decide +kernel)) (by first | decide +kernel | (dsimp only; decide +kernel))) (fun hq => ?_) (fun hq => nomatch hq)
    refine js_ret (je_tup (jad1 de_str (ja_cons (je_sp h__law_stroke (k + 8, t) (dl_name 0) (da_cons (de_name 2) da_nil) rfl ⟨hk, h2⟩ (fun d s2 hp2 => ?_)))))
    obtain ⟨hk2, l, m, v, rfl, g1, g2, g3, g4⟩ := hp2
    exact ja_nil ⟨[.str "mirror", .tuple [.int 0, .int l, .int m, .int v]], rfl, Nat.le_of_ble_eq_true rfl, _, s2, rfl, rfl, hk2.mono, Bx.mi l m v, rfl, ⟨g1, g2, g3, g4⟩, rfl⟩
def wA : List PyData := [.int 1, .int 1, .int 2, .int 3, .int 5, .int 9]
def wB : List PyData := [.int 1, .int 2, .int 3, .int 9, .int 9, .int 400]
theorem wAB {c : Bool} {d : PyData} (h : d ∈ (if c then wA else wB)) : ∃ w : Nat, d = .int (w : Int) ∧ 1 ≤ w ∧ w ≤ 400 := by
  cases c
  · simp only [wB, Bool.false_eq_true, if_false, List.mem_cons, List.not_mem_nil, or_false] at h
    rcases h with rfl | rfl | rfl | rfl | rfl | rfl
    · exact ⟨1, rfl, by decide, by decide⟩
    · exact ⟨2, rfl, by decide, by decide⟩
    · exact ⟨3, rfl, by decide, by decide⟩
    · exact ⟨9, rfl, by decide, by decide⟩
    · exact ⟨9, rfl, by decide, by decide⟩
    · exact ⟨400, rfl, by decide, by decide⟩
  · simp only [wA, if_true, List.mem_cons, List.not_mem_nil, or_false] at h
    rcases h with rfl | rfl | rfl | rfl | rfl | rfl
    · exact ⟨1, rfl, by decide, by decide⟩
    · exact ⟨1, rfl, by decide, by decide⟩
    · exact ⟨2, rfl, by decide, by decide⟩
    · exact ⟨3, rfl, by decide, by decide⟩
    · exact ⟨5, rfl, by decide, by decide⟩
    · exact ⟨9, rfl, by decide, by decide⟩
theorem wAB_ok {c : Bool} : (if c then wA else wB) ≠ [] ∧ (if c then wA else wB).length ≤ 1000 := by
  cases c
  · exact ⟨by simp [wB], by decide⟩
  · exact ⟨by simp [wA], by decide⟩
abbrev sp__law_boxes (K : PySem.W.Frag) : Sp := SpS K (α := Nat × List Str × Nat) (fun y => [.list (y.2.1.map .str), .int (y.2.2 : Int)]) (fun y g => Sk (y.1 + 14 * y.2.2 + 1) g ∧ y.2.1 ≠ [] ∧ (∀ z ∈ y.2.1, z ∈ wordsS) ∧ y.2.1.length ≤ 1000 ∧ y.2.2 ≤ 4) (fun y g d g2 => Sk y.1 g2 ∧ ∃ bs : List Bx, d = .tuple (bs.map Bx.dat) ∧ (∀ b ∈ bs, b.ok ∧ b.word ∈ y.2.1) ∧ bs.length ≤ y.2.2)
theorem sc90 : FnScope ["_law_spring_here", "_law_words", "_law_most", "_law_count", "_law_found", "_law_turn", "_law_wide"] ["_law_spring_here", "_law_words", "_law_most"] (defScope (topS 90)) := ⟨rfl, rfl, rfl, by decide +kernel, rfl, by decide +kernel, by decide +kernel⟩
theorem ok__law_boxes (D : DefAt K mg "_law_boxes" (topS 90)) (n_range : mg "range" = none) (n_tuple : mg "tuple" = none) (h__law_draw : OKs P w K mg base "_law_draw" 1 ["_law_spring_here", "_law_top"] (sp__law_draw K)) (h__law_one_of : OKs P w K mg base "_law_one_of" 2 ["_law_spring_here", "_law_some"] (sp__law_one_of K)) (h__law_box : OKs P w K mg base "_law_box" 5 ["_law_spring_here", "_law_word", "_law_wide"] (sp__law_box K)) : OKs P w K mg base "_law_boxes" 6 ["_law_spring_here", "_law_words", "_law_most"] (sp__law_boxes K) := by
  refine okS (k := 5) D sc90 (fun _ _ _ _ _ _ us hl => match us, hl with | [_, _, _], _ => rfl) (fun _ => rfl) (fun y ss hp => ?_)
  refine ?_
  obtain ⟨k, ws, t⟩ := y
  obtain ⟨hk, hn, hw, hl, ht⟩ := hp
  simp only at hk hn hw hl ht
  have hwp : 0 < ws.length := List.length_pos_iff.mpr hn
  refine js_par 3 4 rfl rfl (by decide) sc90.nd rfl rfl (je_sp h__law_draw (k + 14 * t, t + 1) (dl_name 0) (da_cons (DE.is (de_add (de_name 2) de_int) (by push_cast; rfl)) da_nil) rfl ⟨hk, Nat.succ_pos t, by show t + 1 ≤ 1000; omega⟩ (fun d s1 hp1 => ?_))
  obtain ⟨hk1, c, rfl, hc⟩ := hp1
  simp only at hc
  refine je_lstM (ja_nil ⟨[], rfl, Nat.zero_le _, ?_⟩)
  refine js_forR 5 ⟨sc90.nd, rfl, .inl rfl, .inl rfl⟩ (fun m δ' μ' => ∃ st bs s5 s6, δ' = [some (.loc 0), some (.dat (.list (ws.map .str))), some (.dat (.int (t : Int))), some (.dat (.int (c : Int))), some (.loc 1), s5, s6] ∧ μ' = [some (dS st), some (bs.map Bx.dat)] ∧ Sk (k + 14 * (c - m)) st ∧ bs.length = m ∧ ∀ b ∈ bs, b.ok ∧ b.word ∈ ws) c (by omega) n_range (jed (.int (c : Int)) (de_name 3) ⟨rfl, s1, [], _, _, rfl, rfl, hk1.mono, rfl, fun b hb => nomatch hb⟩) (fun m δ' μ' hm iv => ?_) (fun δ' μ' iv => ?_)
  · obtain ⟨st, bs, s5, s6, rfl, rfl, hk2, hbl, hb⟩ := iv
    obtain ⟨hne, hle⟩ := wAB_ok (c := decide (2 < c))
    refine js_set 6 ⟨sc90.nd, rfl, .inl rfl, .inl rfl⟩ (je_sp h__law_one_of (k + 14 * (c - (m + 1)) + 13, if decide (2 < c) then wA else wB) (dl_name 0) (da_cons (de_if (p := decide (2 < c)) (DT.is (dt_gt (de_name 3) de_int) (by rw [decide_eq_decide]; omega)) (fun hq => DE.is (de_lst (da_cons de_int (da_cons de_int (da_cons de_int (da_cons de_int (da_cons de_int (da_cons de_int da_nil))))))) (by rw [hq]; rfl)) (fun hq => DE.is (de_lst (da_cons de_int (da_cons de_int (da_cons de_int (da_cons de_int (da_cons de_int (da_cons de_int da_nil))))))) (by rw [hq]; rfl))) da_nil) rfl ⟨hk2.mono, hne, hle⟩ (fun d s2 hp2 => ?_))
    obtain ⟨hk3, hd⟩ := hp2
    obtain ⟨w0, rfl, hw1, hw2⟩ := wAB hd
    refine js_expr (je_append (n := 1) (dl_name 4) rfl (je_spJ h__law_box (dl_name 0) (ja_cons (je_sp h__law_one_of (k + 14 * (c - (m + 1)) + 12, ws.map .str) (dl_name 0) (da_cons (de_name 1) da_nil) rfl ⟨hk3, by simpa using hn, by rw [List.length_map]; exact hl⟩ (fun d s3 hp3 => ?_)))))
    obtain ⟨hk4, hd3⟩ := hp3
    obtain ⟨z, hz, rfl⟩ := List.mem_map.mp hd3
    refine jad1 (de_name 6) (ja_nil ⟨s3, (k + 14 * (c - (m + 1)), z, w0), rfl, rfl, ⟨hk4, hw z hz, hw1, hw2⟩, fun d s4 hp4 => ?_⟩)
    obtain ⟨hk5, b, rfl, hbo, hbw⟩ := hp4
    refine ⟨b.dat, bs.map Bx.dat, rfl, rfl, by rw [List.length_map]; omega, js_nil ⟨s4, bs ++ [b], _, _, rfl, by rw [List.map_append]; rfl, hk5, by rw [List.length_append, hbl]; rfl, fun b' hb' => ?_⟩⟩
    rcases List.mem_append.mp hb' with q | q
    · exact hb b' q
    · rw [List.mem_singleton.mp q]
      exact ⟨hbo, by rw [hbw]; exact hz⟩
  · obtain ⟨st, bs, s5, s6, rfl, rfl, hk2, hbl, hb⟩ := iv
    refine js_freeze (ds := bs.map Bx.dat) 1 (by decide) rfl (js_ret (je (d := .tuple (bs.map Bx.dat)) (de_tupleL n_tuple (de_name 4)) ⟨_, st, rfl, rfl, hk2.mono, bs, rfl, hb, by show bs.length ≤ t; omega⟩))
def toS : PyData → Str
  | .str z => z
  | _ => ""
theorem perm_str {es : List PyData} {fs : List Str} (h : es.Perm (fs.map .str)) : ∃ ks : List Str, es = ks.map .str ∧ ks.Perm fs := by
  refine ⟨es.map toS, ?_, ?_⟩
  · rw [List.map_map]
    have : ∀ d ∈ es, (PyData.str ∘ toS) d = d := fun d hd => by
      obtain ⟨z, _, rfl⟩ := List.mem_map.mp (h.mem_iff.mp hd)
      rfl
    have q : es.map (PyData.str ∘ toS) = es.map id := List.map_congr_left this
    rw [q, List.map_id]
  · have q := h.map toS
    rw [List.map_map] at q
    have e : fs.map (toS ∘ PyData.str) = fs := List.map_id'' (fun _ => rfl) fs
    rw [e] at q
    exact q
abbrev sp__law_some_words (K : PySem.W.Frag) : Sp := SpS K (α := Nat × List Str) (fun y => [.list (y.2.map .str)]) (fun y g => Sk (y.1 + 12) g ∧ y.2.Nodup ∧ (∀ z ∈ y.2, z ∈ wordsS) ∧ y.2.length ≤ 4) (fun y g d g2 => Sk y.1 g2 ∧ ∃ ks : List Str, d = .tuple (ks.map .str) ∧ ks.Nodup ∧ (∀ z ∈ ks, z ∈ wordsS) ∧ (∀ z ∈ y.2, z ∈ ks) ∧ ks.length ≤ 8)
theorem sc92 : FnScope ["_law_spring_here", "_law_base", "_law_found", "_law_word"] ["_law_spring_here", "_law_base"] (defScope (topS 92)) := ⟨rfl, rfl, rfl, by decide +kernel, rfl, by decide +kernel, by decide +kernel⟩
theorem ok__law_some_words (D : DefAt K mg "_law_some_words" (topS 92)) (n_list : mg "list" = none) (n_tuple : mg "tuple" = none) (h__law_shuffled : OKs P w K mg base "_law_shuffled" 2 ["_law_spring_here", "_law_some"] (sp__law_shuffled K)) (h__law_draw : OKs P w K mg base "_law_draw" 1 ["_law_spring_here", "_law_top"] (sp__law_draw K)) : OKs P w K mg base "_law_some_words" 3 ["_law_spring_here", "_law_base"] (sp__law_some_words K) := by
  refine okS (k := 2) D sc92 (fun _ _ _ _ _ _ us hl => match us, hl with | [_, _], _ => rfl) (fun _ => rfl) (fun y ss hp => ?_)
  refine ?_
  obtain ⟨k, bs⟩ := y
  obtain ⟨hk, hnd, hw, hl⟩ := hp
  simp only at hk hnd hw hl
  refine js_set 2 ⟨sc92.nd, rfl, .inl rfl, .inl rfl⟩ (je_listM n_list (jed (.list (bs.map .str)) (de_name 1) ⟨bs.map .str, .inr rfl, ?_⟩))
  refine js_forL (ds := wordsS.map .str) 3 ⟨sc92.nd, rfl, .inl rfl, .inl rfl⟩ (fun m δ' μ' => ∃ (st : Sg) (fs : List Str) (s3 : Option SV), δ' = [some (.loc 0), some (.dat (.list (bs.map .str))), some (.loc 1), s3] ∧ μ' = [some (dS st), some (fs.map .str)] ∧ Sk (k + 8 + (4 - m)) st ∧ fs.Nodup ∧ (∀ z ∈ fs, z ∈ wordsS) ∧ (∀ z ∈ bs, z ∈ fs) ∧ fs.length ≤ 4 + m) (jed (.list (wordsS.map .str)) (de_lst (da_cons de_str (da_cons de_str (da_cons de_str (da_cons de_str da_nil))))) ⟨rfl, ss, bs, _, rfl, rfl, hk, hnd, hw, fun z h => h, hl⟩) (fun m d δ' μ' hd iv => ?_) (fun δ' μ' iv => ?_)
  · obtain ⟨st, fs, s3, rfl, rfl, hk2, hnd2, hw2, hb2, hl2⟩ := iv
    have hm : m < 4 := by
      have := (List.getElem?_eq_some_iff.mp hd).1
      rwa [List.length_map] at this
    obtain ⟨z, rfl, hz⟩ := map_at hd
    have hzw := List.mem_of_getElem? hz
    refine js_if (fun δ' μ' => ∃ (st : Sg) (fs : List Str) (s3 : Option SV), δ' = [some (.loc 0), some (.dat (.list (bs.map .str))), some (.loc 1), s3] ∧ μ' = [some (dS st), some (fs.map .str)] ∧ Sk (k + 8 + (4 - (m + 1))) st ∧ fs.Nodup ∧ (∀ z ∈ fs, z ∈ wordsS) ∧ (∀ z ∈ bs, z ∈ fs) ∧ fs.length ≤ 4 + (m + 1)) (JW.jt (jw_and (jtd (dt_notinM (xs := fs) (n := 1) (de_name 3) (dl_name 2) rfl) ⟨fun hq => jw_and1 (jt_cmp (fun _ hX => eqR hX) (nobehind _ (by decide) (by decide)) (je_sp h__law_draw (k + 8 + (4 - (m + 1)), 2) (dl_name 0) (da_cons de_int da_nil) rfl ⟨hk2.mono, by show 0 < 2; decide, by show 2 ≤ 1000; decide⟩ (fun d s4 hp4 => ?_))), fun hq => ?_⟩))) (fun δ' μ' p => js_nil p)
    · obtain ⟨hk4, r, rfl, hr⟩ := hp4
      refine ⟨.int (r : Int), rfl, jed (.int 0) de_int ⟨.int 0, _, rfl, opEqD rfl rfl, fun hq2 => ?_, fun hq2 => js_nil ⟨s4, fs, _, rfl, rfl, hk4, hnd2, hw2, hb2, by omega⟩⟩⟩
      have hni : z ∉ fs := by simpa using hq
      refine js_expr (je_append (n := 1) (dl_name 2) rfl (je (de_name 3) ⟨.str z, fs.map .str, rfl, rfl, by rw [List.length_map]; omega, js_nil ⟨s4, fs ++ [z], _, rfl, by rw [List.map_append]; rfl, hk4, ?_, ?_, ?_, by rw [List.length_append]; show fs.length + 1 ≤ _; omega⟩⟩))
      · rw [List.nodup_append]
        exact ⟨hnd2, by simp, fun a ha b hb => by rw [List.mem_singleton.mp hb]; intro e; exact hni (e ▸ ha)⟩
      · intro a ha
        rcases List.mem_append.mp ha with q | q
        · exact hw2 a q
        · rw [List.mem_singleton.mp q]; exact hzw
      · exact fun a ha => List.mem_append_left _ (hb2 a ha)
    · exact ⟨fun hq2 => (nomatch hq2), fun _ => js_nil ⟨st, fs, _, rfl, rfl, hk2.mono, hnd2, hw2, hb2, by omega⟩⟩
  · obtain ⟨st, fs, s3, rfl, rfl, hk2, hnd2, hw2, hb2, hl2⟩ := iv
    have hl3 : fs.length ≤ 8 := hl2
    refine js_freeze (ds := fs.map .str) 1 (by decide) rfl (js_ret (je_tupleL n_tuple (je_sp h__law_shuffled (k, fs.map .str) (dl_name 0) (da_cons (de_name 2) da_nil) rfl ⟨by rw [List.length_map]; exact hk2.mono, by rw [List.length_map]; omega⟩ (fun d s4 hp4 => ?_))))
    obtain ⟨hk4, es, rfl, hP⟩ := hp4
    obtain ⟨ks, rfl, hPk⟩ := perm_str hP
    exact ⟨_, rfl, _, s4, rfl, rfl, hk4, ks, rfl, hPk.nodup_iff.mpr hnd2, fun z hz => hw2 z (hPk.mem_iff.mp hz), fun z hz => hPk.mem_iff.mpr (hb2 z hz), by rw [hPk.length_eq]; exact hl3⟩
end K79
end
section
set_option Elab.async false
set_option linter.all false
set_option maxRecDepth 100000
namespace K79
open PySem PySem.Spec PyProof.Rows L2 GI Mx Ch
variable {P : Program} {w : World} {K : PySem.W.Frag} {mg : Str → Option Value} {base : Heap}

set_option maxHeartbeats 0
def firstD : PyData → PyData
  | .tuple (x :: _) => x
  | _ => .none
theorem atI0 (x : PyData) (r : List PyData) : atI (x :: r) 0 = some x := atI_nat (ds := x :: r) (r := 0) (Nat.succ_pos _)
theorem Bx.dat_eq (b : Bx) : ∃ r, b.dat = .tuple (.str b.word :: r) := by cases b <;> exact ⟨_, rfl⟩
theorem Bx.has (b : Bx) (ks : List Str) : (kd ks).has b.kind = ks.contains b.word := by cases b <;> rfl
def toM : PyData → Ch
  | .tuple [.int f, a, b, c, d] => ⟨decide (f = 1), ⟨toC a, toC b, toC c, toC d⟩⟩
  | _ => still
theorem toM_dM (x : Ch) : toM (dM x) = x := by
  obtain ⟨f, ⟨a, b, c, d⟩⟩ := x
  cases f <;> rfl
theorem kd_every : kd wordsS = every := by decide +kernel
theorem words_nd : wordsS.Nodup := by decide +kernel
theorem kd_mono {ks ws : List Str} (h : ∀ z ∈ ks, z ∈ ws) (k : Kind) (hk : (kd ks).has k = true) : (kd ws).has k = true := by
  cases k <;> (simp only [kd, Kd.has, List.contains_iff_mem] at hk ⊢; exact h _ hk)
def wks (ks : List Str) (z : Str) : List Str := if ks.contains z then ks else ks ++ [z]
theorem wks_ok {ks : List Str} {z : Str} (h1 : ks.Nodup) (h2 : ∀ y ∈ ks, y ∈ wordsS) (h3 : ks.length ≤ 8) (hz : z ∈ wordsS) : (wks ks z).Nodup ∧ (∀ y ∈ wks ks z, y ∈ wordsS) ∧ (wks ks z).length ≤ 1000 ∧ (∀ y ∈ ks, y ∈ wks ks z) ∧ (wks ks z).contains z = true := by
  unfold wks
  split
  · rename_i h
    exact ⟨h1, h2, by omega, fun y hy => hy, h⟩
  · rename_i h
    have hni : z ∉ ks := by simpa using h
    refine ⟨?_, ?_, by rw [List.length_append]; show ks.length + 1 ≤ _; omega, fun y hy => List.mem_append_left _ hy, by simp⟩
    · rw [List.nodup_append]
      exact ⟨h1, by simp, fun a ha b hb => by rw [List.mem_singleton.mp hb]; intro e; exact hni (e ▸ ha)⟩
    · intro y hy
      rcases List.mem_append.mp hy with q | q
      · exact h2 y q
      · rw [List.mem_singleton.mp q]; exact hz
theorem side_ok {f : Bool} {a b d : GI} (ha : a ≠ 0) (hd : d ≠ 0) (sa : Sz 9 a) (sb : Sz 9 b) (sd : Sz 9 d) : (Mx.mk a b 0 d).Lo ∧ (Mx.mk a b 0 d).det ≠ 0 ∧ Ok 100 ⟨f, (Mx.mk a b 0 d).form⟩ ∧ (Mx.mk a b 0 d).form.c = 0 := by
  have hb : Bd 100 (Mx.mk a b 0 d) := ⟨sa.nlt, sb.nlt, bd0, sd.nlt⟩
  have hdt : (Mx.mk a b 0 d).det ≠ 0 := by
    have e : (Mx.mk a b 0 d).det = a * d := by unfold Mx.det; grind
    rw [e]; exact mul_ne_zero ha hd
  have hl := hb.lo (by decide : 100 ≤ 4000)
  refine ⟨hl, hdt, form_ok hdt hb (by decide), ?_⟩
  obtain ⟨k, hk, e⟩ := form_eq hl hdt
  have ec : (0 : GI) = (Mx.mk a b 0 d).form.c * k := congrArg Mx.c e
  exact (mul_eq_zero ec.symm).resolve_right hk
theorem way_ok10 {bs : List Bx} (hb : ∀ b ∈ bs, b.ok) (hl : bs.length ≤ 4) : Ok 500 (way (bs.map Bx.cell)) := by
  have h := way_ok (bs.map Bx.cell) still 1 still_ok (fun y hy => by
    obtain ⟨b, hb', rfl⟩ := List.mem_map.mp hy
    exact ⟨_, Bx.isCell (hb b hb')⟩) (by rw [List.length_map]; omega)
  exact h.mono (by rw [List.length_map]; omega)
/-- a word of its row's few -/
def usedL (bs : List Bx) : List Str := wordsS.filter fun z => (bs.map Bx.word).contains z
section
variable {C : Ctx} {e a b c : Expr} {δ : En} {μ : Mem} {pos : Pos} {d : PyData} {x : Str}
theorem de_call0 {k : Nat} {ps : List Str} {α : Type} {args : α → List PyData} {pre : α → Prop} {g : α → PyData} {pp : Pos} (F : OKc C x k ps (SpD C.K args pre g)) (y : α) (hy : args y = []) (hp : pre y) (hr : g y = d := by rfl) (hk : k ≤ C.k := by exact Nat.le_of_ble_eq_true rfl) (hg : GlC C x := by rfl) (hdb : (x == ("__debug__" : Str)) = false := by decide) :
    DE C (.Call (.Name x pp) [] [] pos) δ μ d := fun Φ h => je_call0 F hk hg hdb y hy hp (by rw [hr]; exact h)
end
abbrev sp__law_right (K : PySem.W.Frag) : Sp := SpS K (α := Unit) (fun _ => []) (fun _ g => Sk 200 g) (fun _ g d g2 => d = .bool true)
theorem sc94 : FnScope ["_law_spring_here", "_law_every", "_law_words", "_law_early", "_law_late", "_law_used", "_law_few", "_law_step", "_law_one", "_law_two", "_law_a", "_law_b", "_law_side", "_law_moved", "_law_asked", "_law_told", "_law_wide", "_law_more", "_law_word", "_law_each"] ["_law_spring_here"] (defScope (topS 94)) := ⟨rfl, rfl, rfl, by decide +kernel, rfl, by decide +kernel, by decide +kernel⟩
theorem ok__law_right (hk_fewest_cells : OKk P w K mg base "fewest_cells" 9 ["chart", "kinds"] (sp_fewest_cells K)) (D : DefAt K mg "_law_right" (topS 94)) (h__law_form : OKs P w K mg base "_law_form" 3 ["_law_side", "_law_some"] (sp__law_form K)) (h__law_joined : OKs P w K mg base "_law_joined" 4 ["_law_early", "_law_late"] (sp__law_joined K)) (h__law_shuffled : OKs P w K mg base "_law_shuffled" 2 ["_law_spring_here", "_law_some"] (sp__law_shuffled K)) (h__law_boxes : OKs P w K mg base "_law_boxes" 6 ["_law_spring_here", "_law_words", "_law_most"] (sp__law_boxes K)) (h__law_some_words : OKs P w K mg base "_law_some_words" 3 ["_law_spring_here", "_law_base"] (sp__law_some_words K)) (h__law_box : OKs P w K mg base "_law_box" 5 ["_law_spring_here", "_law_word", "_law_wide"] (sp__law_box K)) (h__law_way : OKs P w K mg base "_law_way" 5 ["_law_boxes_here"] (sp__law_way K)) (h__law_pair : OKs P w K mg base "_law_pair" 3 ["_law_spring_here", "_law_wide"] (sp__law_pair K)) (h__law_draw : OKs P w K mg base "_law_draw" 1 ["_law_spring_here", "_law_top"] (sp__law_draw K)) (h__law_home : OKs P w K mg base "_law_home" 4 ["_law_map2"] (sp__law_home K)) (h_fewest_cells : OKs P w K mg base "fewest_cells" 9 ["chart", "kinds"] (sp_fewest_cells K)) (n_all : mg "all" = none) (n_abs : mg "abs" = none) (h__law_one_of : OKs P w K mg base "_law_one_of" 2 ["_law_spring_here", "_law_some"] (sp__law_one_of K)) (n_len : mg "len" = none) (h__law_still : OKs P w K mg base "_law_still" 1 [] (sp__law_still K)) (h__law_cell_map : OKs P w K mg base "_law_cell_map" 4 ["_law_box_here"] (sp__law_cell_map K)) (n_tuple : mg "tuple" = none) (h__law_is_whole : OKs P w K mg base "_law_is_whole" 1 ["_law_one"] (sp__law_is_whole K)) : OKs P w K mg base "_law_right" 10 ["_law_spring_here"] (sp__law_right K) := by
  refine okS (k := 9) D sc94 (fun _ _ _ _ _ _ us hl => match us, hl with | [_], _ => rfl) (fun _ => rfl) (fun y ss hp => ?_)
  refine ?_
  have hk : Sk 200 ss := hp
  refine js_setD (d := .list (wordsS.map .str)) 1 ⟨sc94.nd, rfl, .inl rfl, .inl rfl⟩ (de_lst (da_cons de_str (da_cons de_str (da_cons de_str (da_cons de_str da_nil))))) ?_
  refine js_set 2 ⟨sc94.nd, rfl, .inl rfl, .inl rfl⟩ (je_slL (je_sp h__law_shuffled (190, wordsS.map .str) (dl_name 0) (da_cons (de_name 1) da_nil) rfl ⟨by show Sk 194 ss; exact hk.mono, by show 4 ≤ 1000; decide⟩ (fun d s1 hp1 => ?_)))
  obtain ⟨hk1, es, rfl, hP⟩ := hp1
  obtain ⟨ws0, rfl, hPw⟩ := perm_str hP
  refine ⟨_, rfl, jo_none (jo_some (je_addL de_int (je_sp h__law_draw (189, 4) (dl_name 0) (da_cons de_int da_nil) rfl ⟨hk1, by show 0 < 4; decide, by show 4 ≤ 1000; decide⟩ (fun d s2 hp2 => ?_))))⟩
  obtain ⟨hk2, r0, rfl, hr0⟩ := hp2
  refine ⟨_, rfl, _, rfl, ?_⟩
  have ecut : cutD (ws0.map PyData.str) none (some (1 + (r0 : Int))) = (ws0.take (1 + r0)).map .str := by
    have h1 : HT.sIx (ws0.map PyData.str).length (ws0.map PyData.str).length (some (1 + (r0 : Int))) = min (1 + r0) (ws0.map PyData.str).length := by
      have := HT.sIx_nat (ws0.map PyData.str).length (ws0.map PyData.str).length (1 + r0)
      have e : ((1 + r0 : Nat) : Int) = 1 + (r0 : Int) := by push_cast; rfl
      rw [e] at this
      exact this
    unfold cutD
    rw [h1]
    show ((ws0.map PyData.str).drop 0).take (_ - 0) = _
    rw [List.drop_zero, Nat.sub_zero, List.map_take]
    rcases Nat.le_total (1 + r0) (ws0.map PyData.str).length with h | h
    · rw [Nat.min_eq_left h]
    · rw [Nat.min_eq_right h, List.take_of_length_le (Nat.le_refl _), List.take_of_length_le h]
  rw [ecut]
  have hl0 : ws0.length = 4 := hPw.length_eq
  obtain ⟨ws, hws⟩ : ∃ ws, ws0.take (1 + r0) = ws := ⟨_, rfl⟩
  rw [hws]
  show JS _ _ [_, _, _, _, _, _, _, _, _, _, _, _, _, _, _, _, _, _, _, _] _ _
  have wl : ws ≠ [] ∧ (∀ z ∈ ws, z ∈ wordsS) ∧ ws.length ≤ 1000 := by
    rw [← hws]
    refine ⟨fun z => ?_, fun z hz => hPw.mem_iff.mp (List.mem_of_mem_take hz), by rw [List.length_take]; omega⟩
    have := congrArg List.length z
    rw [List.length_take] at this
    simp only [List.length_nil] at this
    omega
  refine js_asg (je_tup (ja_cons (je_sp h__law_boxes (140, ws, 3) (dl_name 0) (da_cons (de_name 2) (da_cons de_int da_nil)) rfl ⟨by show Sk 183 s2; exact Sk.mono (show Sk 189 s2 from hk2), wl.1, wl.2.1, wl.2.2, by show 3 ≤ 4; decide⟩ (fun d s3 hp3 => ?_))))
  obtain ⟨hk3, bE, rfl, hbE, hlE⟩ := hp3
  refine ja_cons (je_sp h__law_boxes (80, ws, 4) (dl_name 0) (da_cons (de_name 2) (da_cons de_int da_nil)) rfl ⟨by show Sk 137 s3; exact Sk.mono (show Sk 140 s3 from hk3), wl.1, wl.2.1, wl.2.2, by show 4 ≤ 4; decide⟩ (fun d s4 hp4 => ?_))
  obtain ⟨hk4, bL, rfl, hbL, hlL⟩ := hp4
  simp only at hlE hlL hbE hbL
  have oE : ∀ b ∈ bE, b.ok := fun b hb => (hbE b hb).1
  have oL : ∀ b ∈ bL, b.ok := fun b hb => (hbL b hb).1
  refine ja_nil ⟨[.tuple (bE.map Bx.dat), .tuple (bL.map Bx.dat)], rfl, Nat.le_of_ble_eq_true rfl, (jg_tup (jgs_cons (jg_name (k := 3) ⟨sc94.nd, rfl, .inr rfl, .inl rfl⟩ (jgs_cons (jg_name (k := 4) ⟨sc94.nd, rfl, .inr rfl, .inl rfl⟩ (jgs_nil (?_)))))))⟩
  show JS _ _ [_, _, _, _, _, _, _, _, _, _, _, _, _, _, _, _, _, _, _, _] _ _
  refine js_setLcL (ds := wordsS.map .str) (kk := 18) 5 (fun d => ((bE ++ bL).map Bx.word).contains (toS d)) (fun d => d) ⟨sc94.nd, blkOk_by (by dsimp only [fC, Ctx.blk]; decide +kernel), ⟨sc94.nd, rfl, .inl rfl, .inr rfl⟩⟩ rfl rfl (de_name 1) (by rw [List.length_map]; decide) (fun d hd => ?_) (fun d hd _ => de_name 18) ?_
  · obtain ⟨z, _, rfl⟩ := List.mem_map.mp hd
    refine dts_one (dt_inL (xs := (bE ++ bL).map Bx.word) (de_name 18) (DE.is (de_lcT (ds := bE.map Bx.dat ++ bL.map Bx.dat) (kk := 19) (fun _ => true) firstD ⟨sc94.nd, blkOk_by (by dsimp only [fC, Ctx.blk]; decide +kernel), ⟨sc94.nd, rfl, .inl rfl, .inr rfl⟩⟩ (de_catT (de_name 3) (de_name 4) (by rw [List.length_map, List.length_map]; omega)) (by rw [List.length_append, List.length_map, List.length_map]; omega) (fun d hd => dts_nil) (fun d hd _ => ?_)) ?_))
    · rw [← List.map_append] at hd
      obtain ⟨bb, _, rfl⟩ := List.mem_map.mp hd
      obtain ⟨rr, er⟩ := bb.dat_eq
      rw [er]
      exact de_ixT (de_name 19) de_int (atI0 _ _)
    · rw [outs_all, ← List.map_append, List.map_map, List.map_map]
      congr 1
      refine List.map_congr_left fun bb _ => ?_
      obtain ⟨rr, er⟩ := bb.dat_eq
      show firstD bb.dat = .str bb.word
      rw [er]; rfl
  have eU : outs (fun d => ((bE ++ bL).map Bx.word).contains (toS d)) (fun d => d) (wordsS.map .str) = (usedL (bE ++ bL)).map .str := by
    unfold outs usedL
    rw [List.map_id', List.filter_map]
    rfl
  rw [eU]
  show JS _ _ [_, _, _, _, _, _, _, _, _, _, _, _, _, _, _, _, _, _, _, _] _ _
  have uN : (usedL (bE ++ bL)).Nodup := List.Nodup.sublist List.filter_sublist words_nd
  have uM : ∀ z ∈ usedL (bE ++ bL), z ∈ wordsS := fun z hz => (List.mem_filter.mp hz).1
  have uL : (usedL (bE ++ bL)).length ≤ 4 := List.length_filter_le _ _
  refine js_asg (je_tup (ja_cons (je_sp h__law_some_words (60, usedL (bE ++ bL)) (dl_name 0) (da_cons (de_name 5) da_nil) rfl ⟨by show Sk 72 s4; exact Sk.mono (show Sk 80 s4 from hk4), uN, uM, uL⟩ (fun d s5 hp5 => ?_))))
  obtain ⟨hk5, ks, rfl, kN, kM, kU, kL⟩ := hp5
  simp only at kU
  refine ja_cons (je_spJ h__law_box (dl_name 0) (ja_cons (je_sp h__law_one_of (59, ws.map .str) (dl_name 0) (da_cons (de_name 2) da_nil) rfl ⟨hk5, by simpa using wl.1, by rw [List.length_map]; exact wl.2.2⟩ (fun d s6 hp6 => ?_))))
  obtain ⟨hk6, hd6⟩ := hp6
  obtain ⟨z6, hz6, rfl⟩ := List.mem_map.mp hd6
  refine jad1 de_int (ja_nil ⟨s6, (40, z6, 3), rfl, rfl, ⟨by show Sk 52 s6; exact Sk.mono (show Sk 59 s6 from hk6), wl.2.1 z6 hz6, by show 1 ≤ 3; decide, by show 3 ≤ 400; decide⟩, fun d s7 hp7 => ?_⟩)
  obtain ⟨hk7, st, rfl, stO, stW⟩ := hp7
  simp only at stW
  have stw : st.word ∈ wordsS := by rw [stW]; exact wl.2.1 z6 hz6
  refine ja_nil ⟨[.tuple (ks.map .str), st.dat], rfl, Nat.le_of_ble_eq_true rfl, (jg_tup (jgs_cons (jg_name (k := 6) ⟨sc94.nd, rfl, .inr rfl, .inl rfl⟩ (jgs_cons (jg_name (k := 7) ⟨sc94.nd, rfl, .inl rfl, .inl rfl⟩ (jgs_nil (?_)))))))⟩
  show JS _ _ [_, _, _, _, _, _, _, _, _, _, _, _, _, _, _, _, _, _, _, _] _ _
  have hE10 : bE.length ≤ 10 := by omega
  have hL10 : bL.length ≤ 10 := by omega
  refine js_par 8 9 rfl rfl (by decide) sc94.nd rfl rfl (jed (dM (way (bE.map Bx.cell))) (de_call h__law_way bE (da_cons (de_name 3) da_nil) ⟨oE, hE10⟩) (jed (dM (way (bL.map Bx.cell))) (de_call h__law_way bL (da_cons (de_name 4) da_nil) ⟨oL, hL10⟩) ?_))
  show JS _ _ [_, _, _, _, _, _, _, _, _, _, _, _, _, _, _, _, _, _, _, _] _ _
  refine js_par 10 11 rfl rfl (by decide) sc94.nd rfl rfl (je_sp h__law_pair (30, 3) (dl_name 0) (da_cons de_int da_nil) rfl ⟨by show Sk 33 s7; exact Sk.mono (show Sk 40 s7 from hk7), by show 3 ≤ 400; decide⟩ (fun d s8 hp8 => ?_))
  obtain ⟨hk8, za, rfl, za0, zaS⟩ := hp8
  refine je_sp h__law_pair (20, 9) (dl_name 0) (da_cons de_int da_nil) rfl ⟨by show Sk 23 s8; exact Sk.mono (show Sk 30 s8 from hk8), by show 9 ≤ 400; decide⟩ (fun d s9 hp9 => ?_)
  obtain ⟨hk9, zb, rfl, zb0, zbS⟩ := hp9
  refine js_set 12 ⟨sc94.nd, rfl, .inl rfl, .inl rfl⟩ (je_cl h__law_form (ja_cons (je_sp h__law_draw (19, 2) (dl_name 0) (da_cons de_int da_nil) rfl ⟨hk9, by show 0 < 2; decide, by show 2 ≤ 1000; decide⟩ (fun d s10 hp10 => ?_))))
  obtain ⟨hk10, rf, rfl, hrf⟩ := hp10
  simp only at hrf
  obtain ⟨sf, esf⟩ : ∃ f : Bool, PyData.int (rf : Int) = dF f := by
    rcases (show rf = 0 ∨ rf = 1 by omega) with h | h <;> subst h
    · exact ⟨false, rfl⟩
    · exact ⟨true, rfl⟩
  refine ja_cons (je_lst (jad1 (de_name 10) (jad1 (de_name 11) (jad1 (de_tup (da_cons de_int (da_cons de_int da_nil))) (ja_cons (je_sp h__law_pair (10, 3) (dl_name 0) (da_cons de_int da_nil) rfl ⟨by show Sk 13 s10; exact Sk.mono (show Sk 19 s10 from hk10), by show 3 ≤ 400; decide⟩ (fun d s11 hp11 => ?_)))))))
  obtain ⟨hk11, zd, rfl, zd0, zdS⟩ := hp11
  obtain ⟨sdL, sdD, sdO, sdC⟩ := side_ok (f := sf) (b := zb) za0 zd0 zaS zbS zdS
  refine ja_nil ⟨[dC za, dC zb, dC 0, dC zd], rfl, by show 4 ≤ 1000; decide, ja_nil ⟨(sf, Mx.mk za zb 0 zd), by rw [esf]; rfl, ⟨sdL, sdD⟩, ?_⟩⟩
  obtain ⟨sd, esd⟩ : ∃ sd : Ch, sd = ⟨sf, (Mx.mk za zb 0 zd).form⟩ := ⟨_, rfl⟩
  rw [← esd] at sdO ⊢
  show JS _ _ [_, _, _, _, _, _, _, _, _, _, _, _, _, _, _, _, _, _, _, _] _ _
  have sdC : sd.m.c = 0 := by rw [esd]; exact sdC
  clear hk hk1 hk2 hk3 hk4 hk5 hk6 hk7 hk8 hk9 hk10 hk11 esd sdL sdD esf
  obtain ⟨wN, wM, wL, wU, wS⟩ := wks_ok kN kM kL stw
  have hasc : ∀ (bs : List Bx), (∀ b ∈ bs, b ∈ bE ++ bL) → (∀ b ∈ bs, b.ok) → ∀ x ∈ bs.map Bx.cell, ∃ k, IsCell k x ∧ (kd ks).has k = true := fun bs h1 h2 x hx => by
    obtain ⟨bb, hb, rfl⟩ := List.mem_map.mp hx
    refine ⟨bb.kind, Bx.isCell (h2 bb hb), ?_⟩
    rw [Bx.has, List.contains_iff_mem]
    refine kU _ (List.mem_filter.mpr ⟨?_, ?_⟩)
    · cases bb <;> simp [Bx.word, wordsS]
    · rw [List.contains_iff_mem]
      exact List.mem_map.mpr ⟨bb, h1 bb hb, rfl⟩
  obtain ⟨t0, t1, t2, m0, m1, m2, e0, e1, e2, e3, e4, l0, l1, l2, l3, l4, l5, l6, f0, f1, f2, q0, q1, q2, q3⟩ := law_math (early := bE.map Bx.cell) (late := bL.map Bx.cell) (side := sd) (step := st.cell) (sk := st.kind) (few := kd ks) (wide := kd (wks ks st.word)) (by rw [List.length_map]; exact hlE) (by rw [List.length_map]; exact hlL) (hasc bE (fun b hb => List.mem_append_left _ hb) oE) (hasc bL (fun b hb => List.mem_append_right _ hb) oL) (Bx.isCell stO) (kd_mono wU) (by rw [Bx.has]; exact wS) sdO sdC
  have kE := way_ok10 oE (by omega)
  have kF := way_ok10 oL (by omega)
  generalize hX : way (bE.map Bx.cell) = X at *
  generalize hY : way (bL.map Bx.cell) = Y at *
  rw [List.length_map] at l3 l4
  have kH := home_ok kE (by decide)
  have kSH := home_ok sdO (by decide)
  have kJ := join_ok kE kF (by decide)
  have kM1 := join_ok kSH kE (by decide)
  have kM2 := join_ok kM1 sdO (by decide)
  have kS := join_ok kE (Bx.isCell stO).ok (by decide)
  have kk0 : ks.Nodup ∧ (∀ z ∈ ks, z ∈ wordsS) ∧ ks.length ≤ 1000 := ⟨kN, kM, by omega⟩
  refine js_setD (d := dM (Ch.join (Ch.join sd.home X) sd)) 13 ⟨sc94.nd, rfl, .inl rfl, .inl rfl⟩ (de_call h__law_joined (Ch.join sd.home X, sd) (da_cons (de_call h__law_joined (sd.home, X) (da_cons (de_call h__law_home sd (da_cons (de_name 12) da_nil) (sdO.mono (by decide))) (da_cons (de_name 8) da_nil)) ⟨kSH.mono (by decide), kE.mono (by decide)⟩) (da_cons (de_name 12) da_nil)) ⟨kM1.mono (by decide), sdO.mono (by decide)⟩) ?_
  show JS _ _ [_, _, _, _, _, _, _, _, _, _, _, _, _, _, _, _, _, _, _, _] _ _
  refine js_setD (d := .list [dM X, dM Y, dM (Ch.join X Y), dM X.home, dM (Ch.join (Ch.join sd.home X) sd)]) 14 ⟨sc94.nd, rfl, .inl rfl, .inl rfl⟩ (de_lst (da_cons (de_name 8) (da_cons (de_name 9) (da_cons (de_call h__law_joined (X, Y) (da_cons (de_name 8) (da_cons (de_name 9) da_nil)) ⟨kE.mono (by decide), kF.mono (by decide)⟩) (da_cons (de_call h__law_home X (da_cons (de_name 8) da_nil) (kE.mono (by decide))) (da_cons (de_name 13) da_nil)))))) ?_
  show JS _ _ [_, _, _, _, _, _, _, _, _, _, _, _, _, _, _, _, _, _, _, _] _ _
  refine js_setLcL (ds := [dM X, dM Y, dM (Ch.join X Y), dM X.home, dM (Ch.join (Ch.join sd.home X) sd)]) (kk := 19) 15 (fun _ => true) (fun d => resO ((toM d).few (kd ks))) ⟨sc94.nd, blkOk_by (by dsimp only [fC, Ctx.blk]; decide +kernel), ⟨sc94.nd, rfl, .inl rfl, .inr rfl⟩⟩ rfl rfl (de_name 14) (Nat.le_of_ble_eq_true rfl) (fun d hd => dts_nil) (fun d hd _ => ?_) ?_
  · obtain ⟨x, rfl, hx⟩ : ∃ x, d = dM x ∧ Ok 1900 x := by
      simp only [List.mem_cons, List.not_mem_nil, or_false] at hd
      rcases hd with rfl | rfl | rfl | rfl | rfl
      · exact ⟨_, rfl, kE.mono (by decide)⟩
      · exact ⟨_, rfl, kF.mono (by decide)⟩
      · exact ⟨_, rfl, kJ.mono (by decide)⟩
      · exact ⟨_, rfl, kH.mono (by decide)⟩
      · exact ⟨_, rfl, kM2.mono (by decide)⟩
    exact (de_call h_fewest_cells (x, ks) (da_cons (de_name 19) (da_cons (de_name 6) da_nil)) ⟨hx, kk0⟩ (by rw [toM_dM]))
  have eT : outs (fun _ => true) (fun d => resO ((toM d).few (kd ks))) [dM X, dM Y, dM (Ch.join X Y), dM X.home, dM (Ch.join (Ch.join sd.home X) sd)] = [.int t0, .int t1, .int t2, .int t0, .int t0] := by
    rw [outs_all]
    simp only [List.map_cons, List.map_nil, toM_dM, e0, e1, e2, e3, e4]
    rfl
  rw [eT]
  show JS _ _ [_, _, _, _, _, _, _, _, _, _, _, _, _, _, _, _, _, _, _, _] _ _
  refine js_ifr (q := false) (DT.is (dt_not (dt_val (de_all (bs := [true, true, true, true, true]) n_all (DE.is (de_lcL (ds := [.int t0, .int t1, .int t2, .int t0, .int t0]) (kk := 19) (fun _ => true) (fun _ => .bool true) ⟨sc94.nd, blkOk_by (by dsimp only [fC, Ctx.blk]; decide +kernel), ⟨sc94.nd, rfl, .inl rfl, .inr rfl⟩⟩ (de_name 15) (Nat.le_of_ble_eq_true rfl) (fun d hd => dts_nil) (fun d hd _ => ?_)) rfl)))) rfl) (fun hq => nomatch hq) (fun _ => ?_)
  · obtain ⟨i, rfl, hi⟩ : ∃ i : Int, d = .int i ∧ 0 ≤ i ∧ i ≤ 4 := by
      simp only [List.mem_cons, List.not_mem_nil, or_false] at hd
      rcases hd with rfl | rfl | rfl | rfl | rfl <;> exact ⟨_, rfl, by omega, by omega⟩
    refine DE.is (de_and (de_call h__law_is_whole i (da_cons (de_name 19) da_nil) trivial) fun _ => (de_one (de_chain de_int (de_name 19) de_int))) ?_
    rw [decide_eq_true hi.1, decide_eq_true hi.2]
    rfl
  refine js_ifr (q := false) (DT.is (DW.dt (dw_or (dt_gt (de_ixL (de_name 15) de_int) (de_lenT n_len (de_name 3))) fun _ => (dw_or (dt_gt (de_ixL (de_name 15) de_int) (de_lenT n_len (de_name 4))) fun _ => (dw_or1 (dt_gt (de_ixL (de_name 15) de_int) (de_add (de_ixL (de_name 15) de_int) (de_ixL (de_name 15) de_int))))))) ?_) (fun hq => nomatch hq) (fun _ => ?_)
  · rw [List.length_map, List.length_map, decide_eq_false (by omega), decide_eq_false (by omega), decide_eq_false (by omega)]
    rfl
  refine js_ifr (q := false) (DT.is (DW.dt (dw_or (dt_ne (de_ixL (de_name 15) de_int) (de_ixL (de_name 15) de_int)) fun _ => (dw_or (dt_ne (de_ixL (de_name 15) de_int) (de_ixL (de_name 15) de_int)) fun _ => (dw_or1 (dt_ne (de_eq (de_ixL (de_name 15) de_int) de_int) (de_eq (de_name 8) (de_call0 h__law_still () rfl trivial))))))) ?_) (fun hq => nomatch hq) (fun _ => ?_)
  · rw [eqv_int, eqv_int, eqv_M]
    have : decide ((t0 : Int) = 0) = decide (X = still) := decide_eq_decide.mpr (by rw [← l6]; omega)
    rw [this, decide_eq_true rfl]
    cases decide (X = still) <;> rfl
  obtain ⟨rs, er⟩ := st.dat_eq
  rw [er]
  show JS _ _ [_, _, _, _, _, _, _, _, _, _, _, _, _, _, _, _, _, _, _, _] _ _
  refine js_setD (d := .tuple ((wks ks st.word).map .str)) 16 ⟨sc94.nd, rfl, .inl rfl, .inl rfl⟩ (de_if (dt_inT (xs := ks) (de_ixT (de_name 7) de_int (atI0 _ _)) (de_name 6)) (fun hq => DE.is (de_name 6) ?_) (fun hq => DE.is (de_catT (de_name 6) (de_tup (da_cons (de_ixT (de_name 7) de_int (atI0 _ _)) da_nil)) (by rw [List.length_map]; show ks.length + 1 ≤ 1000; omega)) ?_)) ?_
  · unfold wks
    rw [if_pos hq]
  · unfold wks
    rw [if_neg (by rw [hq]; exact Bool.false_ne_true), List.map_append]
    rfl
  show JS _ _ [_, _, _, _, _, _, _, _, _, _, _, _, _, _, _, _, _, _, _, _] _ _
  refine js_set 17 ⟨sc94.nd, rfl, .inl rfl, .inl rfl⟩ (je_lstM (jad1 (d := .int (m0 : Int)) (de_call h_fewest_cells (X, wks ks st.word) (da_cons (de_name 8) (da_cons (de_name 16) da_nil)) ⟨kE.mono (by decide), wN, wM, wL⟩ (show resO (X.few (kd (wks ks st.word))) = .int (m0 : Int) by rw [f0]; rfl)) (jad1 (d := .int (m1 : Int)) (de_call h_fewest_cells (Ch.join X st.cell, wks ks st.word) (da_cons (de_call h__law_joined (X, st.cell) (da_cons (de_name 8) (da_cons (de_call h__law_cell_map st (da_cons (DE.is (de_name 7) er.symm) da_nil) stO) da_nil)) ⟨kE.mono (by decide), (Bx.isCell stO).ok.mono (by decide)⟩) (da_cons (de_name 16) da_nil)) ⟨kS.mono (by decide), wN, wM, wL⟩ (show resO ((Ch.join X st.cell).few (kd (wks ks st.word))) = .int (m1 : Int) by rw [f1]; rfl)) (ja_nil ⟨[.int (m0 : Int), .int (m1 : Int)], rfl, Nat.le_of_ble_eq_true rfl, ?_⟩))))
  show JS _ _ [_, _, _, _, _, _, _, _, _, _, _, _, _, _, _, _, _, _, _, _] _ _
  refine js_expr (je_append (n := 1) (dl_name 17) rfl (jed (.int (m2 : Int)) (de_kw hk_fewest_cells (X, wordsS) (de_name 8) (de_tupleL n_tuple (de_name 1)) rfl ⟨kE.mono (by decide), words_nd, fun z h => h, by show 4 ≤ 1000; decide⟩ (show resO (X.few (kd wordsS)) = .int (m2 : Int) by rw [kd_every, f2]; rfl)) ⟨.int (m2 : Int), [.int (m0 : Int), .int (m1 : Int)], rfl, rfl, by show 2 < 1000; decide, ?_⟩))
  refine js_freeze (ds := [.int (m0 : Int), .int (m1 : Int), .int (m2 : Int)]) 1 (by decide) rfl ?_
  show JS _ _ [_, _, _, _, _, _, _, _, _, _, _, _, _, _, _, _, _, _, _, _] _ _
  refine js_ifr (q := false) (DT.is (DW.dt (dw_or (dt_not (dt_val (de_all (bs := [true, true, true]) n_all (DE.is (de_lcL (ds := [.int (m0 : Int), .int (m1 : Int), .int (m2 : Int)]) (kk := 19) (fun _ => true) (fun _ => .bool true) ⟨sc94.nd, blkOk_by (by dsimp only [fC, Ctx.blk]; decide +kernel), ⟨sc94.nd, rfl, .inl rfl, .inr rfl⟩⟩ (de_name 17) (Nat.le_of_ble_eq_true rfl) (fun d hd => dts_nil) (fun d hd _ => ?_)) rfl)))) fun _ => (dw_or (dt_gt (de_ixL (de_name 17) de_int) (de_ixL (de_name 15) de_int)) fun _ => (dw_or1 (dt_gt (de_ixL (de_name 17) de_int) (de_ixL (de_name 17) de_int)))))) ?_) (fun hq => nomatch hq) (fun _ => ?_)
  · obtain ⟨i, rfl⟩ : ∃ i : Int, d = .int i := by
      simp only [List.mem_cons, List.not_mem_nil, or_false] at hd
      rcases hd with rfl | rfl | rfl <;> exact ⟨_, rfl⟩
    exact (de_call h__law_is_whole i (da_cons (de_name 19) da_nil) trivial)
  · rw [decide_eq_false (by omega), decide_eq_false (by omega)]
    rfl
  refine js_ret (je (d := .bool true) (DE.is (de_le (de_abs n_abs (de_sub (de_ixL (de_name 17) de_int) (de_ixL (de_name 17) de_int))) de_int) ?_) ⟨_, s11, rfl, rfl, rfl⟩)
  rw [abs_if, decide_eq_true (by omega)]
end K79
end
section
set_option Elab.async false
set_option linter.all false
set_option maxRecDepth 100000
namespace K79
open PySem PySem.Spec PyProof.Rows L2 GI Mx Ch
variable {P : Program} {w : World} {K : PySem.W.Frag} {mg : Str → Option Value} {base : Heap}

section
variable {C : Ctx} {e a b c : Expr} {es : List Expr} {δ : En} {μ : Mem} {Φ : SV → Mem → Prop} {pos : Pos} {d : PyData} {x : Str} {lo hi : Option Expr} {p2 : Pos}
theorem je_slLM (h : JE C a δ μ fun s1 μ1 => ∃ ds, s1 = .dat (.list ds) ∧ JO C lo δ μ1 fun l μ2 => JO C hi δ μ2 fun u μ3 => Φ (.loc μ3.length) (μ3 ++ [some (cutD ds l u)])) : JE C (.Subscript a (.Slice lo hi none p2) pos) δ μ Φ := fun hs σ H as S Q k =>
  ⟨tSl (rSlL C.K) (WE C a) (WO C lo) (WO C hi), fun X hX => pe_slice (by rw [← hX.K]; exact sl_list) (we hX) (wo hX) (wo hX), h hs σ H as S _ fun v H1 s1 μ1 as1 n1 m1 sv ⟨ds, e1, g⟩ => by
    subst e1
    exact g hs σ H1 as1 (S.next n1 m1) _ fun l H2 μ2 as2 n2 m2 g2 => g2 hs σ H2 as2 ((S.next n1 m1).next n2 m2) _ fun u H3 μ3 as3 n3 m3 p => by
      obtain ⟨a', xs, r1, r2, r3⟩ := Dp.lst_inv (Dp.mono (n2.trans n3).ex sv)
      refine ⟨a', xs, r1, Evl.ex_l (hide_ex _ _) r2, fun pp hp => ?_⟩
      obtain ⟨m4, n4⟩ := m3.lay (Evl.Ex.new hp) hp upd_same (dcut r3)
      exact k _ _ (.loc μ3.length) _ _ (((n1.trans n2).trans n3).trans n4) m4 ⟨pp, by rw [← m3.len, List.getElem?_append_right (Nat.le_refl _)]; simp, rfl⟩ p⟩
theorem je_catM (h : JE C a δ μ fun s1 μ1 => ∃ n1, s1 = .loc n1 ∧ JE C b δ μ1 fun s2 μ2 => ∃ n2 ds es, s2 = .loc n2 ∧ μ2[n1]? = some (some ds) ∧ μ2[n2]? = some (some es) ∧ ds.length + es.length ≤ 1000 ∧ Φ (.dat (.list (ds ++ es))) μ2) : JE C (.BinOp a .Add b pos) δ μ Φ := fun hs σ H as S Q k =>
  ⟨tOp rCat (WE C a) (WE C b), fun X hX => pe_op op_cat (we hX) (we hX), h hs σ H as S _ fun v H1 s1 μ1 as1 n1 m1 sv1 ⟨k1, e1, hb⟩ => by
    subst e1
    exact hb hs σ H1 as1 (S.next n1 m1) _ fun y H2 s2 μ2 as2 n2 m2 sv2 ⟨k2, ds, es, e2, h1, h2, hl, p⟩ => by
      subst e2
      obtain ⟨a1, ws, q1, q2, q3, q4⟩ := m2.sq (sv1.mono n2.ex n2.pre) h1
      obtain ⟨a2, us, t1, t2, t3, t4⟩ := m2.sq sv2 h2
      exact ⟨a1, a2, ws, us, q1, t1, q3, t3, sz (by rw [DpAll.len q4, DpAll.len t4]; exact hl), fun pp hp => k _ _ (.dat (.list (ds ++ es))) μ2 as2 ((n1.trans n2).trans (Nxt.grow (Evl.Ex.new hp))) (m2.grow (Evl.Ex.new hp)) (new_lst m2.hso hp (DpAll.app q4 t4)) p⟩⟩
end
theorem cut_take (l : List PyData) (k : Nat) : cutD l none (some (k : Int)) = l.take k := by
  unfold cutD
  rw [HT.sIx_nat]
  show (l.drop 0).take (_ - 0) = _
  rw [List.drop_zero, Nat.sub_zero]
  rcases Nat.le_total k l.length with h | h
  · rw [Nat.min_eq_left h]
  · rw [Nat.min_eq_right h, List.take_of_length_le (Nat.le_refl _), List.take_of_length_le h]
/-- a def that makes a new spring -/
def SpN (K : PySem.W.Frag) {α : Type} (args : α → List PyData) (pre : α → Prop) (post : α → Sg → Prop) : Sp := fun vs H Q _ => ∃ hs x, HsOk hs H ∧ DpAll K (hide hs H) vs (args x) ∧ pre x ∧ ∀ a H' st, Evl.Ex H H' → H' a = some (.lst [.int st.a, .int st.s, .int st.c]) → post x st → Q (.ref a) H'
theorem okN {x : Str} {st : Stmt} {N ps : List Str} {k : Nat} {α : Type} {args : α → List PyData} {pre : α → Prop} {post : α → Sg → Prop} (D : DefAt K mg x st) (S : FnScope N ps (defScope st))
    (hb : ∀ (kV doc pm : Value) (an : Option Addr) (cdv ct : Value) (us : List Value), us.length = ps.length → bindArgs (PySem.W.fnOf x x (defArgs st) (defBody st) (defScope st) .none kV doc pm an cdv ct) ⟨us, []⟩ = pure (ps.zip us))
    (hlen : ∀ y, (args y).length = ps.length) (body : ∀ y, pre y → JS (fC P w K mg base k N (defScope st)) (defBody st) (en0 N ((args y).map .dat)) [] ⟨fun _ _ => False, fun s μ' => ∃ n st', s = .loc n ∧ μ'[n]? = some (some (dS st')) ∧ post y st', fun _ _ => False, fun _ _ => False⟩) : OKs P w K mg base x (k + 1) ps (SpN K args pre post) := by
  obtain ⟨f, fd, hm, F⟩ := D
  refine ⟨f, fd, hm, F.kp, F.bindsN hb, F.ok S (fun vs H Q E h => ?_) fun cdv A outer s H vs Q E hr h => ?_⟩
  · obtain ⟨hs, y, _, h1, h2, _⟩ := h
    rw [DpAll.len h1]; exact hlen y
  · obtain ⟨hs, y, ho, h1, h2, q⟩ := h
    have S0 : StOk K hs [] H (start N vs) (en0 N ((args y).map .dat)) [] := ⟨by rw [show hide (hs ++ hid [] []) H = hide hs H from kn_nil hs [] H]; exact slots0 (SVs.of h1), ⟨rfl, List.nodup_nil, fun a ha => (by cases ha), ho, fun i a h => (by simp at h), fun i a ds h => (by simp at h)⟩⟩
    have R := body y h2 hs (start N vs) H [] S0 { nx := fun _ H' => Q .non H', rt := Q } ⟨fun _ _ _ _ _ _ _ e => False.elim e, fun v H' s μ' as' n m sv e => ?_, fun _ _ _ _ _ _ _ e => False.elim e, fun _ _ _ _ _ _ _ e => False.elim e⟩
    · exact ⟨_, PSs.nox (wb (inF_of hr)), R⟩
    · obtain ⟨i, st', e1, e2, e3⟩ := e
      subst e1
      obtain ⟨a, a1, a2⟩ := sv
      obtain ⟨ws, h5, h6⟩ := m.at_ i a (dS st') a1 e2
      rw [a2]
      refine q a H' st' (fun b o hb => (n.keep b o (fun z => by cases z) hb).1) ?_ e3
      cases h6 with
      | cons g1 g2 =>
        cases g2 with
        | cons g3 g4 =>
          cases g4 with
          | cons g5 g6 =>
            cases g6
            rw [h5, Dp.int_inv g1, Dp.int_inv g3, Dp.int_inv g5]
abbrev sp__law_spring (K : PySem.W.Frag) : Sp := SpN K (α := List Int × Nat) (fun y => [.list (y.1.map .int), .int (y.2 : Int)]) (fun y => y.1.length ≤ 63 ∧ y.2 ≤ 10) (fun _ st => Sk 200 st)
theorem sc61 : FnScope ["_law_script", "_law_turn", "_law_own", "_law_stirred", "_law_each"] ["_law_script", "_law_turn"] (defScope (topS 61)) := ⟨rfl, rfl, rfl, by decide +kernel, rfl, by decide +kernel, by decide +kernel⟩
theorem ok__law_spring (D : DefAt K mg "_law_spring" (topS 61)) (n_int : mg "int" = none) (n_len : mg "len" = none) (n_abs : mg "abs" = none) (n_sum : mg "sum" = none) : OKs P w K mg base "_law_spring" 1 ["_law_script", "_law_turn"] (sp__law_spring K) := by
  refine okN (k := 0) D sc61 (fun _ _ _ _ _ _ us hl => match us, hl with | [_, _], _ => rfl) (fun _ => rfl) (fun y hp => ?_)
  obtain ⟨ns, t⟩ := y
  obtain ⟨hn, ht⟩ := hp
  simp only at hn ht
  have ht9 : ((t : Nat) : Int).natAbs < 2 ^ 4 := by omega
  refine js_set 2 ⟨sc61.nd, rfl, .inl rfl, .inl rfl⟩ (JE.imp (Φ := fun s μ1 => ∃ o : Int, s = .dat (.int o) ∧ μ1 = []) (je_ifD (dt_lt (de_name 1) (de_lenL n_len (de_name 0))) (fun hq => ?_) (fun hq => je (de_add (de_add (de_mul (cm (n := 14) (by decide) ht9) de_int (de_name 1)) de_int) (de_mod (by decide) (de_intc n_int (de_sum (ns := ns.take 4) n_sum (DE.is (de_slL (de_name 0) do_none (do_some de_int)) (by rw [show (4 : Int) = ((4 : Nat) : Int) from rfl, cut_take, List.map_take])))) de_int)) ⟨_, rfl, rfl⟩)) (fun s μ1 hs => ?_))
  · have hlt : t < ns.length := by
      have q : (t : Int) < ((ns.map PyData.int).length : Int) := of_decide_eq_true hq
      rw [List.length_map] at q
      omega
    have hat : atI (ns.map PyData.int) (t : Int) = some (.int ns[t]) := by
      rw [atI_nat (by rw [List.length_map]; exact hlt), List.getElem_map]
    exact je (de_intc n_int (de_ixL (de_name 0) (de_name 1) hat)) ⟨_, rfl, rfl⟩
  obtain ⟨o, rfl, rfl⟩ := hs
  refine js_setD (d := .int (52361 + 1499 * (t : Int))) 3 ⟨sc61.nd, rfl, .inl rfl, .inl rfl⟩ (de_add de_int (de_mul (cm (n := 11) (by decide) ht9) de_int (de_name 1))) ?_
  refine js_forL (ds := (ns.take 7 ++ [o]).map .int) 4 ⟨sc61.nd, rfl, .inl rfl, .inl rfl⟩ (fun m δ' μ' => ∃ z s4, δ' = [some (.dat (.list (ns.map .int))), some (.dat (.int (t : Int))), some (.dat (.int o)), some (.dat (.int z)), s4] ∧ μ' = [some ((ns.take 7).map .int), some [.int o]] ∧ 0 ≤ z ∧ z < 2147483563) (je_catM (je_slLM (jed (.list (ns.map .int)) (de_name 0) ⟨_, rfl, jo_none (jo_some (jed (.int 7) de_int ⟨7, rfl, 0, rfl, je_lstM (jad1 (de_name 2) (ja_nil ⟨[.int o], rfl, Nat.le_of_ble_eq_true rfl, ?_⟩))⟩))⟩))) (fun m d δ' μ' hd iv => ?_) (fun δ' μ' iv => ?_)
  · have e7 : cutD (ns.map PyData.int) none (some 7) = (ns.take 7).map .int := by rw [show (7 : Int) = ((7 : Nat) : Int) from rfl, cut_take, List.map_take]
    refine ⟨1, cutD (ns.map PyData.int) none (some 7), [.int o], rfl, rfl, rfl, ?_, ?_, _, _, rfl, ?_, by omega, by omega⟩
    · rw [e7, List.length_map, List.length_take]; show min 7 ns.length + 1 ≤ 1000; omega
    · rw [e7, List.map_append]; rfl
    · rw [e7]; rfl
  · obtain ⟨z, s4, rfl, rfl, z0, z1⟩ := iv
    obtain ⟨v, rfl, hv⟩ := map_at hd
    have hz : z.natAbs < 2 ^ 31 := by omega
    refine js_setD (d := .int ((z * 47293 + v % 2147483563 + 19) % 2147483563)) 3 ⟨sc61.nd, rfl, .inl rfl, .inl rfl⟩ (de_mod (by decide) (de_intc n_int (de_add (de_add (de_mul (cm (m := 16) hz (by decide)) (de_name 3) de_int) (de_mod (by decide) (de_intc n_int (de_name 4)) de_int)) de_int)) de_int) (js_nil ⟨_, _, rfl, rfl, Int.emod_nonneg _ (by decide), Int.emod_lt_of_pos _ (by decide)⟩)
  · obtain ⟨z, s4, rfl, rfl, z0, z1⟩ := iv
    refine js_ret (je_lstM (ja_cons (JE.imp (Φ := fun s μ1 => ∃ i : Int, s = .dat (.int i) ∧ 0 ≤ i ∧ μ1 = [some ((ns.take 7).map .int), some [.int o]]) (je_ifD (dt_or (dt_lt (de_name 2) de_int) fun hq => (dt_ge (de_name 2) (de_pow ⟨by decide, by decide, by decide⟩ de_int de_int))) (fun hq => je (de_abs n_abs (de_name 2)) ⟨_, rfl, by split <;> omega, rfl⟩) (fun hq => je de_int ⟨0, rfl, by decide, rfl⟩)) (fun s μ1 hs => ?_))))
    obtain ⟨i, rfl, hi, rfl⟩ := hs
    exact jad1 (de_name 3) (jad1 de_int (ja_nil ⟨[.int i, .int z, .int 0], rfl, by show 3 ≤ 1000; decide, 2, ⟨i, z, 0⟩, rfl, rfl, hi, z0, z1, by show (0 : Int) ≤ 0; decide, by show (0 : Int) + 200 ≤ 1000000; decide⟩))
/-! ### the law -/
section
variable {C : Ctx} {e : Expr} {es : List Expr} {σ : L2.St} {H : Hp} {Q : VK} {pos : Pos} {x : Str} {v : V}
theorem we_name (i : Nat) (hN : C.N[i]? = some x) (hv : Vis C.sc x) (hs : σ[i]? = some (some v)) (h : Q v H) (hd : (x == ("__debug__" : Str)) = false := by decide) (hcd : (x == ("__classdict__" : Str)) = false := by decide) : WE C (.Name x pos) σ H Q :=
  ⟨tVar i, fun X hX => pe_var (by rw [hX.N]; exact hN) (by unfold Vis; rw [hX.sc]; exact hv) hd hcd, v, hs, h⟩
theorem wa_nil {Q : List V → Hp → Prop} (h : Q [] H) : WA C [] σ H Q := ⟨tNil, fun X _ => pa_nil, h⟩
theorem wa_cons {Q : List V → Hp → Prop} (h : WE C e σ H fun v H1 => WA C es σ H1 fun vs H2 => Q (v :: vs) H2) (hst : ∀ env, starEach (e :: es) env = (false, eval e env) :: starEach es env) : WA C (e :: es) σ H Q :=
  ⟨tCons (WE C e) (WA C es), fun X hX => pa_cons (we hX) (wa hX) (hst _), h⟩
theorem we_call {k : Nat} {ps : List Str} {sp : Sp} {pp : Pos} (F : OKc C x k ps sp) (hk : k ≤ C.k) (hg : GlC C x) (hdb : (x == ("__debug__" : Str)) = false) (hst : ∀ env, starEach (e :: es) env = (false, eval e env) :: starEach es env) (hpl : ∀ env, (backTo pos (starEach es env)).any (·.1) = false)
    (h : WA C (e :: es) σ H fun vs H1 => sp (vs ++ []) H1 Q E0) : WE C (.Call (.Name x pp) (e :: es) [] pos) σ H Q := by
  obtain ⟨f, fd, h1, h2, h3, h4⟩ := F
  exact ⟨tCall sp [] E0 (WA C (e :: es)), fun X hX => pe_call (k := k) (fd := fd) (ps := ps) (by rw [hX.prog, hX.w, hX.K, hX.mg, hX.base]; exact h4) (hX.room.mono hk) (gl hX hg) (by rw [hX.mg]; exact h1) (by rw [hX.K]; exact h2) (by rw [hX.K]; exact h3) .nil pass0 (wa hX) hdb (hst _) (hpl _), h⟩
end
def Sc (K : PySem.W.Frag) (H : Hp) (p : Addr) : Prop := ∃ ns : List Int, ns.length ≤ 63 ∧ SqL K H p (ns.map V.int)
theorem Sc.mono {H H' : Hp} {p : Addr} (h : Sc K H p) (e : Evl.Ex H H') : Sc K H' p := let ⟨ns, a, b⟩ := h; ⟨ns, a, Evl.ex_l e b⟩
/-- all but one list stands: the script is there still, or is that list -/
theorem Sc.but {H H' : Hp} {p a : Addr} {st : Sg} (h : Sc K H p) (e : ∀ b o, b ≠ a → H b = some o → H' b = some o) (ha : H' a = some (.lst [.int st.a, .int st.s, .int st.c])) : Sc K H' p := by
  by_cases hp : p = a
  · subst hp
    exact ⟨[st.a, st.s, st.c], by show 3 ≤ 63; decide, .inl (.inl ha)⟩
  · obtain ⟨ns, h1, h2⟩ := h
    refine ⟨ns, h1, ?_⟩
    rcases h2 with (h2 | ⟨o, h2⟩) | h2
    · exact .inl (.inl (e _ _ hp h2))
    · exact .inl (.inr ⟨o, e _ _ hp h2⟩)
    · exact .inr h2
theorem ints_dp {G : Hp} : ∀ ns : List Int, DpAll K G (ns.map V.int) (ns.map PyData.int)
  | [] => .nil
  | n :: r => .cons (.int n) (ints_dp r)
def spLaw (K : PySem.W.Frag) : Sp := fun vs H Q _ => ∃ p, vs = [.ref p] ∧ Sc K H p ∧ ∀ H', Q (.bl true) H'
theorem scL : FnScope ["_law_script", "_law_turn"] ["_law_script"] (defScope (topS 95)) := ⟨rfl, rfl, rfl, by decide +kernel, rfl, by decide +kernel, by decide +kernel⟩
theorem law_elt {C : Ctx} {pos pos2 p1 p2 p3 p4 : Pos} {i : Nat} {p D : Addr} {σ : L2.St} {H : Hp} {Q : VK} {acc : List V} (hC : C.K = K) (hr : OKc C "_law_right" 10 ["_law_spring_here"] (sp__law_right C.K)) (hs : OKc C "_law_spring" 1 ["_law_script", "_law_turn"] (sp__law_spring C.K)) (hk : 10 ≤ C.k) (g1 : GlC C "_law_right") (g2 : GlC C "_law_spring")
    (n0 : C.N[0]? = some ("_law_script" : Str)) (n1 : C.N[1]? = some ("_law_turn" : Str)) (v0 : Vis C.sc "_law_script") (v1 : Vis C.sc "_law_turn") (s0 : σ[0]? = some (some (.ref p))) (s1 : σ[1]? = some (some (.int (i : Int)))) (hi : i ≤ 10) (hS : Sc K H p) (hD : H D = some (.lst acc)) (hl : acc.length < 3)
    (q : ∀ H', Sc K H' p → H' D = some (.lst acc) → Q (.bl true) H') : WE C (.Call (.Name "_law_right" p1) [.Call (.Name "_law_spring" p2) [.Name "_law_script" p3, .Name "_law_turn" p4] [] pos2] [] pos) σ H Q := by
  subst hC
  refine we_call hr hk g1 (by decide) (fun _ => rfl) (fun _ => rfl) (wa_cons (we_call hs (Nat.le_trans (by decide) hk) g2 (by decide) (fun _ => rfl) (fun _ => rfl) (wa_cons (we_name 0 n0 v0 s0 (wa_cons (we_name 1 n1 v1 s1 (wa_nil ?_)) (fun _ => rfl))) (fun _ => rfl))) (fun _ => rfl))
  obtain ⟨ns, hn, hq⟩ := id hS
  refine ⟨[], (ns, i), fun a ha => (nomatch ha), ?_, ⟨hn, hi⟩, fun a H' st e ha hk1 => wa_nil ?_⟩
  · rw [hide_nil]
    exact .cons (.lst hq (ints_dp ns)) (.cons (.int _) .nil)
  · have hD' := e _ _ hD
    have hne : D ≠ a := fun z => by
      rw [z, ha] at hD'
      injection hD' with z1
      injection z1 with z2
      rw [← z2] at hl
      exact absurd hl (by show ¬ (3 < 3); decide)
    refine ⟨[], a, [], (), st, [.int st.a, .int st.s, .int st.c], rfl, fun a ha => (nomatch ha), ha, .cons (.int _) (.cons (.int _) (.cons (.int _) .nil)), .nil, hk1, fun v H2 d st2 ws2 k1 k2 k3 k4 hpost => ?_⟩
    have hw : ws2 = [.int st2.a, .int st2.s, .int st2.c] := by
      cases k3 with
      | cons g1 g2 =>
        cases g2 with
        | cons g3 g4 =>
          cases g4 with
          | cons g5 g6 =>
            cases g6
            rw [Dp.int_inv g1, Dp.int_inv g3, Dp.int_inv g5]
    subst hw
    have hd : d = .bool true := hpost
    subst hd
    rw [Dp.bl_inv k4]
    exact q H2 ((hS.mono e).but k1 k2) (k1 _ _ hne hD')
theorem ok_law {f : Addr} {fd : FuncData} (F : FunD K "law" "law" (defArgs (topS 95)) (defBody (topS 95)) (defScope (topS 95)) [] [] f fd) (hr : OKs P w K mg base "_law_right" 10 ["_law_spring_here"] (sp__law_right K)) (hs : OKs P w K mg base "_law_spring" 1 ["_law_script", "_law_turn"] (sp__law_spring K)) (n_all : mg "all" = none) (n_range : mg "range" = none) : FnOk P w K mg base CX0 (10 + 1) f fd ["_law_script"] (spLaw K) := by
  refine F.ok scL (fun vs H Q E h => ?_) fun cdv A outer s H vs Q E hroom h => ?_
  · obtain ⟨p, rfl, _⟩ := h; rfl
  · obtain ⟨p, rfl, hS, q⟩ := h
    refine ⟨_, PSs.nox (wb (inF_of hroom)), ?_⟩
    refine ⟨tSeq (tRet (WE (fC P w K mg base 10 ["_law_script", "_law_turn"] (defScope (topS 95))) _)) tNever, fun X hX => pss_cons (ps_ret (we hX)) pss_never, ?_⟩
    refine ⟨tCB (rAll K) (tCons (WE _ _) tNil), fun X hX => pe_callB (by have := cr_all (X := X) hX.calm; rw [hX.K] at this; exact this) (gl hX rfl) (by rw [hX.mg]; exact n_all) bAll (pa_cons (we hX) pa_nil rfl) (by decide) (by decide) rfl rfl, ?_⟩
    refine ⟨tLc (iRng1 (tCons (tC (.int 2)) tNil)) (gName 1) (WTs ((fC P w K mg base 10 ["_law_script", "_law_turn"] (defScope (topS 95))).blk _) []) (WE ((fC P w K mg base 10 ["_law_script", "_law_turn"] (defScope (topS 95))).blk _) _) [1], fun X hX => pe_lc (own := [("_law_turn", 1)]) hX.calm (by rw [hX.N]; exact scL.nd) (pi_range1 (gl hX rfl) (by rw [hX.mg]; exact n_range) (pa_cons (pe_int) pa_nil rfl) rfl) (by rw [hX.N, hX.sc]; exact blkOk_by (by dsimp only [fC]; decide +kernel)) (fun s H A cl fp => (Nm.mk scL.nd rfl (.inl rfl) (.inr rfl) : Nm ((fC P w K mg base 10 ["_law_script", "_law_turn"] (defScope (topS 95))).blk _) 1 "_law_turn").pg (hX.blk _ s H A cl fp)) (fun s H A cl fp => wts (hX.blk _ s H A cl fp)) (fun s H A cl fp => we (hX.blk _ s H A cl fp)), ?_⟩
    refine ⟨2, rfl, by decide, by decide, fun D hD => ?_⟩
    have hU : ∀ (H : Hp) (l : List V), Sc K H p → Sc K (upd H D (.lst l)) p := fun H l h => by
      by_cases hpD : p = D
      · obtain ⟨ns, h1, h2⟩ := hS
        refine ⟨ns, h1, .inr ?_⟩
        rcases h2 with (h2 | ⟨o, h2⟩) | h2
        · rw [hpD, hD] at h2; cases h2
        · rw [hpD, hD] at h2; cases h2
        · exact h2
      · obtain ⟨ns, h1, h2⟩ := h
        refine ⟨ns, h1, ?_⟩
        rcases h2 with (h2 | ⟨o, h2⟩) | h2
        · exact .inl (.inl (by rw [upd_ne hpD]; exact h2))
        · exact .inl (.inr ⟨o, by rw [upd_ne hpD]; exact h2⟩)
        · exact .inr h2
    refine lc_range (n := 2) (fun i H => Sc K H p ∧ H D = some (.lst (List.replicate i (.bl true)))) ⟨hS.mono (Evl.Ex.new hD), upd_same⟩ (fun i H hi iv => ?_) (fun H iv => ?_)
    · refine ⟨rfl, ⟨tYes, fun X _ => pts_nil, ?_⟩⟩
      show WE _ _ _ _ _
      refine law_elt (i := i) (D := D) rfl hr hs (Nat.le_refl _) rfl rfl rfl rfl (by first | exact Or.inl rfl | exact Or.inr (Or.inl rfl) | exact Or.inr (Or.inr rfl)) (by first | exact Or.inl rfl | exact Or.inr (Or.inl rfl) | exact Or.inr (Or.inr rfl)) rfl (by show some (some (V.int (0 + (i : Int)))) = _; rw [Int.zero_add]) (by omega) iv.1 iv.2 (by rw [List.length_replicate]; omega) (fun H' h1 h2 => ⟨_, h2, by rw [List.length_replicate]; exact Nat.lt_of_lt_of_le hi (sz (by decide)), ?_, ?_⟩)
      · exact hU _ _ h1
      · rw [upd_same]
        congr 2
        rw [List.replicate_succ']
    · obtain ⟨h1, h2⟩ := iv
      exact ⟨D, [true, true], rfl, .inl (.inl h2), q _⟩

end K79
end
section
set_option Elab.async false
set_option linter.all false
set_option maxRecDepth 100000
set_option maxHeartbeats 0
namespace K79
open PySem PySem.Spec PyProof.Rows L2

def dd (x : Str) (i : Nat) : He.DefD := ⟨(x, none), x, x, defArgs (topS i), defBody (topS i), defScope (topS i), [], []⟩
def dInit : He.DefD := ⟨("Parts", some "__init__"), "__init__", "Parts.__init__", defArgs stI, defBody stI, defScope stI, [], []⟩
def fn0 : List He.DefD := [dd "is_whole" 6, dd "are_wholes" 7, dd "divisor_of" 8, dd "lowest" 9, dd "is_complex" 14, dd "plus" 15, dd "minus" 16, dd "times" 17, dd "scaled" 18, dd "turned_over" 19, dd "square_size" 20, dd "unit_for" 21, dd "nearest" 22, dd "divisor_of_two" 23, dd "divisor_of_all" 24, dd "divided" 25]
def fn1 : List He.DefD := [dd "quotient_place" 28, dd "determinant" 31, dd "form_of" 32, dd "is_flag" 33, dd "is_map" 34, dd "check_map" 35, dd "joined" 36, dd "trace" 39, dd "trace_place" 40, dd "gap" 42, dd "flipped" 43, dd "size_of" 44, dd "is_real" 45, dd "check_kinds" 50, dd "is_true_map" 51, dd "factor_in" 52]
def fn2 : List He.DefD := [dd "is_line_mirror" 53, dd "fewest_plain_kept" 54, dd "fewest_plain_moved" 55, dd "fewest_mirrored_kept" 56, dd "fewest_mirrored_moved" 57, dd "fewest_of" 58, dd "fewest_cells" 59, dd "_law_spring" 61, dd "_law_draw" 62, dd "_law_one_of" 63, dd "_law_about" 64, dd "_law_shuffled" 65, dd "_law_gcd" 66, dd "_law_thin" 67, dd "_law_upright" 68, dd "_law_times" 69]
def fn3 : List He.DefD := [dd "_law_plus" 70, dd "_law_minus" 71, dd "_law_bar" 72, dd "_law_norm" 73, dd "_law_over" 74, dd "_law_common" 75, dd "_law_quarter" 76, dd "_law_form" 77, dd "_law_joined" 78, dd "_law_home" 79, dd "_law_still" 80, dd "_law_cell_map" 81, dd "_law_way" 82, dd "_law_quotient" 83, dd "_law_spot" 84, dd "_law_scale" 85]
def fn4 : List He.DefD := [dd "_law_span" 86, dd "_law_stroke" 87, dd "_law_power" 88, dd "_law_box" 89, dd "_law_boxes" 90, dd "_law_pair" 91, dd "_law_some_words" 92, dd "_law_is_whole" 93, dd "_law_right" 94, dd "law" 95]
def fn : List He.DefD := fn0 ++ fn1 ++ fn2 ++ fn3 ++ fn4 ++ [dInit]
def fa0 : List He.Fa := [.glo "is_whole", .glo "are_wholes", .glo "divisor_of", .glo "lowest", .glo "is_complex", .glo "plus", .glo "minus", .glo "times", .glo "scaled", .glo "turned_over", .glo "square_size", .glo "unit_for", .glo "nearest", .glo "divisor_of_two", .glo "divisor_of_all", .glo "divided"]
def fa1 : List He.Fa := [.glo "quotient_place", .glo "determinant", .glo "form_of", .glo "is_flag", .glo "is_map", .glo "check_map", .glo "joined", .glo "trace", .glo "trace_place", .glo "gap", .glo "flipped", .glo "size_of", .glo "is_real", .glo "check_kinds", .glo "is_true_map", .glo "factor_in"]
def fa2 : List He.Fa := [.glo "is_line_mirror", .glo "fewest_plain_kept", .glo "fewest_plain_moved", .glo "fewest_mirrored_kept", .glo "fewest_mirrored_moved", .glo "fewest_of", .glo "fewest_cells", .glo "_law_spring", .glo "_law_draw", .glo "_law_one_of", .glo "_law_about", .glo "_law_shuffled", .glo "_law_gcd", .glo "_law_thin", .glo "_law_upright", .glo "_law_times"]
def fa3 : List He.Fa := [.glo "_law_plus", .glo "_law_minus", .glo "_law_bar", .glo "_law_norm", .glo "_law_over", .glo "_law_common", .glo "_law_quarter", .glo "_law_form", .glo "_law_joined", .glo "_law_home", .glo "_law_still", .glo "_law_cell_map", .glo "_law_way", .glo "_law_quotient", .glo "_law_spot", .glo "_law_scale"]
def fa4 : List He.Fa := [.glo "_law_span", .glo "_law_stroke", .glo "_law_power", .glo "_law_box", .glo "_law_boxes", .glo "_law_pair", .glo "_law_some_words", .glo "_law_is_whole", .glo "_law_right", .glo "law", .glo "ZERO", .glo "ONE", .glo "UNITS", .glo "FAR", .glo "STAYS", .glo "UNITY"]
def fa5 : List He.Fa := [.glo "WORDS", .glo "Parts"]
def faB : List He.Fa := [.free "isinstance", .free "int", .free "bool", .free "tuple", .free "len", .free "all", .free "range", .free "list", .free "sum", .free "abs", .free "divmod", .free "enumerate", .free "str"]
def faC : List He.Fa := [.cls "Parts", .mkr "Parts", .noat "Parts" "goal", .noat "Parts" "source", .noat "Parts" "stretch", .noat "Parts" "way"]
def fa : List He.Fa := fa0 ++ fa1 ++ fa2 ++ fa3 ++ fa4 ++ fa5 ++ faB ++ faC
abbrev R : PySem.W.OpenRow := PySem.W.OpenLaw.row PySem.Challenge.rw_drawarms_k79_whole_no_arm_beats_the_fewe
def nm0 : List Str := ["is_whole", "are_wholes", "divisor_of", "lowest", "is_complex", "plus", "minus", "times", "scaled", "turned_over", "square_size", "unit_for", "nearest", "divisor_of_two", "divisor_of_all", "divided"]
def nm1 : List Str := ["quotient_place", "determinant", "form_of", "is_flag", "is_map", "check_map", "joined", "trace", "trace_place", "gap", "flipped", "size_of", "is_real", "check_kinds", "is_true_map", "factor_in"]
def nm2 : List Str := ["is_line_mirror", "fewest_plain_kept", "fewest_plain_moved", "fewest_mirrored_kept", "fewest_mirrored_moved", "fewest_of", "fewest_cells", "_law_spring", "_law_draw", "_law_one_of", "_law_about", "_law_shuffled", "_law_gcd", "_law_thin", "_law_upright", "_law_times"]
def nm3 : List Str := ["_law_plus", "_law_minus", "_law_bar", "_law_norm", "_law_over", "_law_common", "_law_quarter", "_law_form", "_law_joined", "_law_home", "_law_still", "_law_cell_map", "_law_way", "_law_quotient", "_law_spot", "_law_scale"]
def nm4 : List Str := ["_law_span", "_law_stroke", "_law_power", "_law_box", "_law_boxes", "_law_pair", "_law_some_words", "_law_is_whole", "_law_right", "ZERO", "ONE", "UNITS", "FAR", "STAYS", "UNITY", "WORDS"]
def nm5 : List Str := ["ArmError", "InvalidMap", "InvalidKinds", "Parts", "gcd", "isqrt"]
def names : List Str := nm0 ++ nm1 ++ nm2 ++ nm3 ++ nm4 ++ nm5

/-! ### the module's constants -/
def datL (f : Value → PyData → Bool) : List Value → List PyData → Bool
  | [], [] => true
  | u :: us, d :: ds => f u d && datL f us ds
  | _, _ => false
def datB (K : PySem.W.Frag) : Nat → Value → PyData → Bool
  | 0, _, _ => false
  | n + 1, u, d => match u, d with
    | .int i _, .int j => decide (i = j)
    | .str x _, .str y => decide (x = y)
    | .ref a, .tuple ds => (match K.lookup a with
      | some ⟨.type c, _, .seq its _, _⟩ => decide (c = "tuple") && (decide (its.size ≤ sizeLine) && datL (datB K n) its.toList ds)
      | _ => false)
    | _, _ => false
theorem datL_ok {K : PySem.W.Frag} {f : Value → PyData → Bool} (hf : ∀ u d, f u d = true → ∃ v, RelV v u ∧ ∀ G, Dp K G v d) : ∀ (us : List Value) (ds : List PyData), datL f us ds = true → ∃ vs, Vals vs us ∧ ∀ G, DpAll K G vs ds
  | [], [], _ => ⟨[], .nil, fun _ => .nil⟩
  | [], _ :: _, h => nomatch h
  | _ :: _, [], h => nomatch h
  | u :: us, d :: ds, h => by
    obtain ⟨h1, h2⟩ := He.ba (show (f u d && datL f us ds) = true from h)
    obtain ⟨v, e1, e2⟩ := hf u d h1
    obtain ⟨vs, e3, e4⟩ := datL_ok hf us ds h2
    exact ⟨v :: vs, .cons e1 e3, fun G => .cons (e2 G) (e4 G)⟩
theorem datB_ok {K : PySem.W.Frag} : ∀ (n : Nat) (u : Value) (d : PyData), datB K n u d = true → ∃ v, RelV v u ∧ ∀ G, Dp K G v d := by
  intro n
  induction n with
  | zero => intro u d h; exact nomatch h
  | succ n ih =>
    intro u d h
    unfold datB at h
    split at h
    · have e := of_decide_eq_true h
      subst e
      exact ⟨.int _, ⟨_, rfl⟩, fun G => .int _⟩
    · have e := of_decide_eq_true h
      subst e
      exact ⟨.str _, ⟨_, rfl⟩, fun G => .str _⟩
    · rename_i a ds
      split at h
      · rename_i c od its m osl hq
        obtain ⟨h1, h⟩ := He.ba h
        obtain ⟨h2, h3⟩ := He.ba h
        obtain ⟨vs, e1, e2⟩ := datL_ok (K := K) ih its.toList ds h3
        have ec := of_decide_eq_true h1
        subst ec
        exact ⟨.ref a, rfl, fun G => .tup (.inr ⟨_, its, m, hq, rfl, rfl, of_decide_eq_true h2, e1⟩) (e2 G)⟩
      · exact nomatch h
    · exact nomatch h
def cnB (K : PySem.W.Frag) (x : Str) (d : PyData) : Bool := match PySem.W.nsIn K mainGlobals x with
  | some (some u) => datB K 4 u d
  | _ => false
theorem cnB_ok {K : PySem.W.Frag} {h : Heap} {mg : Str → Option Value} (X : K.In h) (G : h.Ns mainGlobals mg) {x : Str} {d : PyData} (c : cnB K x d = true) : CnK K mg x d := by
  unfold cnB at c
  split at c
  · rename_i u hu
    obtain ⟨v, e1, e2⟩ := datB_ok 4 u d c
    exact ⟨v, u, PySem.W.mg_of X G hu, e1, e2⟩
  · exact nomatch c
def blB (K : PySem.W.Frag) (x : Str) (id : String) : Bool := match PySem.W.nsIn K mainGlobals x with
  | some (some (.builtin i)) => decide (i = id)
  | _ => false
theorem blB_ok {K : PySem.W.Frag} {h : Heap} {mg : Str → Option Value} (X : K.In h) (G : h.Ns mainGlobals mg) {x : Str} {id : String} (c : blB K x id = true) : mg x = some (.builtin id) := by
  unfold blB at c
  split at c
  · rename_i i hu
    have e := of_decide_eq_true c
    subst e
    exact PySem.W.mg_of X G hu
  · exact nomatch c
def cns : List (Str × PyData) := [("ZERO", dC 0), ("ONE", dC 1), ("UNITS", .tuple [dC 1, dC ui, dC (-1), dC (-ui)]), ("FAR", dP (1, 0, 0)), ("STAYS", dM Ch.still), ("UNITY", dP (1, 0, 1)), ("WORDS", .tuple (wordsS.map .str))]
def bls : List (Str × String) := [("gcd", "math.gcd"), ("isqrt", "math.isqrt")]
def exA (K : PySem.W.Frag) : Bool := cns.all fun q => cnB K q.1 q.2
def exC (K : PySem.W.Frag) : Bool := bls.all fun q => blB K q.1 q.2

/-! ### the Hook -/
abbrev AlX : Type := He.AlD × (Bool × Bool)
def obsX (K : PySem.W.Frag) : AlX := (He.obsD fa fn K, exA K, exC K)
def valX : AlX := (He.valD fn, true, true)
def SaysX (K : PySem.W.Frag) : Prop := obsX K = valX
theorem SaysX.d {K : PySem.W.Frag} (c : SaysX K) : He.SaysD fa fn K := by
  have h : (obsX K).1 = valX.1 := by rw [show obsX K = valX from c]
  exact h
theorem SaysX.a {K : PySem.W.Frag} (c : SaysX K) : exA K = true := by
  have h : (obsX K).2.1 = valX.2.1 := by rw [show obsX K = valX from c]
  exact h
theorem SaysX.c {K : PySem.W.Frag} (c : SaysX K) : exC K = true := by
  have h : (obsX K).2.2 = valX.2.2 := by rw [show obsX K = valX from c]
  exact h
theorem SaysX.cn {K : PySem.W.Frag} (c : SaysX K) (i : Nat) {q : Str × PyData} (h : cns[i]? = some q := by rfl) : cnB K q.1 q.2 = true := List.all_eq_true.mp c.a q (List.mem_of_getElem? h)
theorem SaysX.bl {K : PySem.W.Frag} (c : SaysX K) (i : Nat) {q : Str × String} (h : bls[i]? = some q := by rfl) : blB K q.1 q.2 = true := List.all_eq_true.mp c.c q (List.mem_of_getElem? h)
end K79
end
section
set_option Elab.async false
set_option linter.all false
set_option maxRecDepth 100000
set_option maxHeartbeats 0
namespace K79
open PySem PySem.Spec PyProof.Rows L2
theorem def_at {K : PySem.W.Frag} {h : Heap} {mg : Str → Option Value} (X : K.In h) (G : h.Ns mainGlobals mg) (c : SaysX K) (x : Str) (i k m : Nat) (h1 : fn[k]? = some (dd x i) := by rfl) (h2 : fa[m]? = some (.glo x) := by rfl) : DefAt K mg x (topS i) := by
  obtain ⟨fd, F⟩ := c.d.def_ k h1
  exact ⟨_, fd, He.glo_ok X G (c.d.fact m h2), F⟩
theorem facts {P : Program} {w : World} {K : PySem.W.Frag} {h : Heap} {mg : Str → Option Value} {f : Addr} (X : K.In h) (G : h.Ns mainGlobals mg) (hfa : mg ("law" : Str) = some (.ref f)) (c : SaysX K) :
    ∃ fd : FuncData, (∀ (s : Shared) (v : Value), BindsTo s fd ⟨[v], []⟩ [("_law_script", v)]) ∧ ∀ base : Heap, K.In base → base.Ns mainGlobals mg → FnOk P w K mg base CX0 11 f fd ["_law_script"] (spLaw K) := by
  have n_isinstance : mg "isinstance" = none := He.free_ok X G (c.d.fact 82 (f := .free "isinstance") rfl)
  have n_int : mg "int" = none := He.free_ok X G (c.d.fact 83 (f := .free "int") rfl)
  have n_bool : mg "bool" = none := He.free_ok X G (c.d.fact 84 (f := .free "bool") rfl)
  have n_tuple : mg "tuple" = none := He.free_ok X G (c.d.fact 85 (f := .free "tuple") rfl)
  have n_len : mg "len" = none := He.free_ok X G (c.d.fact 86 (f := .free "len") rfl)
  have n_all : mg "all" = none := He.free_ok X G (c.d.fact 87 (f := .free "all") rfl)
  have n_range : mg "range" = none := He.free_ok X G (c.d.fact 88 (f := .free "range") rfl)
  have n_list : mg "list" = none := He.free_ok X G (c.d.fact 89 (f := .free "list") rfl)
  have n_sum : mg "sum" = none := He.free_ok X G (c.d.fact 90 (f := .free "sum") rfl)
  have n_abs : mg "abs" = none := He.free_ok X G (c.d.fact 91 (f := .free "abs") rfl)
  have n_divmod : mg "divmod" = none := He.free_ok X G (c.d.fact 92 (f := .free "divmod") rfl)
  have n_enumerate : mg "enumerate" = none := He.free_ok X G (c.d.fact 93 (f := .free "enumerate") rfl)
  have n_str : mg "str" = none := He.free_ok X G (c.d.fact 94 (f := .free "str") rfl)
  have c_ZERO := cnB_ok X G (c.cn 0)
  have c_ONE := cnB_ok X G (c.cn 1)
  have c_UNITS := cnB_ok X G (c.cn 2)
  have c_FAR := cnB_ok X G (c.cn 3)
  have c_STAYS := cnB_ok X G (c.cn 4)
  have c_UNITY := cnB_ok X G (c.cn 5)
  have c_WORDS := cnB_ok X G (c.cn 6)
  have g_gcd : mg "gcd" = some (.builtin "math.gcd") := blB_ok X G (c.bl 0)
  have g_isqrt : mg "isqrt" = some (.builtin "math.isqrt") := blB_ok X G (c.bl 1)
  have hcls := He.cls_ok (c.d.fact 95 (f := .cls "Parts") rfl)
  have hmk := He.mkr_ok (c.d.fact 96 (f := .mkr "Parts") rfl)
  have nat_goal := He.noat_ok (c.d.fact 97 (f := .noat "Parts" "goal") rfl)
  have nat_source := He.noat_ok (c.d.fact 98 (f := .noat "Parts" "source") rfl)
  have nat_stretch := He.noat_ok (c.d.fact 99 (f := .noat "Parts" "stretch") rfl)
  have nat_way := He.noat_ok (c.d.fact 100 (f := .noat "Parts" "way") rfl)
  have gP := He.glo_ok X G (c.d.fact 81 (f := .glo "Parts") rfl)
  obtain ⟨fdI, FI⟩ := c.d.def_ 74 (d := dInit) rfl
  obtain ⟨fd, F⟩ := c.d.def_ 73 (d := dd "law" 95) rfl
  have e := hfa.symm.trans (He.glo_ok X G (c.d.fact 73 (f := .glo "law") rfl))
  cases e
  have b := FunD.bindsA (ps := ["_law_script"]) F fun _ _ _ _ _ _ us hl => match us, hl with | [_], _ => rfl
  refine ⟨fd, fun s v => b s [v] rfl, fun base _ _ => ?_⟩
  have h_is_whole := ok_is_whole (P := P) (w := w) (base := base) (def_at X G c "is_whole" 6 0 0) n_isinstance n_int n_bool
  have h_are_wholes := ok_are_wholes (P := P) (w := w) (base := base) (def_at X G c "are_wholes" 7 1 1) n_isinstance n_tuple n_all n_len h_is_whole
  have h_divisor_of := ok_divisor_of (P := P) (w := w) (base := base) (def_at X G c "divisor_of" 8 2 2) g_gcd
  have h_lowest := ok_lowest (P := P) (w := w) (base := base) (def_at X G c "lowest" 9 3 3) h_divisor_of n_tuple
  have h_is_complex := ok_is_complex (P := P) (w := w) (base := base) (def_at X G c "is_complex" 14 4 4) h_are_wholes
  have h_plus := ok_plus (P := P) (w := w) (base := base) (def_at X G c "plus" 15 5 5)
  have h_minus := ok_minus (P := P) (w := w) (base := base) (def_at X G c "minus" 16 6 6)
  have h_times := ok_times (P := P) (w := w) (base := base) (def_at X G c "times" 17 7 7)
  have h_scaled := ok_scaled (P := P) (w := w) (base := base) (def_at X G c "scaled" 18 8 8)
  have h_turned_over := ok_turned_over (P := P) (w := w) (base := base) (def_at X G c "turned_over" 19 9 9)
  have h_square_size := ok_square_size (P := P) (w := w) (base := base) (def_at X G c "square_size" 20 10 10)
  have h_unit_for := ok_unit_for (P := P) (w := w) (base := base) (def_at X G c "unit_for" 21 11 11) c_UNITS h_times
  have h_nearest := ok_nearest (P := P) (w := w) (base := base) (def_at X G c "nearest" 22 12 12)
  have h_divisor_of_two := ok_divisor_of_two (P := P) (w := w) (base := base) (def_at X G c "divisor_of_two" 23 13 13) c_ZERO h_times h_turned_over h_nearest h_minus h_square_size
  have h_divisor_of_all := ok_divisor_of_all (P := P) (w := w) (base := base) (def_at X G c "divisor_of_all" 24 14 14) c_ZERO h_divisor_of_two
  have h_divided := ok_divided (P := P) (w := w) (base := base) (def_at X G c "divided" 25 15 15) h_times h_square_size h_turned_over
  have h_quotient_place := ok_quotient_place (P := P) (w := w) (base := base) (def_at X G c "quotient_place" 28 16 16) c_ZERO c_FAR h_times h_lowest h_turned_over h_square_size
  have h_determinant := ok_determinant (P := P) (w := w) (base := base) (def_at X G c "determinant" 31 17 17) h_minus h_times
  have h_form_of := ok_form_of (P := P) (w := w) (base := base) (def_at X G c "form_of" 32 18 18) h_divisor_of_all h_unit_for h_divided h_times c_ZERO
  have h_is_flag := ok_is_flag (P := P) (w := w) (base := base) (def_at X G c "is_flag" 33 19 19) h_is_whole
  have h_is_map := ok_is_map (P := P) (w := w) (base := base) (def_at X G c "is_map" 34 20 20) c_ZERO h_form_of n_isinstance n_tuple n_len h_is_flag h_determinant h_is_complex
  have h_check_map := ok_check_map (P := P) (w := w) (base := base) (def_at X G c "check_map" 35 21 21) h_is_map
  have h_joined := ok_joined (P := P) (w := w) (base := base) (def_at X G c "joined" 36 22 22) h_form_of n_list h_plus h_turned_over h_times
  have h_trace := ok_trace (P := P) (w := w) (base := base) (def_at X G c "trace" 39 23 23) h_plus
  have h_trace_place := ok_trace_place (P := P) (w := w) (base := base) (def_at X G c "trace_place" 40 24 24) h_quotient_place h_times h_determinant h_trace
  have h_gap := ok_gap (P := P) (w := w) (base := base) (def_at X G c "gap" 42 25 25) h_lowest
  have h_flipped := ok_flipped (P := P) (w := w) (base := base) (def_at X G c "flipped" 43 26 26)
  have h_size_of := ok_size_of (P := P) (w := w) (base := base) (def_at X G c "size_of" 44 27 27) h_lowest h_square_size
  have h_is_real := ok_is_real (P := P) (w := w) (base := base) (def_at X G c "is_real" 45 28 28)
  have h_check_kinds := ok_check_kinds (P := P) (w := w) (base := base) (def_at X G c "check_kinds" 50 29 29) n_enumerate n_isinstance n_tuple c_WORDS n_str
  have h_is_true_map := ok_is_true_map (P := P) (w := w) (base := base) (def_at X G c "is_true_map" 51 30 30) h_square_size h_determinant g_isqrt
  have h_factor_in := ok_factor_in (P := P) (w := w) (base := base) (def_at X G c "factor_in" 52 31 31) h_quotient_place
  have h_is_line_mirror := ok_is_line_mirror (P := P) (w := w) (base := base) (def_at X G c "is_line_mirror" 53 32 32) c_STAYS h_joined
  have h_fewest_plain_kept := ok_fewest_plain_kept (P := P) (w := w) (base := base) (def_at X G c "fewest_plain_kept" 54 33 33) h_factor_in c_UNITY h_is_real h_is_true_map h_size_of
  have h_fewest_plain_moved := ok_fewest_plain_moved (P := P) (w := w) (base := base) (def_at X G c "fewest_plain_moved" 55 34 34) h_is_true_map h_is_real h_trace_place
  have h_fewest_mirrored_kept := ok_fewest_mirrored_kept (P := P) (w := w) (base := base) (def_at X G c "fewest_mirrored_kept" 56 35 35) h_is_line_mirror c_UNITY h_is_true_map h_size_of h_factor_in
  have h_Parts := ok_Parts (P := P) (w := w) (base := base) gP hmk FI hcls nat_goal nat_source nat_stretch nat_way h_quotient_place h_scaled h_flipped h_minus h_times h_gap
  have h_fewest_mirrored_moved := ok_fewest_mirrored_moved (P := P) (w := w) (base := base) hcls nat_goal nat_source nat_stretch h_Parts (def_at X G c "fewest_mirrored_moved" 57 36 36) h_is_real h_is_true_map
  have h_fewest_of := ok_fewest_of (P := P) (w := w) (base := base) (def_at X G c "fewest_of" 58 37 37) c_STAYS c_ZERO h_fewest_plain_moved h_fewest_mirrored_moved h_fewest_plain_kept h_fewest_mirrored_kept
  have h_fewest_cells := ok_fewest_cells (P := P) (w := w) (base := base) (def_at X G c "fewest_cells" 59 38 38) h_check_map h_check_kinds h_fewest_of
  have hk_fewest_cells := okk_fewest_cells (P := P) (w := w) (base := base) (def_at X G c "fewest_cells" 59 38 38) h_check_map h_check_kinds h_fewest_of
  have h__law_spring := ok__law_spring (P := P) (w := w) (base := base) (def_at X G c "_law_spring" 61 39 39) n_int n_len n_abs n_sum
  have h__law_draw := ok__law_draw (P := P) (w := w) (base := base) (def_at X G c "_law_draw" 62 40 40) n_divmod n_int
  have h__law_one_of := ok__law_one_of (P := P) (w := w) (base := base) (def_at X G c "_law_one_of" 63 41 41) h__law_draw n_len
  have h__law_about := ok__law_about (P := P) (w := w) (base := base) (def_at X G c "_law_about" 64 42 42) h__law_draw
  have h__law_shuffled := ok__law_shuffled (P := P) (w := w) (base := base) (def_at X G c "_law_shuffled" 65 43 43) n_range n_list n_len h__law_draw
  have h__law_gcd := ok__law_gcd (P := P) (w := w) (base := base) (def_at X G c "_law_gcd" 66 44 44) n_abs n_int
  have h__law_thin := ok__law_thin (P := P) (w := w) (base := base) (def_at X G c "_law_thin" 67 45 45) h__law_gcd n_tuple
  have h__law_upright := ok__law_upright (P := P) (w := w) (base := base) (def_at X G c "_law_upright" 68 46 46) n_tuple
  have h__law_times := ok__law_times (P := P) (w := w) (base := base) (def_at X G c "_law_times" 69 47 47)
  have h__law_plus := ok__law_plus (P := P) (w := w) (base := base) (def_at X G c "_law_plus" 70 48 48)
  have h__law_minus := ok__law_minus (P := P) (w := w) (base := base) (def_at X G c "_law_minus" 71 49 49)
  have h__law_bar := ok__law_bar (P := P) (w := w) (base := base) (def_at X G c "_law_bar" 72 50 50)
  have h__law_norm := ok__law_norm (P := P) (w := w) (base := base) (def_at X G c "_law_norm" 73 51 51)
  have h__law_over := ok__law_over (P := P) (w := w) (base := base) (def_at X G c "_law_over" 74 52 52) h__law_times h__law_norm h__law_bar
  have h__law_common := ok__law_common (P := P) (w := w) (base := base) (def_at X G c "_law_common" 75 53 53) n_range h__law_norm h__law_times h__law_minus h__law_bar
  have h__law_quarter := ok__law_quarter (P := P) (w := w) (base := base) (def_at X G c "_law_quarter" 76 54 54) n_range h__law_times
  have h__law_form := ok__law_form (P := P) (w := w) (base := base) (def_at X G c "_law_form" 77 55 55) n_list h__law_common h__law_over h__law_quarter h__law_times
  have h__law_joined := ok__law_joined (P := P) (w := w) (base := base) (def_at X G c "_law_joined" 78 56 56) h__law_form h__law_plus h__law_bar h__law_times n_int
  have h__law_home := ok__law_home (P := P) (w := w) (base := base) (def_at X G c "_law_home" 79 57 57) h__law_form h__law_minus h__law_bar
  have h__law_still := ok__law_still (P := P) (w := w) (base := base) (def_at X G c "_law_still" 80 58 58)
  have h__law_cell_map := ok__law_cell_map (P := P) (w := w) (base := base) (def_at X G c "_law_cell_map" 81 59 59) h__law_form h__law_times h__law_minus
  have h__law_way := ok__law_way (P := P) (w := w) (base := base) (def_at X G c "_law_way" 82 60 60) h__law_still h__law_joined h__law_cell_map
  have h__law_quotient := ok__law_quotient (P := P) (w := w) (base := base) (def_at X G c "_law_quotient" 83 61 61) h__law_times h__law_thin h__law_bar h__law_norm
  have h__law_spot := ok__law_spot (P := P) (w := w) (base := base) (def_at X G c "_law_spot" 84 62 62) h__law_thin h__law_about h__law_draw
  have h__law_scale := ok__law_scale (P := P) (w := w) (base := base) (def_at X G c "_law_scale" 85 63 63) h__law_draw h__law_spot h__law_thin h__law_quotient h__law_one_of
  have h__law_span := ok__law_span (P := P) (w := w) (base := base) (def_at X G c "_law_span" 86 64 64) h__law_thin h__law_draw
  have h__law_stroke := ok__law_stroke (P := P) (w := w) (base := base) (def_at X G c "_law_stroke" 87 65 65) h__law_upright h__law_about h__law_one_of h__law_thin
  have h__law_power := ok__law_power (P := P) (w := w) (base := base) (def_at X G c "_law_power" 88 66 66) h__law_about h__law_thin h__law_draw
  have h__law_box := ok__law_box (P := P) (w := w) (base := base) (def_at X G c "_law_box" 89 67 67) h__law_spot h__law_power h__law_span h__law_stroke h__law_scale h__law_one_of
  have h__law_boxes := ok__law_boxes (P := P) (w := w) (base := base) (def_at X G c "_law_boxes" 90 68 68) n_range n_tuple h__law_draw h__law_one_of h__law_box
  have h__law_pair := ok__law_pair (P := P) (w := w) (base := base) (def_at X G c "_law_pair" 91 69 69) h__law_about h__law_one_of
  have h__law_some_words := ok__law_some_words (P := P) (w := w) (base := base) (def_at X G c "_law_some_words" 92 70 70) n_list n_tuple h__law_shuffled h__law_draw
  have h__law_is_whole := ok__law_is_whole (P := P) (w := w) (base := base) (def_at X G c "_law_is_whole" 93 71 71) n_isinstance n_int n_bool
  have h__law_right := ok__law_right (P := P) (w := w) (base := base) hk_fewest_cells (def_at X G c "_law_right" 94 72 72) h__law_form h__law_joined h__law_shuffled h__law_boxes h__law_some_words h__law_box h__law_way h__law_pair h__law_draw h__law_home h_fewest_cells n_all n_abs h__law_one_of n_len h__law_still h__law_cell_map n_tuple h__law_is_whole
  exact ok_law F h__law_right h__law_spring n_all n_range
end K79
end
section
set_option Elab.async false
set_option linter.all false
set_option maxRecDepth 100000
set_option maxHeartbeats 0
namespace K79
open PySem PySem.W PySem.Calls PyProof.Rows
open_top head for PySem.Challenge.rw_drawarms_k79_whole_no_arm_beats_the_fewe
end K79
end
section
set_option Elab.async false
set_option linter.all false
set_option maxRecDepth 100000
set_option maxHeartbeats 0
open PySem PySem.W PySem.Calls PyProof.Rows
theorem PySem.Challenge.cw_drawarms_k79_whole_no_arm_beats_the_fewe_holds : PySem.Challenge.rw_drawarms_k79_whole_no_arm_beats_the_fewe.Holds :=
  K79.head (by
  refine L2.walk_of (l := PySem.Challenge.rw_drawarms_k79_whole_no_arm_beats_the_fewe) (n := 63) (k := 11) (x := "_law_script") (CX := fun _ => L2.CX0) (sp := fun w => K79.spLaw _) rfl (by decide) rfl ⟨rfl, by decide, by decide⟩ (fun w h Y => PySem.W.kIn_of Y) ?F (fun _ _ a ns hl _ hS => ⟨a, rfl, ⟨ns, hl, hS⟩, fun _ => rfl⟩) (fun _ _ _ _ _ h => h)
  case F =>
    intro w mg fa h KX G hmg
    refine K79.facts KX G hmg ?c
    show K79.obsX _ = K79.valX
    kernel_rfl)
end

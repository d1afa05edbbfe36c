import PyProof.Rows.All
import Wide.All
import OpenK.AllK
import Wide.FinOn
import KE.KStateDown
import HandS.Base
import HandS.Call
import HandS.List
import HandS.Comp
import HandS.Ends
import HandS.Dict
import HandS.Iter
import HandS.Text
import HandS.More
import HandS.Words
import HandS.WordsList
import HandS.Walk
import HandS.Wide
import HandS.Gcd
import HandS.Zip
import HandS.Style
import HandS.Defaults
import HandS.TupAny
import HandS.HeadHook1
import HandS.HeadHook2
import PySem.Challenge.RW_lampsaloft_k44_whole_every_crossless_fli
import KE.GoesEnum
import HandS.RaiseMore
import KE.KDictZip
import HandS.Conv
import HandS.Head0
import HandS.Head1
import HandS.Head2
import HandS.Head3
import HandS.HeadEnd
import HandS.HeadHook3
import HandS.HeadHook4
set_option Elab.async false
set_option linter.all false
set_option maxRecDepth 100000
section
namespace Fq
theorem divInt_num_le (n d : Int) : (Rat.divInt n d).num.natAbs ≤ n.natAbs := by
  rw [Rat.num_divInt]
  have h : (d.sign * n).natAbs ≤ n.natAbs := by
    rw [Int.natAbs_mul]
    have : d.sign.natAbs ≤ 1 := by rw [Int.natAbs_sign]; split <;> omega
    calc _ ≤ 1 * n.natAbs := Nat.mul_le_mul_right _ this
      _ = _ := by omega
  refine Nat.le_trans ?_ h
  rcases Nat.eq_zero_or_pos (d.gcd n) with e | e
  · rw [e]; simp
  · rw [Int.natAbs_ediv_of_dvd]
    · exact Nat.div_le_self _ _
    · exact Int.dvd_mul_of_dvd_right (Int.gcd_dvd_right ..)
theorem divInt_den_le (n : Int) {d : Int} (h : d ≠ 0) : (Rat.divInt n d).den ≤ d.natAbs := by
  rw [Rat.den_divInt, if_neg h]
  exact Nat.div_le_self _ _
def sgn (d : Int) (g : Nat) : Int := if 0 < d then (g : Int) else -(g : Int)
theorem parts (n : Int) {d : Int} (h : d ≠ 0) : n.fdiv (sgn d (Nat.gcd n.natAbs d.natAbs)) = (Rat.divInt n d).num ∧ d.fdiv (sgn d (Nat.gcd n.natAbs d.natAbs)) = ((Rat.divInt n d).den : Int) := by
  have eg : Int.gcd d n = Nat.gcd n.natAbs d.natAbs := Nat.gcd_comm _ _
  rw [Rat.num_divInt, Rat.den_divInt, if_neg h, eg]
  have gp : 0 < Nat.gcd n.natAbs d.natAbs := Nat.gcd_pos_of_pos_right _ (by omega)
  obtain ⟨g, hg⟩ : ∃ g, g = Nat.gcd n.natAbs d.natAbs := ⟨_, rfl⟩
  have d1 : (g : Int) ∣ n := by rw [hg]; exact Int.ofNat_dvd_left.mpr (Nat.gcd_dvd_left _ _)
  have d2 : (g : Int) ∣ d := by rw [hg]; exact Int.ofNat_dvd_left.mpr (Nat.gcd_dvd_right _ _)
  rw [← hg] at gp ⊢
  have gi : (0 : Int) < (g : Int) := by omega
  unfold sgn
  by_cases hd : 0 < d
  · rw [if_pos hd, Int.sign_eq_one_of_pos hd, Int.one_mul, Int.fdiv_eq_ediv_of_nonneg _ (by omega), Int.fdiv_eq_ediv_of_nonneg _ (by omega)]
    refine ⟨rfl, ?_⟩
    rw [Int.natCast_ediv, Int.natAbs_of_nonneg (by omega)]
  · have hd' : d < 0 := by omega
    rw [if_neg hd, Int.sign_eq_neg_one_of_neg hd']
    obtain ⟨a, rfl⟩ := d1
    obtain ⟨b, rfl⟩ := d2
    constructor
    · rw [show (g : Int) * a = (-(g : Int)) * (-a) by grind, Int.mul_fdiv_cancel_left _ (by omega)]
      rw [show -1 * (-(g : Int) * -a) = (g : Int) * (-a) by grind, Int.mul_ediv_cancel_left _ (by omega)]
    · rw [Int.natCast_ediv]
      have e2 : (((g : Int) * b).natAbs : Int) = (g : Int) * (-b) := by
        have : (g : Int) * -b = -((g : Int) * b) := by grind
        omega
      rw [e2, Int.mul_ediv_cancel_left _ (by omega), show (g : Int) * b = (-(g : Int)) * (-b) by grind, Int.mul_fdiv_cancel_left _ (by omega)]
theorem divInt_self' (x : Rat) : Rat.divInt x.num x.den = x := Rat.num_divInt_den x
theorem den_ne (x : Rat) : (x.den : Int) ≠ 0 := by have := x.den_pos; omega
theorem add_eq (x y : Rat) : Rat.divInt (x.num * y.den + y.num * x.den) (x.den * y.den) = x + y := by
  rw [← Rat.divInt_add_divInt _ _ (den_ne x) (den_ne y), divInt_self', divInt_self']
theorem mul_eq (x y : Rat) : Rat.divInt (x.num * y.num) (x.den * y.den) = x * y := by
  rw [← Rat.divInt_mul_divInt, divInt_self', divInt_self']
theorem sub_eq (x y : Rat) : Rat.divInt (x.num * y.den - y.num * x.den) (x.den * y.den) = x - y := by
  rw [Rat.sub_eq_add_neg, ← add_eq x (-y), Rat.neg_num, Rat.neg_den]
  congr 1
  grind
theorem cast_den (x : Rat) : ((x.den : Int) : Rat) ≠ 0 := by
  intro h
  exact den_ne x (by exact_mod_cast h)
theorem eq_div (x : Rat) : x = (x.num : Rat) / ((x.den : Int) : Rat) := by
  rw [← Rat.divInt_eq_div, divInt_self']
theorem div_eq (x : Rat) {y : Rat} (h : y ≠ 0) : Rat.divInt (x.num * y.den) (x.den * y.num) = x / y := by
  have hy : y.num ≠ 0 := fun e => h (Rat.num_eq_zero.mp e)
  have h1 : (y.num : Rat) ≠ 0 := fun e => hy (by exact_mod_cast e)
  have h2 := cast_den x
  have h3 := cast_den y
  rw [Rat.divInt_eq_div]
  conv => rhs; rw [eq_div x, eq_div y]
  rw [Rat.intCast_mul, Rat.intCast_mul]
  grind
structure Sz (a b : Nat) (q : Rat) : Prop where
  n : q.num.natAbs ≤ 2 ^ a
  d : q.den ≤ 2 ^ b
theorem sz_divInt {a b : Nat} {n d : Int} (h : d ≠ 0) (hn : n.natAbs ≤ 2 ^ a) (hd : d.natAbs ≤ 2 ^ b) : Sz a b (Rat.divInt n d) := ⟨Nat.le_trans (divInt_num_le ..) hn, Nat.le_trans (divInt_den_le _ h) hd⟩
theorem Sz.mono {a b a' b' : Nat} {q : Rat} (h : Sz a b q) (h1 : a ≤ a') (h2 : b ≤ b') : Sz a' b' q := ⟨Nat.le_trans h.n (Nat.pow_le_pow_right (by omega) h1), Nat.le_trans h.d (Nat.pow_le_pow_right (by omega) h2)⟩
theorem pow_mul_le {x y a b : Nat} (h1 : x ≤ 2 ^ a) (h2 : y ≤ 2 ^ b) : x * y ≤ 2 ^ (a + b) := by
  rw [Nat.pow_add]; exact Nat.mul_le_mul h1 h2
theorem pow_add_le {x y a b : Nat} (h1 : x ≤ 2 ^ a) (h2 : y ≤ 2 ^ b) : x + y ≤ 2 ^ (max a b + 1) := by
  have h3 : 2 ^ a ≤ 2 ^ (max a b) := Nat.pow_le_pow_right (by omega) (by omega)
  have h4 : 2 ^ b ≤ 2 ^ (max a b) := Nat.pow_le_pow_right (by omega) (by omega)
  rw [Nat.pow_succ]; omega
theorem Sz.add {a b c e : Nat} {x y : Rat} (hx : Sz a b x) (hy : Sz c e y) : Sz (max (a + e) (c + b) + 1) (b + e) (x + y) := by
  rw [← add_eq]
  refine sz_divInt (Int.mul_ne_zero (den_ne x) (den_ne y)) ?_ ?_
  · refine Nat.le_trans (Int.natAbs_add_le ..) (pow_add_le ?_ ?_)
    · rw [Int.natAbs_mul]; exact pow_mul_le hx.n (by simpa using hy.d)
    · rw [Int.natAbs_mul]; exact pow_mul_le hy.n (by simpa using hx.d)
  · rw [Int.natAbs_mul]; exact pow_mul_le (by simpa using hx.d) (by simpa using hy.d)
theorem Sz.neg {a b : Nat} {x : Rat} (hx : Sz a b x) : Sz a b (-x) := ⟨by rw [Rat.neg_num, Int.natAbs_neg]; exact hx.n, by rw [Rat.neg_den]; exact hx.d⟩
theorem Sz.sub {a b c e : Nat} {x y : Rat} (hx : Sz a b x) (hy : Sz c e y) : Sz (max (a + e) (c + b) + 1) (b + e) (x - y) := by
  rw [Rat.sub_eq_add_neg]
  exact hx.add hy.neg
theorem Sz.mul {a b c e : Nat} {x y : Rat} (hx : Sz a b x) (hy : Sz c e y) : Sz (a + c) (b + e) (x * y) := by
  rw [← mul_eq]
  refine sz_divInt (Int.mul_ne_zero (den_ne x) (den_ne y)) ?_ ?_
  · rw [Int.natAbs_mul]; exact pow_mul_le hx.n hy.n
  · rw [Int.natAbs_mul]; exact pow_mul_le (by simpa using hx.d) (by simpa using hy.d)
theorem Sz.div {a b c e : Nat} {x y : Rat} (hx : Sz a b x) (hy : Sz c e y) (h : y ≠ 0) : Sz (a + e) (b + c) (x / y) := by
  rw [← div_eq x h]
  refine sz_divInt (Int.mul_ne_zero (den_ne x) (fun e => h (Rat.num_eq_zero.mp e))) ?_ ?_
  · rw [Int.natAbs_mul]; exact pow_mul_le hx.n (by simpa using hy.d)
  · rw [Int.natAbs_mul]; exact pow_mul_le (by simpa using hx.d) hy.n
theorem Sz.int {a : Nat} {n : Int} (h : n.natAbs ≤ 2 ^ a) : Sz a 0 (n : Rat) := ⟨by rw [Rat.num_intCast]; exact h, by rw [Rat.den_intCast] <;> decide⟩
theorem compared (x y : Rat) : (x.num * y.den < y.num * x.den ↔ x < y) := (Rat.lt_iff x y).symm
end Fq
end
section
namespace Enough
def ratio (n d : Int) : Rat := Rat.divInt n d
def enP (S W R n d : Int) : Prop := 0 ≤ S * S * d * d - 2 * R * R * d * d - n * n * (2 * W * W - S * S) ∧
  8 * R * R * d * d * (n * n * (2 * W * W - S * S)) ≤ (S * S * d * d - 2 * R * R * d * d - n * n * (2 * W * W - S * S)) * (S * S * d * d - 2 * R * R * d * d - n * n * (2 * W * W - S * S))
def enL (S W R L T : Int) : Prop := ¬ (S * S < 2 * R * R) ∧ 0 ≤ (S * S + 2 * R * R) * T * T - L * L * (2 * W * W - S * S) ∧
  8 * S * S * R * R * T * T * T * T ≤ ((S * S + 2 * R * R) * T * T - L * L * (2 * W * W - S * S)) * ((S * S + 2 * R * R) * T * T - L * L * (2 * W * W - S * S))
theorem sqI_nn (a : Int) : 0 ≤ a * a := by
  rcases Int.le_total 0 a with h | h
  · exact Int.mul_nonneg h h
  · have : 0 ≤ (-a) * (-a) := Int.mul_nonneg (by omega) (by omega)
    grind
theorem sqI_mono {a b : Int} (ha : 0 ≤ a) (hab : a ≤ b) : a * a ≤ b * b := Int.mul_le_mul hab hab ha (by omega)
theorem leI_of_sq {a b : Int} (hb : 0 ≤ b) (h : a * a ≤ b * b) : a ≤ b := by
  rcases Int.lt_or_le b a with q | q
  · exfalso
    have : b * b < a * a := Int.mul_lt_mul' (Int.le_of_lt q) q hb (by omega)
    omega
  · exact q
theorem two_forms {A B C : Int} (hB : 0 ≤ B) (hC : 0 ≤ C) : (0 ≤ A - C - B ∧ 4 * (C * B) ≤ (A - C - B) * (A - C - B)) ↔ (C ≤ A ∧ 0 ≤ A + C - B ∧ 4 * (A * C) ≤ (A + C - B) * (A + C - B)) := by
  constructor
  · rintro ⟨h1, h2⟩
    exact ⟨by omega, by omega, by grind⟩
  · rintro ⟨h1, h2, h3⟩
    have h4 : (2 * C) * (2 * C) ≤ (A + C - B) * (A + C - B) := by
      have := Int.mul_nonneg hC (show 0 ≤ A - C by omega)
      grind
    have h5 := leI_of_sq h2 h4
    exact ⟨by omega, by grind⟩
theorem mul_le_iff {a b k : Int} (hk : 0 < k) : k * a ≤ k * b ↔ a ≤ b := ⟨fun h => Int.le_of_mul_le_mul_left h hk, fun h => Int.mul_le_mul_of_nonneg_left h (Int.le_of_lt hk)⟩
theorem enough_iff {S W R n d L T : Int} (hS : 0 ≤ S) (hW : S ≤ W) (hd : 0 < d) (hT : 0 < T) (e : n * T = L * d) : enP S W R n d ↔ enL S W R L T := by
  have hw : 0 ≤ 2 * W * W - S * S := by
    have := sqI_mono hS hW
    have := sqI_nn W
    grind
  have dd : 0 < d * d := Int.mul_pos hd hd
  have tt : 0 < T * T := Int.mul_pos hT hT
  have P1 : enP S W R n d ↔ (0 ≤ (S * S) * (d * d) * (T * T) - 2 * (R * R) * (d * d) * (T * T) - (n * T) * (n * T) * (2 * W * W - S * S) ∧
      4 * ((2 * (R * R) * (d * d) * (T * T)) * ((n * T) * (n * T) * (2 * W * W - S * S))) ≤ ((S * S) * (d * d) * (T * T) - 2 * (R * R) * (d * d) * (T * T) - (n * T) * (n * T) * (2 * W * W - S * S)) * ((S * S) * (d * d) * (T * T) - 2 * (R * R) * (d * d) * (T * T) - (n * T) * (n * T) * (2 * W * W - S * S))) := by
    unfold enP
    generalize 2 * W * W - S * S = w at *
    refine and_congr ?_ ?_
    · rw [← mul_le_iff tt]
      have e1 : T * T * 0 = 0 := by grind
      have e2 : T * T * (S * S * d * d - 2 * R * R * d * d - n * n * w) = S * S * (d * d) * (T * T) - 2 * (R * R) * (d * d) * (T * T) - n * T * (n * T) * w := by grind
      rw [e1, e2]
    · rw [← mul_le_iff (Int.mul_pos tt tt)]
      have e1 : T * T * (T * T) * (8 * R * R * d * d * (n * n * w)) = 4 * (2 * (R * R) * (d * d) * (T * T) * (n * T * (n * T) * w)) := by grind
      have e2 : T * T * (T * T) * ((S * S * d * d - 2 * R * R * d * d - n * n * w) * (S * S * d * d - 2 * R * R * d * d - n * n * w)) = (S * S * (d * d) * (T * T) - 2 * (R * R) * (d * d) * (T * T) - n * T * (n * T) * w) * (S * S * (d * d) * (T * T) - 2 * (R * R) * (d * d) * (T * T) - n * T * (n * T) * w) := by grind
      rw [e1, e2]
  have P2 : enL S W R L T ↔ (2 * (R * R) * (d * d) * (T * T) ≤ (S * S) * (d * d) * (T * T) ∧ 0 ≤ (S * S) * (d * d) * (T * T) + 2 * (R * R) * (d * d) * (T * T) - (L * d) * (L * d) * (2 * W * W - S * S) ∧
      4 * (((S * S) * (d * d) * (T * T)) * (2 * (R * R) * (d * d) * (T * T))) ≤ ((S * S) * (d * d) * (T * T) + 2 * (R * R) * (d * d) * (T * T) - (L * d) * (L * d) * (2 * W * W - S * S)) * ((S * S) * (d * d) * (T * T) + 2 * (R * R) * (d * d) * (T * T) - (L * d) * (L * d) * (2 * W * W - S * S))) := by
    unfold enL
    generalize 2 * W * W - S * S = w at *
    refine and_congr ?_ (and_congr ?_ ?_)
    · rw [Int.not_lt, ← mul_le_iff (Int.mul_pos dd tt)]
      have e1 : d * d * (T * T) * (2 * R * R) = 2 * (R * R) * (d * d) * (T * T) := by grind
      have e2 : d * d * (T * T) * (S * S) = S * S * (d * d) * (T * T) := by grind
      rw [e1, e2]
    · rw [← mul_le_iff dd]
      have e1 : d * d * 0 = 0 := by grind
      have e2 : d * d * ((S * S + 2 * R * R) * T * T - L * L * w) = S * S * (d * d) * (T * T) + 2 * (R * R) * (d * d) * (T * T) - L * d * (L * d) * w := by grind
      rw [e1, e2]
    · rw [← mul_le_iff (Int.mul_pos dd dd)]
      have e1 : d * d * (d * d) * (8 * S * S * R * R * T * T * T * T) = 4 * (S * S * (d * d) * (T * T) * (2 * (R * R) * (d * d) * (T * T))) := by grind
      have e2 : d * d * (d * d) * (((S * S + 2 * R * R) * T * T - L * L * w) * ((S * S + 2 * R * R) * T * T - L * L * w)) = (S * S * (d * d) * (T * T) + 2 * (R * R) * (d * d) * (T * T) - L * d * (L * d) * w) * (S * S * (d * d) * (T * T) + 2 * (R * R) * (d * d) * (T * T) - L * d * (L * d) * w) := by grind
      rw [e1, e2]
  rw [P1, P2, e]
  exact two_forms (Int.mul_nonneg (sqI_nn _) hw) (by have := Int.mul_nonneg (Int.mul_nonneg (sqI_nn R) (Int.le_of_lt dd)) (Int.le_of_lt tt); grind)
end Enough
end
section
namespace Geo
def Tr (A B C : Rat) : Prop := 0 ≤ A - B - C ∧ 4 * B * C ≤ (A - B - C) * (A - B - C)
theorem sq_nn (a : Rat) : 0 ≤ a * a := by
  rcases Rat.le_total (a := 0) (b := a) with h | h
  · exact Rat.mul_nonneg h h
  · have : 0 ≤ (-a) * (-a) := Rat.mul_nonneg (by grind) (by grind)
    grind
theorem mul_mono {a b c d : Rat} (ha : 0 ≤ a) (hc : 0 ≤ c) (hab : a ≤ b) (hcd : c ≤ d) : a * c ≤ b * d := by
  have h1 : 0 ≤ (b - a) * c := Rat.mul_nonneg (by grind) hc
  have h2 : 0 ≤ b * (d - c) := Rat.mul_nonneg (by grind) (by grind)
  grind
theorem sq_mono {a b : Rat} (ha : 0 ≤ a) (hab : a ≤ b) : a * a ≤ b * b := mul_mono ha ha hab hab
theorem le_of_sq {a b : Rat} (hb : 0 ≤ b) (h : a * a ≤ b * b) : a ≤ b := by
  rcases Rat.le_total (a := a) (b := b) with q | q
  · exact q
  · have h1 := sq_mono hb q
    have h2 : 0 ≤ (a - b) * (a - b) := sq_nn _
    have h3 : (a - b) * (a - b) ≤ (a-b) * (a + b) := mul_mono (by grind) (by grind) (by grind) (by grind)
    have h4 : (a - b) * (a - b) = 0 := by grind
    by_cases e : a - b = 0
    · grind
    · have := Rat.mul_eq_zero.mp h4
      grind
theorem Tr.monoA {A A' B C : Rat} (h : Tr A B C) (hA : A ≤ A') : Tr A' B C := by
  obtain ⟨h1, h2⟩ := h
  have := sq_mono h1 (show A - B - C ≤ A' - B - C by grind)
  exact ⟨by grind, by grind⟩
theorem Tr.monoB {A B B' C : Rat} (h : Tr A B C) (hB : B' ≤ B) (h0 : 0 ≤ C) : Tr A B' C := by
  obtain ⟨h1, h2⟩ := h
  have := sq_mono h1 (show A - B - C ≤ A - B' - C by grind)
  have h3 : 0 ≤ (B - B') * C := Rat.mul_nonneg (by grind) h0
  exact ⟨by grind, by grind⟩
theorem Tr.long {A B C z : Rat} (h : Tr A B C) (hC : 0 ≤ C) (hB : 0 ≤ B) (hz : z * z ≤ A * B) : C ≤ A + B + 2 * z := by
  obtain ⟨h1, h2⟩ := h
  have h3 : 4 * A * B ≤ (A + B - C) * (A + B - C) := by grind
  have h4 : -(2*z) ≤ A + B - C := le_of_sq (by grind) (by grind)
  grind
theorem Tr.shift {A B C r y : Rat} (h : Tr A B C) (hy : 0 ≤ y) (hr0 : 0 ≤ r) (hr1 : r ≤ 1) (hA : 0 ≤ A) (hC : 0 ≤ C) (hB : r * r * A ≤ B) : Tr (A + y) (B + r * r * y) C := by
  have hrr : r * r ≤ 1 := by have := sq_mono hr0 hr1; grind
  have hrr' : r * r ≤ r := by have := Rat.mul_nonneg hr0 (show 0 ≤ 1 - r by grind); grind
  have rA : 0 ≤ r * r * A := Rat.mul_nonneg (sq_nn r) hA
  have h' : Tr A (r * r * A) C := h.monoB hB hC
  obtain ⟨g1, g2⟩ := h'
  have g3 : 4 * (r * r * A) * A ≤ (A + r * r * A - C) * (A + r * r * A - C) := by grind
  have g4 : 2 * (r * A) ≤ A + r * r * A - C := le_of_sq (by grind) (by grind)
  have g5 : C ≤ A * ((1 - r) * (1 - r)) := by grind
  obtain ⟨h1, h2⟩ := h
  have f0 : 0 ≤ A + C - B := by grind
  have f1 : 4 * A * C ≤ (A + C - B) * (A + C - B) := by grind
  have f2 : (1 - r) * (1 - r) ≤ (1 - r * r) * (1 - r * r) := sq_mono (by grind) (by grind)
  have f3 : 4 * C * C ≤ 4 * C * (A * ((1 - r) * (1 - r))) := by
    have := Rat.mul_nonneg hC (show 0 ≤ A * ((1 - r) * (1 - r)) - C by grind)
    grind
  have f4 : (A * C) * ((1 - r) * (1 - r)) ≤ (A * C) * ((1 - r * r) * (1 - r * r)) := mul_mono (Rat.mul_nonneg hA hC) (sq_nn _) (by grind) f2
  have f5 : (4 * A * C) * ((1 - r * r) * (1 - r * r)) ≤ ((A + C - B) * (A + C - B)) * ((1 - r * r) * (1 - r * r)) := mul_mono (by have := Rat.mul_nonneg hA hC; grind) (sq_nn _) f1 (by grind)
  have f6 : 2 * C ≤ (A + C - B) * (1 - r * r) := le_of_sq (Rat.mul_nonneg f0 (by grind)) (by grind)
  have yr : 0 ≤ y * (1 - r * r) := Rat.mul_nonneg hy (by grind)
  have e1 : 4 * (A + y) * C ≤ (A + y + C - (B + r * r * y)) * (A + y + C - (B + r * r * y)) := by
    have k1 : 0 ≤ y * ((A + C - B) * (1 - r * r) - 2 * C) := Rat.mul_nonneg hy (by grind)
    have k2 : 0 ≤ (y * (1 - r * r)) * (y * (1 - r * r)) := sq_nn _
    grind
  exact ⟨by grind, by grind⟩
theorem cauchy (a b c d : Rat) : (a * c + b * d) * (a * c + b * d) ≤ (a * a + b * b) * (c * c + d * d) := by
  have := sq_nn (a * d - b * c)
  grind
theorem core {S W R r U V D x N P h k z : Rat} (hS : 0 ≤ S) (hW : S ≤ W) (hr0 : 0 ≤ r) (hr1 : r ≤ 1) (hU : S * S ≤ U) (hV : S * S ≤ V) (hD : 0 ≤ D)
    (hP : P = (1 - h) * (1 - h) * U + 2 * ((h * (1 - h)) * D) + h * h * V) (hx : 4 * x = U + V - 2 * D) (x0 : 0 ≤ x) (hN : N ≤ W * W - x) (N0 : 0 ≤ N) (h0 : 0 ≤ h) (h1 : h ≤ 1) (kk : k * k ≤ r * r) (hz : z * z ≤ P * N)
    (hT : Tr (S * S / 2) (r * r * (W * W - S * S / 2)) (R * R)) : R * R ≤ P + k * k * N + 2 * (k * z) := by
  have SS := sq_nn S
  have RR := sq_nn R
  have rr := sq_nn r
  have b1 : S * S / 2 ≤ P := by
    have hh : 0 ≤ h * (1 - h) := Rat.mul_nonneg h0 (by grind)
    have a1 : 0 ≤ (1 - h) * (1 - h) * (U - S * S) := Rat.mul_nonneg (sq_nn _) (by grind)
    have a2 : 0 ≤ h * h * (V - S * S) := Rat.mul_nonneg (sq_nn _) (by grind)
    have a3 : 0 ≤ (h * (1 - h)) * D := Rat.mul_nonneg hh hD
    have a4 : 0 ≤ ((1 - 2 * h) * (1 - 2 * h)) * (S * S) := Rat.mul_nonneg (sq_nn _) SS
    clear hT hz kk hN N0 hx x0 hr0 hr1 hS hW
    grind
  have b2 : S * S - x ≤ P := by
    have a1 : 0 ≤ (1 - h) * (U - S * S) := Rat.mul_nonneg (by grind) (by grind)
    have a2 : 0 ≤ h * (V - S * S) := Rat.mul_nonneg (by grind) (by grind)
    have a3 : 0 ≤ ((1 - 2 * h) * (1 - 2 * h)) * x := Rat.mul_nonneg (sq_nn _) x0
    have e : D = (U + V - 4 * x) / 2 := by
      clear a1 a2 a3 hP hD
      clear hT hz kk hN N0 hr0 hr1 hS hW b1
      grind
    have e2 : P = (1 - h) * (U - S * S) + h * (V - S * S) + S * S - x + ((1 - 2 * h) * (1 - 2 * h)) * x := by
      rw [hP, e]
      clear a1 a2 a3 hP hD e
      clear hT hz kk hN N0 hr0 hr1 hS hW b1 hx
      grind
    clear hT hz kk hN N0 hr0 hr1 hS hW b1 hP hx e
    grind
  have bM : k * k * N ≤ r * r * (W * W - x) := mul_mono (sq_nn _) N0 kk hN
  have WS : S * S ≤ W * W := sq_mono hS hW
  have key : Tr P (k * k * N) (R * R) := by
    rcases Rat.le_total (a := S * S / 2) (b := x) with q | q
    · have c1 : 0 ≤ r * r * (x - S * S / 2) := Rat.mul_nonneg rr (by grind)
      refine (hT.monoA b1).monoB ?_ RR
      clear hT hz kk hN N0 hr0 hr1 hS hW b1 hP hx
      grind
    · have c0 : r * r * (S * S / 2) ≤ r * r * (W * W - S * S / 2) := by
        have := Rat.mul_nonneg rr (show 0 ≤ W * W - S * S by grind)
        clear hT hz kk hN N0 hr0 hr1 hS hW b1 hP hx
        grind
      have c1 := hT.shift (y := S * S / 2 - x) (r := r) (by grind) hr0 hr1 (by grind) RR c0
      refine (c1.monoA (A' := P) ?_).monoB ?_ RR
      · clear c1 hT hz kk hN N0 hr0 hr1 hS hW b1 hP hx
        grind
      · clear c1 hT hz kk hN N0 hr0 hr1 hS hW b1 hP hx
        grind
  have fin := key.long (z := k * z) RR (Rat.mul_nonneg (sq_nn k) N0) (by
    have := Rat.mul_nonneg (sq_nn k) (show 0 ≤ P * N - z * z by grind)
    clear key hT hz kk hN N0 hr0 hr1 hS hW b1 hP hx
    grind)
  exact fin
theorem id1 (ux uy wx wy h : Rat) : (ux + h * wx) * (ux + h * wx) + (uy + h * wy) * (uy + h * wy) =
    (1 - h) * (1 - h) * (ux * ux + uy * uy) + 2 * ((h * (1 - h)) * (ux * (ux + wx) + uy * (uy + wy))) + h * h * ((ux + wx) * (ux + wx) + (uy + wy) * (uy + wy)) := by grind
theorem id2 (ux uy wx wy : Rat) : 4 * ((wx * wx + wy * wy) / 4) = (ux * ux + uy * uy) + ((ux + wx) * (ux + wx) + (uy + wy) * (uy + wy)) - 2 * (ux * (ux + wx) + uy * (uy + wy)) := by grind
theorem id3 (mx my nx ny W : Rat) (hm : mx * mx + my * my ≤ W * W) (hn : nx * nx + ny * ny ≤ W * W) :
    (nx + mx) / 2 * ((nx + mx) / 2) + (ny + my) / 2 * ((ny + my) / 2) ≤ W * W - ((nx - mx) * (nx - mx) + (ny - my) * (ny - my)) / 4 := by grind
theorem id4 (px py Mx My k : Rat) : (px * px + py * py) + k * k * (Mx * Mx + My * My) + 2 * (k * (px * Mx + py * My)) = (px + k * Mx) * (px + k * Mx) + (py + k * My) * (py + k * My) := by grind
theorem id5 (u m n s t : Rat) : u + t * n - s * m = (u + (s + t) / 2 * (n - m)) + (t - s) * ((n + m) / 2) := by grind
theorem apart {ux uy mx my nx ny S W R r s t : Rat}
    (hS : 0 ≤ S) (hW : S ≤ W) (hr0 : 0 ≤ r) (hr1 : r ≤ 1)
    (hu : S * S ≤ ux * ux + uy * uy) (hv : S * S ≤ (ux + (nx - mx)) * (ux + (nx - mx)) + (uy + (ny - my)) * (uy + (ny - my)))
    (huv : 0 ≤ ux * (ux + (nx - mx)) + uy * (uy + (ny - my)))
    (hm : mx * mx + my * my ≤ W * W) (hn : nx * nx + ny * ny ≤ W * W)
    (hT : Tr (S * S / 2) (r * r * (W * W - S * S / 2)) (R * R))
    (hs0 : 0 ≤ s) (hs1 : s ≤ 1) (ht0 : 0 ≤ t) (ht1 : t ≤ 1) (hst : s - t ≤ r) (hts : t - s ≤ r) :
    R * R ≤ (ux + t * nx - s * mx) * (ux + t * nx - s * mx) + (uy + t * ny - s * my) * (uy + t * ny - s * my) := by
  rw [id5 ux mx nx s t, id5 uy my ny s t, ← id4]
  have x0 : 0 ≤ ((nx - mx) * (nx - mx) + (ny - my) * (ny - my)) / 4 := by
    have := sq_nn (nx - mx); have := sq_nn (ny - my)
    clear hT hm hn huv hu hv
    grind
  have N0 : 0 ≤ (nx + mx) / 2 * ((nx + mx) / 2) + (ny + my) / 2 * ((ny + my) / 2) := by
    have := sq_nn ((nx + mx) / 2); have := sq_nn ((ny + my) / 2)
    clear hT hm hn huv hu hv
    grind
  have kk : (t - s) * (t - s) ≤ r * r := by
    rcases Rat.le_total (a := 0) (b := t - s) with q | q
    · exact sq_mono q hts
    · have := sq_mono (show 0 ≤ s - t by grind) hst
      clear hT hm hn huv hu hv
      grind
  exact core (h := (s + t) / 2) hS hW hr0 hr1 hu hv huv (id1 ..) (id2 ux uy (nx - mx) (ny - my)) x0 (id3 _ _ _ _ _ hm hn) N0 (by clear hT hm hn huv hu hv; grind) (by clear hT hm hn huv hu hv; grind) kk (cauchy ..) hT
end Geo
end
section
set_option linter.all false
namespace Mi
abbrev Col := Int × Int
abbrev Leg := Col × Col
abbrev P2 := Rat × Rat
def pl (a b : Int) (s : Rat) : Rat := (a : Rat) + s * ((b - a : Int) : Rat)
def gap (l o : Leg) (s t : Rat) : P2 := (pl o.1.1 o.2.1 t - pl l.1.1 l.2.1 s, pl o.1.2 o.2.2 t - pl l.1.2 l.2.2 s)
def dotQ (u v : P2) : Rat := u.1 * v.1 + u.2 * v.2
def sqAt (l o : Leg) (p : P2) : Rat := dotQ (gap l o p.1 p.2) (gap l o p.1 p.2)
def cmpQ (x y : Rat) : Int := (if y < x then 1 else 0) - (if x < y then 1 else 0)
def byP : List Rat → List Rat → Int
  | x :: xs, y :: ys => if cmpQ x y ≠ 0 then cmpQ x y else byP xs ys
  | _, _ => 0
def ring (rho : Rat) : List P2 := [(0, 0), (0, rho), (1 - rho, 1), (1, 1), (1, 1 - rho), (rho, 0)]
def onSeg (one far : P2) (x : Rat) : P2 := (one.1 + x * (far.1 - one.1), one.2 + x * (far.2 - one.2))
def along (l o : Leg) (one far : P2) : P2 := ((gap l o far.1 far.2).1 - (gap l o one.1 one.2).1, (gap l o far.1 far.2).2 - (gap l o one.1 one.2).2)
def share (l o : Leg) (one far : P2) : Rat := (((-1 : Int) : Rat) * dotQ (gap l o one.1 one.2) (along l o one far)) / dotQ (along l o one far) (along l o one far)
def sideQ (l o : Leg) (one far : P2) : P2 :=
  if along l o one far = (0, 0) then one else if (share l o one far).num ≤ 0 then one else if ((share l o one far).den : Int) ≤ (share l o one far).num then far else onSeg one far (share l o one far)
def wholeI (l o : Leg) : Int := (l.2.1 - l.1.1) * (o.2.2 - o.1.2) - (l.2.2 - l.1.2) * (o.2.1 - o.1.1)
def crS (l o : Leg) : Int := (o.1.1 - l.1.1) * (o.2.2 - o.1.2) - (o.1.2 - l.1.2) * (o.2.1 - o.1.1)
def crT (l o : Leg) : Int := (o.1.1 - l.1.1) * (l.2.2 - l.1.2) - (o.1.2 - l.1.2) * (l.2.1 - l.1.1)
def met (l o : Leg) : P2 := ((crS l o : Rat) / (wholeI l o : Rat), (crT l o : Rat) / (wholeI l o : Rat))
def absQ (x : Rat) : Rat := if x < 0 then -x else x
def Reg (rho : Rat) (p : P2) : Prop := 0 ≤ p.1 ∧ p.1 ≤ 1 ∧ 0 ≤ p.2 ∧ p.2 ≤ 1 ∧ p.1 - p.2 ≤ rho ∧ p.2 - p.1 ≤ rho
def isIn (rho : Rat) (p : P2) : Bool := decide (0 ≤ p.1) && (decide (p.1 ≤ 1) && (decide (0 ≤ p.2) && (decide (p.2 ≤ 1) && decide (absQ (p.1 - p.2) ≤ rho))))
def sides (l o : Leg) (rho : Rat) : List P2 := [sideQ l o (0, 0) (0, rho), sideQ l o (0, rho) (1 - rho, 1), sideQ l o (1 - rho, 1) (1, 1), sideQ l o (1, 1) (1, 1 - rho), sideQ l o (1, 1 - rho) (rho, 0), sideQ l o (rho, 0) (0, 0)]
def meets (l o : Leg) (rho : Rat) : Bool := !decide (wholeI l o = 0) && isIn rho (met l o)
def cands (l o : Leg) (rho : Rat) : List P2 := (ring rho ++ sides l o rho) ++ (if meets l o rho then [met l o] else [])
abbrev Row := Rat × P2
def rowL (r : Row) : List Rat := [r.1, r.2.1, r.2.2]
def rowOf (l o : Leg) (p : P2) : Row := (sqAt l o p, p)
def step (l o : Leg) (acc : Option Row) (p : P2) : Option Row := match acc with
  | none => some (rowOf l o p)
  | some r => if byP (rowL (rowOf l o p)) (rowL r) < 0 then some (rowOf l o p) else some r
def nearF (l o : Leg) (ps : List P2) : Option Row := ps.foldl (step l o) none
def nearQ (l o : Leg) (rho : Rat) : Row := ((nearF l o (cands l o rho)).getD (0, 0, 0))
def cornersL (rho : Rat) : List P2 := [(0, 0), (rho, 0), (1, 1 - rho), (1, 1), (1 - rho, 1), (0, rho)]
def ltP (p q : P2) : Bool := if p.1 = q.1 then decide (p.2 < q.2) else decide (p.1 < q.1)
def partL (l o : Leg) (one two : P2) : Rat := if dotQ (along l o one two) (along l o one two) ≠ 0 then share l o one two else if ltP two one then 1 else 0
def clipQ (x : Rat) : Rat := if x < 0 then 0 else if 1 < x then 1 else x
def edgeL (l o : Leg) (one two : P2) : Row := rowOf l o (onSeg one two (clipQ (partL l o one two)))
def edgesL (l o : Leg) (rho : Rat) : List Row := [edgeL l o (0, 0) (rho, 0), edgeL l o (rho, 0) (1, 1 - rho), edgeL l o (1, 1 - rho) (1, 1), edgeL l o (1, 1) (1 - rho, 1), edgeL l o (1 - rho, 1) (0, rho), edgeL l o (0, rho) (0, 0)]
def outL (rho : Rat) (p : P2) : Bool := decide (p.1 < 0) || (decide (p.2 < 0) || (decide (1 < p.1) || (decide (1 < p.2) || decide (rho < absQ (p.1 - p.2)))))
def innerL (l o : Leg) (rho : Rat) : List Row := if wholeI l o = 0 then [] else if outL rho (met l o) then [] else [(0, met l o)]
def betterL (r b : Row) : Bool := decide (r.1 < b.1) || (decide (r.1 = b.1) && ltP r.2 b.2)
def stepL (acc : Option Row) (r : Row) : Option Row := match acc with
  | none => some r
  | some b => if betterL r b then some r else some b
def rowsL (l o : Leg) (rho : Rat) : List Row := innerL l o rho ++ edgesL l o rho
def nearL (l o : Leg) (rho : Rat) : Row := ((rowsL l o rho).foldl stepL none).getD (0, 0, 0)
theorem gap_seg (l o : Leg) (one far : P2) (x : Rat) : gap l o (onSeg one far x).1 (onSeg one far x).2 = ((gap l o one.1 one.2).1 + x * (along l o one far).1, (gap l o one.1 one.2).2 + x * (along l o one far).2) := by
  unfold gap onSeg along gap pl
  simp only [Prod.mk.injEq]
  constructor <;> grind
def quad (b a : P2) (x : Rat) : Rat := (b.1 + x * a.1) * (b.1 + x * a.1) + (b.2 + x * a.2) * (b.2 + x * a.2)
theorem sq_seg (l o : Leg) (one far : P2) (x : Rat) : sqAt l o (onSeg one far x) = quad (gap l o one.1 one.2) (along l o one far) x := by
  unfold sqAt
  rw [gap_seg] <;> rfl
theorem dot_pos {a : P2} (h : a ≠ (0, 0)) : 0 < dotQ a a := by
  obtain ⟨p, q⟩ := a
  unfold dotQ
  have h1 := Geo.sq_nn p
  have h2 := Geo.sq_nn q
  by_cases e : p * p + q * q = 0
  · exfalso
    have hp : p * p = 0 := by grind
    have hq : q * q = 0 := by grind
    have p0 : p = 0 := by rcases Rat.mul_eq_zero.mp hp with z | z <;> exact z
    have q0 : q = 0 := by rcases Rat.mul_eq_zero.mp hq with z | z <;> exact z
    exact h (by rw [p0, q0])
  · show 0 < p * p + q * q
    grind
theorem quad_at (b a : P2) (x y : Rat) : quad b a y = quad b a x + (y - x) * (2 * (dotQ b a + x * dotQ a a)) + (y - x) * (y - x) * dotQ a a := by
  unfold quad dotQ
  grind
theorem quad_least {b a : P2} {x : Rat} (hpos : 0 ≤ dotQ a a) (h : (0 ≤ x ∧ x ≤ 1) ∧ ((dotQ b a + x * dotQ a a = 0) ∨ (x = 0 ∧ 0 ≤ dotQ b a + x * dotQ a a) ∨ (x = 1 ∧ dotQ b a + x * dotQ a a ≤ 0))) {y : Rat} (h0 : 0 ≤ y) (h1 : y ≤ 1) : quad b a x ≤ quad b a y := by
  rw [quad_at b a x y]
  have s2 : 0 ≤ (y - x) * (y - x) * dotQ a a := Rat.mul_nonneg (Geo.sq_nn _) hpos
  have s1 : 0 ≤ (y - x) * (2 * (dotQ b a + x * dotQ a a)) := by
    generalize dotQ b a + x * dotQ a a = g at *
    rcases h.2 with z | ⟨z, zz⟩ | ⟨z, zz⟩
    · rw [z]; grind
    · subst z
      exact Rat.mul_nonneg (by grind) (by grind)
    · subst z
      have := Rat.mul_nonneg (show 0 ≤ 1 - y by grind) (show 0 ≤ -(2 * g) by grind)
      grind
  grind
def Best (l o : Leg) (one far p : P2) : Prop := (∃ x, 0 ≤ x ∧ x ≤ 1 ∧ p = onSeg one far x) ∧ ∀ y, 0 ≤ y → y ≤ 1 → sqAt l o p ≤ sqAt l o (onSeg one far y)
theorem onSeg0 (one far : P2) : onSeg one far 0 = one := by
  unfold onSeg
  apply Prod.ext <;> simp <;> grind
theorem onSeg1 (one far : P2) : onSeg one far 1 = far := by
  unfold onSeg
  apply Prod.ext <;> simp <;> grind
theorem onSeg_flip (one far : P2) (x : Rat) : onSeg one far x = onSeg far one (1 - x) := by
  unfold onSeg
  simp only [Prod.mk.injEq]
  constructor <;> grind
theorem best_of {l o : Leg} {one far : P2} {x : Rat} (h0 : 0 ≤ x) (h1 : x ≤ 1) (h : (dotQ (gap l o one.1 one.2) (along l o one far) + x * dotQ (along l o one far) (along l o one far) = 0) ∨ (x = 0 ∧ 0 ≤ dotQ (gap l o one.1 one.2) (along l o one far) + x * dotQ (along l o one far) (along l o one far)) ∨ (x = 1 ∧ dotQ (gap l o one.1 one.2) (along l o one far) + x * dotQ (along l o one far) (along l o one far) ≤ 0)) : Best l o one far (onSeg one far x) := by
  refine ⟨⟨x, h0, h1, rfl⟩, fun y y0 y1 => ?_⟩
  rw [sq_seg, sq_seg]
  refine quad_least ?_ ⟨⟨h0, h1⟩, h⟩ y0 y1
  unfold dotQ
  have := Geo.sq_nn (along l o one far).1
  have := Geo.sq_nn (along l o one far).2
  grind
theorem dot0 (u : P2) : dotQ u (0, 0) = 0 := by unfold dotQ; grind
theorem share_mul {l o : Leg} {one far : P2} (h : dotQ (along l o one far) (along l o one far) ≠ 0) : share l o one far * dotQ (along l o one far) (along l o one far) = -dotQ (gap l o one.1 one.2) (along l o one far) := by
  unfold share
  generalize dotQ (along l o one far) (along l o one far) = A at *
  generalize dotQ (gap l o one.1 one.2) (along l o one far) = B at *
  have : ((-1 : Int) : Rat) = -1 := by rfl
  rw [this]
  grind
theorem num_le0 (x : Rat) : x.num ≤ 0 ↔ x ≤ 0 := by
  rw [Rat.le_iff]
  show _ ↔ x.num * ((0 : Rat).den : Int) ≤ (0 : Rat).num * (x.den : Int)
  simp
theorem den_le_num (x : Rat) : (x.den : Int) ≤ x.num ↔ 1 ≤ x := by
  rw [Rat.le_iff]
  show _ ↔ (1 : Rat).num * (x.den : Int) ≤ x.num * ((1 : Rat).den : Int)
  simp
theorem side_best (l o : Leg) (one far : P2) : Best l o one far (sideQ l o one far) := by
  unfold sideQ
  by_cases h0 : along l o one far = (0, 0)
  · rw [if_pos h0]
    have := best_of (l := l) (o := o) (one := one) (far := far) (x := 0) (by grind) (by grind) (.inl (by rw [h0, dot0, dot0]; grind))
    rw [onSeg0] at this
    exact this
  · rw [if_neg h0]
    have ap := dot_pos h0
    have sm := share_mul (l := l) (o := o) (one := one) (far := far) (by grind)
    by_cases h1 : (share l o one far).num ≤ 0
    · rw [if_pos h1]
      have h1' := (num_le0 _).mp h1
      have := best_of (l := l) (o := o) (one := one) (far := far) (x := 0) (by grind) (by grind) (.inr (.inl ⟨rfl, by
        have := Rat.mul_nonneg (show 0 ≤ -share l o one far by grind) (Rat.le_of_lt ap)
        grind⟩))
      rw [onSeg0] at this
      exact this
    · rw [if_neg h1]
      have h1' : ¬ share l o one far ≤ 0 := fun z => h1 ((num_le0 _).mpr z)
      by_cases h2 : ((share l o one far).den : Int) ≤ (share l o one far).num
      · rw [if_pos h2]
        have h2' := (den_le_num _).mp h2
        have := best_of (l := l) (o := o) (one := one) (far := far) (x := 1) (by grind) (by grind) (.inr (.inr ⟨rfl, by
          have := Rat.mul_nonneg (show 0 ≤ share l o one far - 1 by grind) (Rat.le_of_lt ap)
          grind⟩))
        rw [onSeg1] at this
        exact this
      · rw [if_neg h2]
        have h2' : ¬ 1 ≤ share l o one far := fun z => h2 ((den_le_num _).mpr z)
        exact best_of (by grind) (by grind) (.inl (by grind))
theorem edge_best (l o : Leg) (one two : P2) : Best l o one two (edgeL l o one two).2 := by
  show Best l o one two (onSeg one two (clipQ (partL l o one two)))
  unfold partL
  by_cases h0 : dotQ (along l o one two) (along l o one two) ≠ 0
  · rw [if_pos h0]
    have sm := share_mul h0
    have ap : 0 < dotQ (along l o one two) (along l o one two) := dot_pos fun e => h0 (by rw [e, dot0])
    unfold clipQ
    by_cases h1 : share l o one two < 0
    · rw [if_pos h1]
      refine best_of (by grind) (by grind) (.inr (.inl ⟨rfl, ?_⟩))
      have := Rat.mul_nonneg (show 0 ≤ -share l o one two by grind) (Rat.le_of_lt ap)
      grind
    · rw [if_neg h1]
      by_cases h2 : 1 < share l o one two
      · rw [if_pos h2]
        refine best_of (by grind) (by grind) (.inr (.inr ⟨rfl, ?_⟩))
        have := Rat.mul_nonneg (show 0 ≤ share l o one two - 1 by grind) (Rat.le_of_lt ap)
        grind
      · rw [if_neg h2]
        exact best_of (by grind) (by grind) (.inl (by grind))
  · have e0 : dotQ (along l o one two) (along l o one two) = 0 := by
      by_cases z : dotQ (along l o one two) (along l o one two) = 0
      · exact z
      · exact absurd z h0
    have ea : along l o one two = (0, 0) := by
      by_cases z : along l o one two = (0, 0)
      · exact z
      · have := dot_pos z
        grind
    rw [if_neg h0]
    have key : ∀ x, 0 ≤ x → x ≤ 1 → Best l o one two (onSeg one two x) := fun x x0 x1 => best_of x0 x1 (.inl (by rw [ea, dot0, dot0]; grind))
    unfold clipQ
    split <;> split <;> first | exact key _ (by grind) (by grind) | (split <;> exact key _ (by grind) (by grind))
theorem best_flip {l o : Leg} {one far p : P2} (h : Best l o one far p) : Best l o far one p := by
  obtain ⟨⟨x, x0, x1, rfl⟩, h2⟩ := h
  refine ⟨⟨1 - x, by grind, by grind, onSeg_flip ..⟩, fun y y0 y1 => ?_⟩
  rw [onSeg_flip far one y]
  exact h2 _ (by grind) (by grind)
theorem best_same {l o : Leg} {one far p q : P2} (h : Best l o one far p) (g : Best l o one far q) : sqAt l o p = sqAt l o q := by
  obtain ⟨⟨x, x0, x1, rfl⟩, h2⟩ := h
  obtain ⟨⟨y, y0, y1, rfl⟩, g2⟩ := g
  exact Rat.le_antisymm (h2 y y0 y1) (g2 x x0 x1)
theorem best_end {l o : Leg} {one far p : P2} (h : Best l o one far p) : sqAt l o p ≤ sqAt l o one := by
  have := h.2 0 (by grind) (by grind)
  rw [onSeg0] at this
  exact this
theorem met_sq {l o : Leg} (h : wholeI l o ≠ 0) : sqAt l o (met l o) = 0 := by
  have hw : ((wholeI l o : Int) : Rat) ≠ 0 := fun e => h (by exact_mod_cast e)
  have g1 : (gap l o (met l o).1 (met l o).2).1 = 0 := by
    show pl o.1.1 o.2.1 ((crT l o : Rat) / (wholeI l o : Rat)) - pl l.1.1 l.2.1 ((crS l o : Rat) / (wholeI l o : Rat)) = 0
    unfold pl
    have e : ((o.1.1 : Rat) - l.1.1) * (wholeI l o : Rat) + (crT l o : Rat) * ((o.2.1 - o.1.1 : Int) : Rat) - (crS l o : Rat) * ((l.2.1 - l.1.1 : Int) : Rat) = 0 := by
      unfold wholeI crT crS
      simp only [Rat.intCast_sub, Rat.intCast_mul]
      grind
    generalize ((o.2.1 - o.1.1 : Int) : Rat) = A at *
    generalize ((l.2.1 - l.1.1 : Int) : Rat) = B at *
    grind
  have g2 : (gap l o (met l o).1 (met l o).2).2 = 0 := by
    show pl o.1.2 o.2.2 ((crT l o : Rat) / (wholeI l o : Rat)) - pl l.1.2 l.2.2 ((crS l o : Rat) / (wholeI l o : Rat)) = 0
    unfold pl
    have e : ((o.1.2 : Rat) - l.1.2) * (wholeI l o : Rat) + (crT l o : Rat) * ((o.2.2 - o.1.2 : Int) : Rat) - (crS l o : Rat) * ((l.2.2 - l.1.2 : Int) : Rat) = 0 := by
      unfold wholeI crT crS
      simp only [Rat.intCast_sub, Rat.intCast_mul]
      grind
    generalize ((o.2.2 - o.1.2 : Int) : Rat) = A at *
    generalize ((l.2.2 - l.1.2 : Int) : Rat) = B at *
    grind
  unfold sqAt dotQ
  rw [g1, g2]
  grind
theorem abs_le {x r : Rat} : absQ x ≤ r ↔ x ≤ r ∧ -x ≤ r := by
  unfold absQ
  split <;> constructor <;> grind
theorem isIn_iff {rho : Rat} {p : P2} : isIn rho p = true ↔ Reg rho p := by
  unfold isIn Reg
  simp only [Bool.and_eq_true, decide_eq_true_iff, abs_le]
  constructor
  · rintro ⟨a, b, c, d, e, f⟩
    exact ⟨a, b, c, d, e, by grind⟩
  · rintro ⟨a, b, c, d, e, f⟩
    exact ⟨a, b, c, d, e, by grind⟩
theorem outL_iff {rho : Rat} {p : P2} : outL rho p = false ↔ Reg rho p := by
  unfold outL Reg
  simp only [Bool.or_eq_false_iff, decide_eq_false_iff_not, Rat.not_lt, abs_le]
  constructor
  · rintro ⟨a, b, c, d, e, f⟩
    exact ⟨a, c, b, d, e, by grind⟩
  · rintro ⟨a, b, c, d, e, f⟩
    exact ⟨a, c, b, d, e, by grind⟩
theorem reg_seg {rho : Rat} {one far : P2} {x : Rat} (h : Reg rho one) (g : Reg rho far) (x0 : 0 ≤ x) (x1 : x ≤ 1) : Reg rho (onSeg one far x) := by
  obtain ⟨h1, h2, h3, h4, h5, h6⟩ := h
  obtain ⟨g1, g2, g3, g4, g5, g6⟩ := g
  have y0 : 0 ≤ 1 - x := by grind
  have m : ∀ {a b c : Rat}, a ≤ b → 0 ≤ c → c * a ≤ c * b := fun {a b c} hab hc => by
    have := Rat.mul_nonneg hc (show 0 ≤ b - a by grind)
    grind
  unfold onSeg
  refine ⟨?_, ?_, ?_, ?_, ?_, ?_⟩
  · have := m h1 y0; have := m g1 x0; grind
  · have := m h2 y0; have := m g2 x0; grind
  · have := m h3 y0; have := m g3 x0; grind
  · have := m h4 y0; have := m g4 x0; grind
  · have := m h5 y0; have := m g5 x0; grind
  · have := m h6 y0; have := m g6 x0; grind
theorem reg_corner {rho : Rat} (r0 : 0 ≤ rho) (r1 : rho ≤ 1) {p : P2} (h : p ∈ cornersL rho) : Reg rho p := by
  unfold cornersL at h
  simp only [List.mem_cons, List.not_mem_nil, or_false] at h
  unfold Reg
  rcases h with rfl | rfl | rfl | rfl | rfl | rfl <;> (simp only; refine ⟨?_, ?_, ?_, ?_, ?_, ?_⟩ <;> grind)
theorem cmp_neg {x y : Rat} : cmpQ x y < 0 ↔ x < y := by
  unfold cmpQ
  by_cases h1 : y < x
  · rw [if_pos h1, if_neg (by grind)]; grind
  · rw [if_neg h1]
    by_cases h2 : x < y
    · rw [if_pos h2]; grind
    · rw [if_neg h2]; grind
theorem cmp_zero {x y : Rat} : cmpQ x y = 0 ↔ x = y := by
  unfold cmpQ
  by_cases h1 : y < x
  · rw [if_pos h1, if_neg (by grind)]; grind
  · rw [if_neg h1]
    by_cases h2 : x < y
    · rw [if_pos h2]; grind
    · rw [if_neg h2]; grind
theorem byP_neg {r b : Row} (h : byP (rowL r) (rowL b) < 0) : r.1 ≤ b.1 := by
  unfold rowL byP at h
  split at h
  · exact Rat.le_of_lt (cmp_neg.mp h)
  · rename_i z
    have : cmpQ r.1 b.1 = 0 := by omega
    rw [cmp_zero.mp this]
    exact Rat.le_refl
theorem byP_nn {r b : Row} (h : ¬ byP (rowL r) (rowL b) < 0) : b.1 ≤ r.1 := by
  unfold rowL byP at h
  split at h
  · rw [cmp_neg] at h
    exact Rat.not_lt.mp h
  · rename_i z
    have : cmpQ r.1 b.1 = 0 := by omega
    rw [cmp_zero.mp this]
    exact Rat.le_refl
theorem nearF_ok (l o : Leg) : ∀ (ps : List P2) (acc : Row), ∃ r, ps.foldl (step l o) (some acc) = some r ∧ (r = acc ∨ ∃ p ∈ ps, r = rowOf l o p) ∧ r.1 ≤ acc.1 ∧ ∀ p ∈ ps, r.1 ≤ sqAt l o p
  | [], acc => ⟨acc, rfl, .inl rfl, Rat.le_refl, fun p h => by simp at h⟩
  | p :: ps, acc => by
    rw [List.foldl_cons]
    by_cases h : byP (rowL (rowOf l o p)) (rowL acc) < 0
    · rw [show step l o (some acc) p = some (rowOf l o p) from if_pos h]
      obtain ⟨r, h1, h2, h3, h4⟩ := nearF_ok l o ps (rowOf l o p)
      refine ⟨r, h1, .inr ?_, Rat.le_trans h3 (byP_neg h), fun q hq => ?_⟩
      · rcases h2 with z | ⟨q, hq, z⟩
        · exact ⟨p, List.mem_cons_self, z⟩
        · exact ⟨q, List.mem_cons_of_mem _ hq, z⟩
      · rcases List.mem_cons.mp hq with rfl | hq
        · exact h3
        · exact h4 q hq
    · rw [show step l o (some acc) p = some acc from if_neg h]
      obtain ⟨r, h1, h2, h3, h4⟩ := nearF_ok l o ps acc
      refine ⟨r, h1, ?_, h3, fun q hq => ?_⟩
      · rcases h2 with z | ⟨q, hq, z⟩
        · exact .inl z
        · exact .inr ⟨q, List.mem_cons_of_mem _ hq, z⟩
      · rcases List.mem_cons.mp hq with rfl | hq
        · exact Rat.le_trans h3 (byP_nn h)
        · exact h4 q hq
theorem nearQ_ok (l o : Leg) (rho : Rat) : (∃ p ∈ cands l o rho, nearQ l o rho = rowOf l o p) ∧ ∀ p ∈ cands l o rho, (nearQ l o rho).1 ≤ sqAt l o p := by
  have e : ∃ p ps, cands l o rho = p :: ps := ⟨_, _, rfl⟩
  obtain ⟨p, ps, e⟩ := e
  unfold nearQ nearF
  rw [e, List.foldl_cons]
  obtain ⟨r, h1, h2, h3, h4⟩ := nearF_ok l o ps (rowOf l o p)
  show (∃ q ∈ p :: ps, (ps.foldl (step l o) (some (rowOf l o p))).getD (0, 0, 0) = rowOf l o q) ∧ ∀ q ∈ p :: ps, ((ps.foldl (step l o) (some (rowOf l o p))).getD (0, 0, 0)).1 ≤ sqAt l o q
  rw [h1]
  refine ⟨?_, fun q hq => ?_⟩
  · rcases h2 with z | ⟨q, hq, z⟩
    · exact ⟨p, List.mem_cons_self, z⟩
    · exact ⟨q, List.mem_cons_of_mem _ hq, z⟩
  · rcases List.mem_cons.mp hq with rfl | hq
    · exact h3
    · exact h4 q hq
theorem better_pos {r b : Row} (h : betterL r b = true) : r.1 ≤ b.1 := by
  unfold betterL at h
  simp only [Bool.or_eq_true, Bool.and_eq_true, decide_eq_true_iff] at h
  rcases h with h | h
  · exact Rat.le_of_lt h
  · rw [h.1]; exact Rat.le_refl
theorem better_neg {r b : Row} (h : ¬ betterL r b = true) : b.1 ≤ r.1 := by
  unfold betterL at h
  simp only [Bool.or_eq_true, Bool.and_eq_true, decide_eq_true_iff, not_or] at h
  exact Rat.not_lt.mp h.1
theorem nearL_fold : ∀ (rs : List Row) (acc : Row), ∃ r, rs.foldl stepL (some acc) = some r ∧ (r = acc ∨ r ∈ rs) ∧ r.1 ≤ acc.1 ∧ ∀ q ∈ rs, r.1 ≤ q.1
  | [], acc => ⟨acc, rfl, .inl rfl, Rat.le_refl, fun p h => by simp at h⟩
  | p :: ps, acc => by
    rw [List.foldl_cons]
    by_cases h : betterL p acc = true
    · rw [show stepL (some acc) p = some p from if_pos h]
      obtain ⟨r, h1, h2, h3, h4⟩ := nearL_fold ps p
      refine ⟨r, h1, .inr ?_, Rat.le_trans h3 (better_pos h), fun q hq => ?_⟩
      · rcases h2 with z | z
        · rw [z]; exact List.mem_cons_self
        · exact List.mem_cons_of_mem _ z
      · rcases List.mem_cons.mp hq with rfl | hq
        · exact h3
        · exact h4 q hq
    · rw [show stepL (some acc) p = some acc from if_neg h]
      obtain ⟨r, h1, h2, h3, h4⟩ := nearL_fold ps acc
      refine ⟨r, h1, ?_, h3, fun q hq => ?_⟩
      · rcases h2 with z | z
        · exact .inl z
        · exact .inr (List.mem_cons_of_mem _ z)
      · rcases List.mem_cons.mp hq with rfl | hq
        · exact Rat.le_trans h3 (better_neg h)
        · exact h4 q hq
theorem nearL_ok (l o : Leg) (rho : Rat) : nearL l o rho ∈ rowsL l o rho ∧ ∀ q ∈ rowsL l o rho, (nearL l o rho).1 ≤ q.1 := by
  have e : ∃ p ps, rowsL l o rho = p :: ps := by
    unfold rowsL innerL
    split
    · exact ⟨_, _, rfl⟩
    · split <;> exact ⟨_, _, rfl⟩
  obtain ⟨p, ps, e⟩ := e
  unfold nearL
  rw [e, List.foldl_cons]
  obtain ⟨r, h1, h2, h3, h4⟩ := nearL_fold ps p
  show (ps.foldl stepL (some p)).getD (0, 0, 0) ∈ p :: ps ∧ ∀ q ∈ p :: ps, ((ps.foldl stepL (some p)).getD (0, 0, 0)).1 ≤ q.1
  rw [h1]
  refine ⟨?_, fun q hq => ?_⟩
  · rcases h2 with z | z
    · rw [z]; exact List.mem_cons_self
    · exact List.mem_cons_of_mem _ z
  · rcases List.mem_cons.mp hq with rfl | hq
    · exact h3
    · exact h4 q hq
theorem rows_ok {l o : Leg} {rho : Rat} (r0 : 0 ≤ rho) (r1 : rho ≤ 1) {r : Row} (h : r ∈ rowsL l o rho) : r.1 = sqAt l o r.2 ∧ Reg rho r.2 := by
  unfold rowsL at h
  rcases List.mem_append.mp h with h | h
  · unfold innerL at h
    split at h
    · simp at h
    · rename_i hw
      split at h
      · simp at h
      · rename_i hout
        have e : r = (0, met l o) := by simpa using h
        subst e
        exact ⟨(met_sq hw).symm, outL_iff.mp (by simpa using hout)⟩
  · have key : ∀ one two, one ∈ cornersL rho → two ∈ cornersL rho → r = edgeL l o one two → r.1 = sqAt l o r.2 ∧ Reg rho r.2 := fun one two h1 h2 e => by
      subst e
      refine ⟨rfl, ?_⟩
      obtain ⟨⟨x, x0, x1, ex⟩, _⟩ := edge_best l o one two
      rw [ex]
      exact reg_seg (reg_corner r0 r1 h1) (reg_corner r0 r1 h2) x0 x1
    unfold edgesL at h
    simp only [List.mem_cons, List.not_mem_nil, or_false] at h
    rcases h with h | h | h | h | h | h <;> exact key _ _ (by simp [cornersL]) (by simp [cornersL]) h
theorem meets_iff {l o : Leg} {rho : Rat} : meets l o rho = true ↔ wholeI l o ≠ 0 ∧ Reg rho (met l o) := by
  unfold meets
  rw [Bool.and_eq_true, isIn_iff]
  simp
theorem same_least {l o : Leg} {rho : Rat} (r0 : 0 ≤ rho) (r1 : rho ≤ 1) : (nearQ l o rho).1 = (nearL l o rho).1 := by
  obtain ⟨⟨p, hp, ep⟩, hq⟩ := nearQ_ok l o rho
  obtain ⟨hr, hl⟩ := nearL_ok l o rho
  have edge : ∀ one two, edgeL l o one two ∈ edgesL l o rho → (nearL l o rho).1 ≤ sqAt l o (edgeL l o one two).2 := fun one two h => hl _ (List.mem_append_right _ h)
  apply Rat.le_antisymm
  · -- the law's least row is met by the program
    have side : ∀ one two, sideQ l o two one ∈ sides l o rho → nearL l o rho = edgeL l o one two → (nearQ l o rho).1 ≤ (nearL l o rho).1 := fun one two h e => by
      have h1 := hq _ (List.mem_append_left _ (List.mem_append_right _ h))
      rw [e]
      show _ ≤ sqAt l o (edgeL l o one two).2
      rw [← best_same (best_flip (side_best l o two one)) (edge_best l o one two)]
      exact h1
    unfold rowsL at hr
    rcases List.mem_append.mp hr with h | h
    · unfold innerL at h
      split at h
      · simp at h
      · rename_i hw
        split at h
        · simp at h
        · rename_i hout
          have e : nearL l o rho = (0, met l o) := by simpa using h
          have mm : meets l o rho = true := meets_iff.mpr ⟨hw, outL_iff.mp (by simpa using hout)⟩
          have h1 := hq (met l o) (by unfold cands; rw [if_pos mm]; simp)
          rw [e]
          rw [met_sq hw] at h1
          exact h1
    · unfold edgesL at h
      simp only [List.mem_cons, List.not_mem_nil, or_false] at h
      rcases h with h | h | h | h | h | h <;> exact side _ _ (by simp [sides]) h
  · rw [ep]
    show _ ≤ sqAt l o p
    have corner : ∀ one two, edgeL l o one two ∈ edgesL l o rho → (nearL l o rho).1 ≤ sqAt l o one := fun one two h => Rat.le_trans (edge one two h) (best_end (edge_best l o one two))
    have flip : ∀ one two, edgeL l o one two ∈ edgesL l o rho → (nearL l o rho).1 ≤ sqAt l o (sideQ l o two one) := fun one two h => by
      rw [best_same (best_flip (side_best l o two one)) (edge_best l o one two)]
      exact edge one two h
    unfold cands at hp
    rcases List.mem_append.mp hp with hp | hp
    · rcases List.mem_append.mp hp with hp | hp
      · unfold ring at hp
        simp only [List.mem_cons, List.not_mem_nil, or_false] at hp
        rcases hp with rfl | rfl | rfl | rfl | rfl | rfl
        · exact corner (0, 0) (rho, 0) (by simp [edgesL])
        · exact corner (0, rho) (0, 0) (by simp [edgesL])
        · exact corner (1 - rho, 1) (0, rho) (by simp [edgesL])
        · exact corner (1, 1) (1 - rho, 1) (by simp [edgesL])
        · exact corner (1, 1 - rho) (1, 1) (by simp [edgesL])
        · exact corner (rho, 0) (1, 1 - rho) (by simp [edgesL])
      · unfold sides at hp
        simp only [List.mem_cons, List.not_mem_nil, or_false] at hp
        rcases hp with rfl | rfl | rfl | rfl | rfl | rfl <;> exact flip _ _ (by simp [edgesL])
    · split at hp
      · rename_i mm
        have e : p = met l o := by simpa using hp
        obtain ⟨hw, hreg⟩ := meets_iff.mp mm
        subst e
        rw [met_sq hw]
        refine hl (0, met l o) (List.mem_append_left _ ?_)
        unfold innerL
        rw [if_neg hw, if_neg (by rw [outL_iff.mpr hreg]; simp)]
        simp
      · simp at hp
end Mi
end
section
set_option linter.all false
namespace Mi
def crossB (l o : Leg) : Bool := decide ((o.1.1 - l.1.1) * (o.2.1 - l.2.1) + (o.1.2 - l.1.2) * (o.2.2 - l.2.2) < 0)
def crI (ls : List Leg) (i j : Nat) : Bool := match ls[i]?, ls[j]? with
  | some l, some o => crossB l o
  | _, _ => false
def rowC (ls : List Leg) (i : Nat) : Option Nat := (List.range (ls.length - (i + 1))).find? fun k => crI ls i (i + 1 + k)
def fc (ls : List Leg) : Option (Nat × Nat) := match (List.range ls.length).find? (fun i => (rowC ls i).isSome) with
  | some i => (rowC ls i).map fun k => (i, i + 1 + k)
  | none => none
def swapL (ls : List Leg) (i j : Nat) : List Leg := match ls[i]?, ls[j]? with
  | some l, some o => (ls.set i (l.1, o.2)).set j (o.1, l.2)
  | _, _ => ls
def unStep (s : List Leg × Option (Nat × Nat)) : List Leg × Option (Nat × Nat) := match s.2 with
  | none => s
  | some (i, j) => (swapL s.1 i j, fc (swapL s.1 i j))
def unS (ls : List Leg) : Nat → List Leg × Option (Nat × Nat)
  | 0 => (ls, fc ls)
  | k + 1 => unStep (unS ls k)
def un (ls : List Leg) : List Leg := (unS ls 400).1
theorem fc_some {ls : List Leg} {i j : Nat} (h : fc ls = some (i, j)) : i < j ∧ ∃ l o, ls[i]? = some l ∧ ls[j]? = some o ∧ crossB l o = true := by
  unfold fc at h
  split at h
  · rename_i i0 hi
    cases hr : rowC ls i0 with
    | none => rw [hr] at h; cases h
    | some k =>
      rw [hr] at h
      have e : (i0, i0 + 1 + k) = (i, j) := by simpa using h
      obtain ⟨rfl, rfl⟩ := Prod.mk.inj e
      unfold rowC at hr
      have hc := List.find?_some hr
      unfold crI at hc
      refine ⟨by omega, ?_⟩
      split at hc
      · rename_i l o h1 h2
        exact ⟨l, o, h1, h2, hc⟩
      · cases hc
  · cases h
theorem fc_none {ls : List Leg} (h : fc ls = none) {i j : Nat} {l o : Leg} (hij : i < j) (hi : ls[i]? = some l) (hj : ls[j]? = some o) : crossB l o = false := by
  have hjl := (List.getElem?_eq_some_iff.mp hj).1
  cases hc : crossB l o with
  | false => rfl
  | true =>
    exfalso
    have hcr : crI ls i j = true := by unfold crI; rw [hi, hj]; exact hc
    have hrow : (rowC ls i).isSome = true := by
      unfold rowC
      rw [List.find?_isSome]
      exact ⟨j - (i + 1), List.mem_range.mpr (by omega), by rw [show i + 1 + (j - (i + 1)) = j by omega]; exact hcr⟩
    unfold fc at h
    split at h
    · rename_i i0 h0
      have := List.find?_some h0
      cases hr : rowC ls i0 with
      | none => rw [hr] at this; cases this
      | some k => rw [hr] at h; cases h
    · rename_i h0
      rw [List.find?_eq_none] at h0
      exact h0 i (List.mem_range.mpr (by omega)) hrow
def priceL (l : Leg) : Int := (l.2.1 - l.1.1) * (l.2.1 - l.1.1) + (l.2.2 - l.1.2) * (l.2.2 - l.1.2)
def price (ls : List Leg) : Int := (ls.map priceL).sum
theorem sum_set : ∀ (l : List Int) (i : Nat) (x y : Int), l[i]? = some y → (l.set i x).sum = l.sum - y + x
  | [], i, x, y, h => by simp at h
  | a :: l, 0, x, y, h => by
    simp at h
    subst h
    rw [List.set_cons_zero, List.sum_cons, List.sum_cons]
    omega
  | a :: l, i + 1, x, y, h => by
    rw [List.set_cons_succ, List.sum_cons, List.sum_cons, sum_set l i x y (by simpa using h)]
    omega
theorem price_swap {ls : List Leg} {i j : Nat} {l o : Leg} (hij : i < j) (hi : ls[i]? = some l) (hj : ls[j]? = some o) (hc : crossB l o = true) : price (swapL ls i j) < price ls := by
  unfold swapL
  rw [hi, hj]
  simp only
  unfold price
  rw [List.map_set, List.map_set]
  have h1 : (ls.map priceL)[i]? = some (priceL l) := by rw [List.getElem?_map, hi] <;> rfl
  have h2 : ((ls.map priceL).set i (priceL (l.1, o.2)))[j]? = some (priceL o) := by
    rw [List.getElem?_set_ne (by omega), List.getElem?_map, hj] <;> rfl
  rw [sum_set _ j _ _ h2, sum_set _ i _ _ h1]
  have hd := of_decide_eq_true hc
  unfold priceL
  obtain ⟨⟨a1, a2⟩, b1, b2⟩ := l
  obtain ⟨⟨c1, c2⟩, d1, d2⟩ := o
  simp only at *
  have key : (d1 - a1) * (d1 - a1) + (d2 - a2) * (d2 - a2) + ((b1 - c1) * (b1 - c1) + (b2 - c2) * (b2 - c2)) = (b1 - a1) * (b1 - a1) + (b2 - a2) * (b2 - a2) + ((d1 - c1) * (d1 - c1) + (d2 - c2) * (d2 - c2)) + 2 * ((c1 - a1) * (d1 - b1) + (c2 - a2) * (d2 - b2)) := by grind
  omega
structure Goes (ls cs : List Leg) : Prop where
  froms : cs.map Prod.fst = ls.map Prod.fst
  tos : (cs.map Prod.snd).Perm (ls.map Prod.snd)
theorem Goes.refl (ls : List Leg) : Goes ls ls := ⟨rfl, .refl _⟩
theorem map_set_same {α β : Type} (f : α → β) : ∀ (l : List α) (i : Nat) (x y : α), l[i]? = some y → f x = f y → (l.set i x).map f = l.map f
  | [], i, x, y, h, e => by simp at h
  | a :: l, 0, x, y, h, e => by
    simp at h
    subst h
    rw [List.set_cons_zero, List.map_cons, List.map_cons, e]
  | a :: l, i + 1, x, y, h, e => by
    rw [List.set_cons_succ, List.map_cons, List.map_cons, map_set_same f l i x y (by simpa using h) e]
theorem goes_swap {ls cs : List Leg} {i j : Nat} {l o : Leg} (h : Goes ls cs) (hij : i < j) (hi : cs[i]? = some l) (hj : cs[j]? = some o) : Goes ls (swapL cs i j) := by
  unfold swapL
  rw [hi, hj]
  simp only
  have hjs : (cs.set i (l.1, o.2))[j]? = some o := by rw [List.getElem?_set_ne (by omega)]; exact hj
  refine ⟨?_, ?_⟩
  · rw [map_set_same Prod.fst _ j (o.1, l.2) o hjs rfl, map_set_same Prod.fst _ i (l.1, o.2) l hi rfl]
    exact h.froms
  · refine List.Perm.trans ?_ h.tos
    rw [List.map_set, List.map_set]
    have hi' : i < (cs.map Prod.snd).length := by rw [List.length_map]; exact (List.getElem?_eq_some_iff.mp hi).1
    have hj' : j < (cs.map Prod.snd).length := by rw [List.length_map]; exact (List.getElem?_eq_some_iff.mp hj).1
    have ei : (cs.map Prod.snd)[i] = l.2 := by
      rw [List.getElem_map, (List.getElem?_eq_some_iff.mp hi).2]
    have ej : (cs.map Prod.snd)[j] = o.2 := by
      rw [List.getElem_map, (List.getElem?_eq_some_iff.mp hj).2]
    have := List.set_set_perm hi' hj'
    rw [ei, ej] at this
    exact this
def words {α : Type} (t : List α) : Nat → List (List α)
  | 0 => [[]]
  | k + 1 => t.flatMap fun x => (words t k).map fun w => x :: w
theorem words_mem {α : Type} {t : List α} : ∀ {w : List α}, (∀ x ∈ w, x ∈ t) → w ∈ words t w.length
  | [], _ => List.mem_singleton.mpr rfl
  | x :: w, h => by
    show x :: w ∈ t.flatMap fun x => (words t w.length).map fun w => x :: w
    rw [List.mem_flatMap]
    exact ⟨x, h x List.mem_cons_self, List.mem_map.mpr ⟨w, words_mem fun y hy => h y (List.mem_cons_of_mem _ hy), rfl⟩⟩
theorem flat_len {α β : Type} (f : α → List β) (m : Nat) (h : ∀ x, (f x).length = m) : ∀ t : List α, (t.flatMap f).length = t.length * m
  | [] => by simp
  | x :: t => by
    rw [List.flatMap_cons, List.length_append, h, flat_len f m h t, List.length_cons, Nat.succ_mul]
    omega
theorem words_len {α : Type} (t : List α) : ∀ k, (words t k).length = t.length ^ k
  | 0 => rfl
  | k + 1 => by
    show (t.flatMap fun x => (words t k).map fun w => x :: w).length = _
    rw [flat_len _ (t.length ^ k) (fun x => by rw [List.length_map, words_len t k]), Nat.pow_succ, Nat.mul_comm]
theorem zip_back : ∀ cs : List Leg, (cs.map Prod.fst).zip (cs.map Prod.snd) = cs
  | [] => rfl
  | c :: cs => by rw [List.map_cons, List.map_cons, List.zip_cons_cons, zip_back cs]
def all (ls : List Leg) : List (List Leg) := (words (ls.map Prod.snd) ls.length).map fun t => (ls.map Prod.fst).zip t
theorem goes_all {ls cs : List Leg} (h : Goes ls cs) : cs ∈ all ls := by
  unfold all
  rw [List.mem_map]
  have hl : (cs.map Prod.snd).length = ls.length := by rw [h.tos.length_eq, List.length_map]
  refine ⟨cs.map Prod.snd, ?_, ?_⟩
  · have := words_mem (t := ls.map Prod.snd) (w := cs.map Prod.snd) fun x hx => h.tos.mem_iff.mp hx
    rw [hl] at this
    exact this
  · rw [← h.froms, zip_back]
theorem all_len {ls : List Leg} (h : ls.length ≤ 4) : (all ls).length ≤ 256 := by
  unfold all
  rw [List.length_map, words_len, List.length_map]
  have h5 : ls.length = 0 ∨ ls.length = 1 ∨ ls.length = 2 ∨ ls.length = 3 ∨ ls.length = 4 := by omega
  rcases h5 with e | e | e | e | e <;> rw [e] <;> decide
theorem count_lt {α : Type} {p q : α → Bool} : ∀ {l : List α}, (∀ x ∈ l, p x = true → q x = true) → (∃ x ∈ l, q x = true ∧ p x = false) → l.countP p < l.countP q
  | [], _, h => by obtain ⟨x, hx, _⟩ := h; cases hx
  | a :: l, h, ⟨x, hx, h1, h2⟩ => by
    have hle : l.countP p ≤ l.countP q := List.countP_mono_left fun y hy => h y (List.mem_cons_of_mem _ hy)
    rw [List.countP_cons, List.countP_cons]
    rcases List.mem_cons.mp hx with rfl | hx
    · rw [h1, h2]
      simp
      omega
    · have ih := count_lt (p := p) (q := q) (fun y hy => h y (List.mem_cons_of_mem _ hy)) ⟨x, hx, h1, h2⟩
      have := h a List.mem_cons_self
      cases hp : p a with
      | true => rw [this hp]; simp; omega
      | false => simp; omega
def rank (ls cs : List Leg) : Nat := (all ls).countP fun t => decide (price t < price cs)
theorem rank_lt {ls cs cs' : List Leg} (h : Goes ls cs') (hp : price cs' < price cs) : rank ls cs' < rank ls cs :=
  count_lt (fun x _ hx => decide_eq_true (Int.lt_trans (of_decide_eq_true hx) hp)) ⟨cs', goes_all h, decide_eq_true hp, decide_eq_false (by omega)⟩
theorem unS_ok (ls : List Leg) : ∀ k, Goes ls (unS ls k).1 ∧ (unS ls k).2 = fc (unS ls k).1 ∧ ((unS ls k).2 = none ∨ rank ls (unS ls k).1 + k ≤ (all ls).length)
  | 0 => ⟨Goes.refl ls, rfl, .inr (List.countP_le_length)⟩
  | k + 1 => by
    obtain ⟨h1, h2, h3⟩ := unS_ok ls k
    show Goes ls (unStep (unS ls k)).1 ∧ (unStep (unS ls k)).2 = fc (unStep (unS ls k)).1 ∧ ((unStep (unS ls k)).2 = none ∨ rank ls (unStep (unS ls k)).1 + (k + 1) ≤ (all ls).length)
    generalize unS ls k = s at *
    obtain ⟨cs, pr⟩ := s
    cases pr with
    | none => exact ⟨h1, h2, .inl rfl⟩
    | some q =>
      obtain ⟨i, j⟩ := q
      obtain ⟨hij, l, o, hi, hj, hc⟩ := fc_some (show fc cs = some (i, j) from h2.symm)
      have g := goes_swap h1 hij hi hj
      refine ⟨g, rfl, .inr ?_⟩
      have hr := rank_lt g (price_swap hij hi hj hc)
      have h3' : rank ls cs + k ≤ (all ls).length := by
        rcases h3 with z | z
        · cases z
        · exact z
      show rank ls (swapL cs i j) + (k + 1) ≤ (all ls).length
      have hr' : rank ls (swapL cs i j) < rank ls cs := hr
      omega
theorem un_goes (ls : List Leg) : Goes ls (un ls) := (unS_ok ls 400).1
theorem un_ok {ls : List Leg} (h : ls.length ≤ 4) : fc (un ls) = none := by
  obtain ⟨_, h2, h3⟩ := unS_ok ls 400
  have := all_len h
  rcases h3 with z | z
  · rw [h2] at z
    exact z
  · omega
end Mi
end
section
set_option Elab.async false
set_option linter.all false
set_option maxRecDepth 100000
set_option maxHeartbeats 4000000
namespace Wk
open PySem PySem.Spec PyProof.Rows L2
inductive D where
  | non | bl (b : Bool) | int (i : Int) | tup (ds : List D) | lst (ds : List D)
abbrev Mu := Addr → Prop
mutual
def Rep (K : PySem.W.Frag) (M : Mu) (H : Hp) : D → V → Prop
  | .non, v => v = .non
  | .bl b, v => v = .bl b
  | .int i, v => v = .int i
  | .tup ds, v => ∃ a vs, v = .ref a ∧ SqT K H a vs ∧ Reps K M H ds vs
  | .lst ds, v => ∃ a vs, v = .ref a ∧ ¬ M a ∧ H a = some (.lst vs) ∧ Reps K M H ds vs
def Reps (K : PySem.W.Frag) (M : Mu) (H : Hp) : List D → List V → Prop
  | [], vs => vs = []
  | d :: ds, vs => ∃ v r, vs = v :: r ∧ Rep K M H d v ∧ Reps K M H ds r
end
mutual
def Flat : D → Prop
  | .tup ds => Flats ds
  | .lst _ => False
  | _ => True
def Flats : List D → Prop
  | [] => True
  | d :: ds => Flat d ∧ Flats ds
end
def Wd (M : Mu) (H : Hp) : Prop := ∀ a, M a → ∃ xs, H a = some (.lst xs)
def Sm (M : Mu) (H H' : Hp) : Prop := (∀ a o, ¬ M a → H a = some o → H' a = some o) ∧ Wd M H'
theorem Sm.refl {M : Mu} {H : Hp} (w : Wd M H) : Sm M H H := ⟨fun _ _ _ h => h, w⟩
theorem Sm.trans {M : Mu} {H H1 H2 : Hp} (a : Sm M H H1) (b : Sm M H1 H2) : Sm M H H2 := ⟨fun x o n h => b.1 x o n (a.1 x o n h), b.2⟩
theorem Wd.same {M : Mu} {H H' : Hp} (w : Wd M H) (e : Same H H') : Wd M H' := fun a m => let ⟨xs, h⟩ := w a m; ⟨xs, e a _ h⟩
theorem sm_of {M : Mu} {H H' : Hp} (w : Wd M H) (e : Same H H') : Sm M H H' := ⟨fun a o _ h => e a o h, w.same e⟩
theorem Wd.notM {M : Mu} {H : Hp} {a : Addr} (w : Wd M H) (h : H a = none) : ¬ M a := fun m => by
  obtain ⟨xs, e⟩ := w a m
  rw [h] at e
  cases e
section
variable {K : PySem.W.Frag} {M : Mu} {H H' : Hp}
theorem sqT_sm (w : Wd M H) (e : Sm M H H') {a : Addr} {xs : List V} (h : SqT K H a xs) : SqT K H' a xs := by
  rcases h with (h | ⟨o, h⟩) | h
  · refine .inl (.inl (e.1 a _ (fun m => ?_) h))
    obtain ⟨ys, q⟩ := w a m
    rw [h] at q
    cases q
  · refine .inl (.inr ⟨o, e.1 a _ (fun m => ?_) h⟩)
    obtain ⟨ys, q⟩ := w a m
    rw [h] at q
    cases q
  · exact .inr h
mutual
theorem rep_sm (w : Wd M H) (e : Sm M H H') : ∀ {d : D} {v : V}, Rep K M H d v → Rep K M H' d v
  | .non, _, h => h
  | .bl _, _, h => h
  | .int _, _, h => h
  | .tup _, _, ⟨a, vs, e1, h1, h2⟩ => ⟨a, vs, e1, sqT_sm w e h1, reps_sm w e h2⟩
  | .lst _, _, ⟨a, vs, e1, n, h1, h2⟩ => ⟨a, vs, e1, n, e.1 a _ n h1, reps_sm w e h2⟩
theorem reps_sm (w : Wd M H) (e : Sm M H H') : ∀ {ds : List D} {vs : List V}, Reps K M H ds vs → Reps K M H' ds vs
  | [], _, h => h
  | _ :: _, _, ⟨v, r, e1, h1, h2⟩ => ⟨v, r, e1, rep_sm w e h1, reps_sm w e h2⟩
end
theorem rep_same (w : Wd M H) (e : Same H H') {d : D} {v : V} (h : Rep K M H d v) : Rep K M H' d v := rep_sm w (sm_of w e) h
theorem reps_same (w : Wd M H) (e : Same H H') {d : List D} {v : List V} (h : Reps K M H d v) : Reps K M H' d v := reps_sm w (sm_of w e) h
mutual
theorem rep_flat {M' : Mu} : ∀ {d : D} {v : V}, Flat d → Rep K M H d v → Rep K M' H d v
  | .non, _, _, h => h
  | .bl _, _, _, h => h
  | .int _, _, _, h => h
  | .tup _, _, f, ⟨a, vs, e1, h1, h2⟩ => ⟨a, vs, e1, h1, reps_flat (show Flats _ from f) h2⟩
  | .lst _, _, f, _ => False.elim f
theorem reps_flat {M' : Mu} : ∀ {ds : List D} {vs : List V}, Flats ds → Reps K M H ds vs → Reps K M' H ds vs
  | [], _, _, h => h
  | _ :: _, _, f, ⟨v, r, e1, h1, h2⟩ => ⟨v, r, e1, rep_flat f.1 h1, reps_flat f.2 h2⟩
end
mutual
theorem rep_less {M' : Mu} (k : ∀ a, M' a → M a) : ∀ {d : D} {v : V}, Rep K M H d v → Rep K M' H d v
  | .non, _, h => h
  | .bl _, _, h => h
  | .int _, _, h => h
  | .tup _, _, ⟨a, vs, e1, h1, h2⟩ => ⟨a, vs, e1, h1, reps_less k h2⟩
  | .lst _, _, ⟨a, vs, e1, n, h1, h2⟩ => ⟨a, vs, e1, fun m => n (k a m), h1, reps_less k h2⟩
theorem reps_less {M' : Mu} (k : ∀ a, M' a → M a) : ∀ {ds : List D} {vs : List V}, Reps K M H ds vs → Reps K M' H ds vs
  | [], _, h => h
  | _ :: _, _, ⟨v, r, e1, h1, h2⟩ => ⟨v, r, e1, rep_less k h1, reps_less k h2⟩
end
def Add (M : Mu) (p : Addr) : Mu := fun a => M a ∨ a = p
mutual
theorem rep_add {p : Addr} (n : H p = none) : ∀ {d : D} {v : V}, Rep K M H d v → Rep K (Add M p) H d v
  | .non, _, h => h
  | .bl _, _, h => h
  | .int _, _, h => h
  | .tup _, _, ⟨a, vs, e1, h1, h2⟩ => ⟨a, vs, e1, h1, reps_add n h2⟩
  | .lst _, _, ⟨a, vs, e1, m, h1, h2⟩ => ⟨a, vs, e1, fun z => Or.elim z m (fun z => by rw [z, n] at h1; cases h1), h1, reps_add n h2⟩
theorem reps_add {p : Addr} (n : H p = none) : ∀ {ds : List D} {vs : List V}, Reps K M H ds vs → Reps K (Add M p) H ds vs
  | [], _, h => h
  | _ :: _, _, ⟨v, r, e1, h1, h2⟩ => ⟨v, r, e1, rep_add n h1, reps_add n h2⟩
end
theorem Reps.length : ∀ {ds : List D} {vs : List V}, Reps K M H ds vs → vs.length = ds.length
  | [], _, h => by
    have e : _ = [] := h
    rw [e] <;> rfl
  | _ :: _, _, ⟨v, r, e1, _, h2⟩ => by rw [e1, List.length_cons, List.length_cons, Reps.length h2]
theorem Reps.get : ∀ {ds : List D} {vs : List V} {i : Nat} {d : D}, Reps K M H ds vs → ds[i]? = some d → ∃ v, vs[i]? = some v ∧ Rep K M H d v
  | [], _, _, _, _, e => by simp at e
  | _ :: _, _, 0, d, ⟨v, r, e1, h1, h2⟩, e => by
    simp at e
    subst e e1
    exact ⟨v, rfl, h1⟩
  | _ :: _, _, i + 1, d, ⟨v, r, e1, h1, h2⟩, e => by
    obtain ⟨x, q1, q2⟩ := Reps.get (i := i) (d := d) h2 (by simpa using e)
    subst e1
    exact ⟨x, by simpa using q1, q2⟩
theorem Reps.set : ∀ {ds : List D} {vs : List V} {i : Nat} {d : D} {v : V}, Reps K M H ds vs → Rep K M H d v → Reps K M H (ds.set i d) (vs.set i v)
  | [], _, _, _, _, h, _ => by
    have e : _ = [] := h
    subst e
    exact rfl
  | _ :: _, _, 0, d, x, ⟨v, r, e1, h1, h2⟩, g => by
    subst e1
    exact ⟨x, r, rfl, g, h2⟩
  | _ :: _, _, i + 1, d, x, ⟨v, r, e1, h1, h2⟩, g => by
    subst e1
    exact ⟨v, _, rfl, h1, Reps.set h2 g⟩
theorem Reps.append : ∀ {ds es : List D} {vs us : List V}, Reps K M H ds vs → Reps K M H es us → Reps K M H (ds ++ es) (vs ++ us)
  | [], _, _, _, h, g => by
    have e : _ = [] := h
    subst e
    exact g
  | _ :: _, _, _, _, ⟨v, r, e1, h1, h2⟩, g => by
    subst e1
    exact ⟨v, _, rfl, h1, Reps.append h2 g⟩
theorem Reps.one {d : D} {v : V} (h : Rep K M H d v) : Reps K M H [d] [v] := ⟨v, [], rfl, h, rfl⟩
theorem Reps.take : ∀ {ds : List D} {vs : List V} (n : Nat), Reps K M H ds vs → Reps K M H (ds.take n) (vs.take n)
  | _, _, 0, _ => rfl
  | [], _, _ + 1, h => by
    have e : _ = [] := h
    subst e
    exact rfl
  | _ :: _, _, n + 1, ⟨v, r, e1, h1, h2⟩ => by
    subst e1
    exact ⟨v, _, rfl, h1, Reps.take n h2⟩
theorem Reps.drop : ∀ {ds : List D} {vs : List V} (n : Nat), Reps K M H ds vs → Reps K M H (ds.drop n) (vs.drop n)
  | _, _, 0, h => h
  | [], _, _ + 1, h => by
    have e : _ = [] := h
    subst e
    exact rfl
  | _ :: _, _, n + 1, ⟨v, r, e1, h1, h2⟩ => by
    subst e1
    exact Reps.drop n h2
end
abbrev DEnv := List (Option D)
structure En (K : PySem.W.Frag) (M : Mu) (H : Hp) (σ : L2.St) (env : DEnv) : Prop where
  wd : Wd M H
  len : σ.length = env.length
  at_ : ∀ (i : Nat) d, env[i]? = some (some d) → ∃ v, σ[i]? = some (some v) ∧ Rep K M H d v
section
variable {K : PySem.W.Frag} {M : Mu} {H H' : Hp} {σ : L2.St} {env : DEnv}
theorem En.sm (h : En K M H σ env) (e : Sm M H H') : En K M H' σ env := ⟨e.2, h.len, fun i d q => let ⟨v, a, b⟩ := h.at_ i d q; ⟨v, a, rep_sm h.wd e b⟩⟩
theorem En.same (h : En K M H σ env) (e : Same H H') : En K M H' σ env := h.sm (sm_of h.wd e)
theorem En.set {i : Nat} {d : D} {v : V} (h : En K M H σ env) (r : Rep K M H d v) : En K M H (σ.set i (some v)) (env.set i (some d)) := by
  refine ⟨h.wd, by rw [List.length_set, List.length_set, h.len], fun j x q => ?_⟩
  by_cases e : i = j
  · subst e
    by_cases hi : i < env.length
    · rw [List.getElem?_set_self hi] at q
      cases q
      exact ⟨v, List.getElem?_set_self (by rw [h.len]; exact hi), r⟩
    · rw [List.getElem?_eq_none (by rw [List.length_set]; omega)] at q
      cases q
  · rw [List.getElem?_set_ne e] at q
    obtain ⟨y, a, b⟩ := h.at_ j x q
    exact ⟨y, by rw [List.getElem?_set_ne e]; exact a, b⟩
theorem En.drop {i : Nat} {o : Option V} (h : En K M H σ env) : En K M H (σ.set i o) (env.set i none) := by
  refine ⟨h.wd, by rw [List.length_set, List.length_set, h.len], fun j x q => ?_⟩
  by_cases e : i = j
  · subst e
    by_cases hi : i < env.length
    · rw [List.getElem?_set_self hi] at q
      cases q
    · rw [List.getElem?_eq_none (by rw [List.length_set]; omega)] at q
      cases q
  · rw [List.getElem?_set_ne e] at q
    obtain ⟨y, a, b⟩ := h.at_ j x q
    exact ⟨y, by rw [List.getElem?_set_ne e]; exact a, b⟩
def Le : DEnv → DEnv → Prop
  | [], [] => True
  | a :: r, b :: s => (b = none ∨ a = b) ∧ Le r s
  | _, _ => False
theorem Le.refl : ∀ e : DEnv, Le e e
  | [] => trivial
  | _ :: r => ⟨.inr rfl, Le.refl r⟩
theorem Le.len : ∀ {a b : DEnv}, Le a b → a.length = b.length
  | [], [], _ => rfl
  | [], _ :: _, h => False.elim h
  | _ :: _, [], h => False.elim h
  | _ :: _, _ :: _, h => by rw [List.length_cons, List.length_cons, Le.len h.2]
theorem Le.get : ∀ {a b : DEnv}, Le a b → ∀ (i : Nat) d, b[i]? = some (some d) → a[i]? = some (some d)
  | [], [], _, i, d, e => by simp at e
  | [], _ :: _, h, _, _, _ => False.elim h
  | _ :: _, [], h, _, _, _ => False.elim h
  | x :: _, y :: _, h, 0, d, e => by
    simp at e
    rcases h.1 with z | z
    · rw [e] at z; cases z
    · rw [z, e] <;> rfl
  | x :: _, y :: _, h, i + 1, d, e => by
    have := Le.get h.2 i d (by simpa using e)
    simpa using this
theorem En.le {env' : DEnv} (h : En K M H σ env) (l : Le env env') : En K M H σ env' := ⟨h.wd, h.len.trans l.len, fun i d q => h.at_ i d (l.get i d q)⟩
end
def env0 (N : List Str) (ds : List D) : DEnv := ds.map some ++ List.replicate (N.length - ds.length) none
theorem en_start {K : PySem.W.Frag} {M : Mu} {H : Hp} {N : List Str} {ds : List D} {vs : List V} (w : Wd M H) (r : Reps K M H ds vs) : En K M H (L2.start N vs) (env0 N ds) := by
  refine ⟨w, by unfold L2.start env0; rw [List.length_append, List.length_append, List.length_map, List.length_map, List.length_replicate, List.length_replicate, r.length], fun i d q => ?_⟩
  unfold env0 at q
  unfold L2.start
  by_cases hi : i < ds.length
  · rw [List.getElem?_append_left (by rw [List.length_map]; exact hi), List.getElem?_map] at q
    cases e : ds[i]? with
    | none => rw [e] at q; cases q
    | some x =>
      rw [e] at q
      have ex : x = d := by simpa using q
      subst ex
      obtain ⟨v, h1, h2⟩ := r.get e
      exact ⟨v, by rw [List.getElem?_append_left (by rw [List.length_map, r.length]; exact hi), List.getElem?_map, h1]; rfl, h2⟩
  · rw [List.getElem?_append_right (by rw [List.length_map]; omega), List.getElem?_replicate] at q
    split at q <;> cases q
def We (X : Cx) (e : Expr) : TE := fun σ H Q => ∃ t, PE X e t ∧ t σ H Q
def Wt (X : Cx) (e : Expr) : TT := fun σ H Q => ∃ t, PT X e t ∧ t σ H Q
def Ww (X : Cx) (e : Expr) : TT := fun σ H Q => ∃ t, PW X e t ∧ t σ H Q
def Wa (X : Cx) (es : List Expr) : TA := fun σ H Q => ∃ t, PA X es t ∧ t σ H Q
def Ws (X : Cx) (st : Stmt) : TS := fun D σ H => ∃ t, PS X st t ∧ t D σ H
def Wss (X : Cx) (st : List Stmt) : TS := fun D σ H => ∃ t, PSs X st t ∧ t D σ H
def Wg (X : Cx) (tg : Expr) : TG := fun v σ H Q => ∃ t, PG X tg t ∧ t v σ H Q
def Wgs (X : Cx) (tg : List Expr) : TGs := fun v σ H Q => ∃ t, PGs X tg t ∧ t v σ H Q
def Wi (X : Cx) (tg iter : Expr) : TI := fun σ H R => ∃ t, PI X tg iter t ∧ t σ H R
section
variable {X : Cx} {e tg iter : Expr} {es : List Expr} {st : Stmt} {sts : List Stmt}
theorem we : PE X e (We X e) := ⟨fun pins s σ H Q I ⟨_, h, q⟩ => h.run pins s σ H Q I q⟩
theorem wt : PT X e (Wt X e) := ⟨fun pins s σ H Q I ⟨_, h, q⟩ => h.run pins s σ H Q I q⟩
theorem ww : PW X e (Ww X e) := ⟨fun wh pins s σ H Q I ⟨_, h, q⟩ => h.run wh pins s σ H Q I q⟩
theorem wa : PA X es (Wa X es) := ⟨fun pos pins s σ H Q I ⟨_, h, q⟩ => h.run pos pins s σ H Q I q⟩
theorem ws : PS X st (Ws X st) := ⟨fun pins s σ H D I ⟨_, h, q⟩ => h.run pins s σ H D I q⟩
theorem wss : PSs X sts (Wss X sts) := ⟨fun pins s σ H D I ⟨_, h, q⟩ => h.run pins s σ H D I q⟩
theorem wg : PG X tg (Wg X tg) := ⟨fun pins s σ H v u Q I r ⟨_, h, q⟩ => h.run pins s σ H v u Q I r q⟩
theorem wgs : PGs X es (Wgs X es) := ⟨fun pins s σ H v u Q I r ⟨_, h, q⟩ => h.run pins s σ H v u Q I r q⟩
theorem wi : PI X tg iter (Wi X tg iter) := ⟨fun pins s σ H R I ⟨_, h, q⟩ => h.run pins s σ H R I q⟩
end
section
variable (X : Cx) (M : Mu)
def PD (e : Expr) (env : DEnv) (d : D) : Prop := ∀ σ H, En X.K M H σ env → ∀ Q : VK, (∀ v H', Same H H' → Rep X.K M H' d v → Q v H') → We X e σ H Q
def PL (e : Expr) (env : DEnv) (ds : List D) : Prop := ∀ σ H, En X.K M H σ env → ∀ Q : VK, (∀ p vs H', H p = none → Same H H' → H' p = some (.lst vs) → Reps X.K M H' ds vs → Q (.ref p) H') → We X e σ H Q
def PTD (e : Expr) (env : DEnv) (b : Bool) : Prop := ∀ σ H, En X.K M H σ env → ∀ Q : Bool → Hp → Prop, (∀ H', Same H H' → Q b H') → Wt X e σ H Q
def PWD (e : Expr) (env : DEnv) (b : Bool) : Prop := ∀ σ H, En X.K M H σ env → ∀ Q : Bool → Hp → Prop, (∀ H', Same H H' → Q b H') → Ww X e σ H Q
def PAD (es : List Expr) (env : DEnv) (ds : List D) : Prop := ∀ σ H, En X.K M H σ env → ∀ Q : List V → Hp → Prop, (∀ vs H', Same H H' → Reps X.K M H' ds vs → Q vs H') → Wa X es σ H Q
def GD (tg : Expr) (d : D) (env env' : DEnv) : Prop := ∀ σ H v, En X.K M H σ env → Rep X.K M H d v → ∀ Q : L2.St → Hp → Prop, (∀ σ', En X.K M H σ' env' → Q σ' H) → Wg X tg v σ H Q
def GDs (tg : List Expr) (ds : List D) (env env' : DEnv) : Prop := ∀ σ H vs, En X.K M H σ env → Reps X.K M H ds vs → ∀ Q : L2.St → Hp → Prop, (∀ σ', En X.K M H σ' env' → Q σ' H) → Wgs X tg vs σ H Q
inductive Out where
  | nx (env : DEnv) | rt (d : D)
def Oks (o : Out) (K : PySem.W.Frag) (H0 : Hp) (D : Ends) : Prop := match o with
  | .nx env => ∀ σ H, Same H0 H → En K M H σ env → D.nx σ H
  | .rt d => ∀ v H, Same H0 H → Rep K M H d v → D.rt v H
def SD (sts : List Stmt) (env : DEnv) (o : Out) : Prop := ∀ D σ H, En X.K M H σ env → Oks M o X.K H D → Wss X sts D σ H
def S1 (st : Stmt) (env : DEnv) (o : Out) : Prop := ∀ D σ H, En X.K M H σ env → Oks M o X.K H D → Ws X st D σ H
end
theorem Oks.same {M : Mu} {o : Out} {K : PySem.W.Frag} {H H' : Hp} {D : Ends} (h : Oks M o K H D) (e : Same H H') : Oks M o K H' D := by
  cases o with
  | nx env => exact fun σ H1 e1 q => h σ H1 (e.trans e1) q
  | rt d => exact fun v H1 e1 q => h v H1 (e.trans e1) q
section
variable {X : Cx} {M : Mu} {env env' : DEnv} {a b c e o : Expr} {es : List Expr} {pos p p2 : Pos} {d d1 d2 : D} {i j : Int} {ds : List D}
theorem pd_var (n : Nat) {x : Str} (hN : X.N[n]? = some x := by rfl) (hv : Vis X.env.scope x := by first | exact Or.inl rfl | exact Or.inr (Or.inl rfl) | exact Or.inr (Or.inr rfl)) (h : env[n]? = some (some d) := by rfl) (hd : (x == ("__debug__" : Str)) = false := by decide)
    (hcd : (x == ("__classdict__" : Str)) = false := by decide) : PD X M (.Name x pos) env d := fun σ H hE Q q => by
  obtain ⟨v, h1, h2⟩ := hE.at_ n d h
  exact ⟨_, pe_var hN hv hd hcd, v, h1, q v H (Same.refl H) h2⟩
theorem pd_int {j : Nat} : PD X M (.Constant (.int i) j pos) env (.int i) := fun σ H hE Q q => ⟨_, pe_int, q _ H (Same.refl H) rfl⟩
theorem pd_bl {k : Bool} {j : Nat} : PD X M (.Constant (.bool k) j pos) env (.bl k) := fun σ H hE Q q => ⟨_, pe_bl, q _ H (Same.refl H) rfl⟩
theorem pd_non {j : Nat} : PD X M (.Constant .none j pos) env .non := fun σ H hE Q q => ⟨_, pe_non, q _ H (Same.refl H) rfl⟩
theorem pd_glob {x : Str} {T : Addr} {vs : List V} (hg : Gl X x) (hm : X.mg x = some (.ref T)) (ht : ∀ H, SqT X.K H T vs) (hr : ∀ H, Reps X.K M H ds vs) (hd : (x == ("__debug__" : Str)) = false := by decide) : PD X M (.Name x pos) env (.tup ds) :=
  fun σ H hE Q q => ⟨_, pe_glob (v := .ref T) hg hm rfl hd, q _ H (Same.refl H) ⟨T, vs, rfl, ht H, hr H⟩⟩
theorem PD.of (h : PD X M e env d1) (q : d1 = d) : PD X M e env d := q ▸ h
theorem PTD.of {k k' : Bool} (h : PTD X M e env k) (q : k = k') : PTD X M e env k' := q ▸ h
theorem pd_op {op : Operator} {C : Int → Int → Prop} {g : Int → Int → Int} (ho : OpR X (binaryOp op) (rI C fun i j => .int (g i j))) (ha : PD X M a env (.int i)) (hb : PD X M b env (.int j)) (hc : C i j) : PD X M (.BinOp a op b pos) env (.int (g i j)) :=
  fun σ H hE Q q => ⟨_, pe_op ho we we, ha σ H hE _ fun v1 H1 e1 r1 => hb σ H1 (hE.same e1) _ fun v2 H2 e2 r2 => ⟨i, j, r1, r2, hc, q _ H2 (e1.trans e2) rfl⟩⟩
theorem pd_op0 {op : Operator} {g : Int → Int → Int} (ho : OpR X (binaryOp op) (rI0 fun i j => .int (g i j))) (ha : PD X M a env (.int i)) (hb : PD X M b env (.int j)) : PD X M (.BinOp a op b pos) env (.int (g i j)) :=
  fun σ H hE Q q => ⟨_, pe_op ho we we, ha σ H hE _ fun v1 H1 e1 r1 => hb σ H1 (hE.same e1) _ fun v2 H2 e2 r2 => ⟨i, j, r1, r2, q _ H2 (e1.trans e2) rfl⟩⟩
theorem pd_add (ha : PD X M a env (.int i)) (hb : PD X M b env (.int j)) : PD X M (.BinOp a .Add b pos) env (.int (i + j)) := pd_op0 (g := fun i j => i + j) op_add ha hb
theorem pd_sub (ha : PD X M a env (.int i)) (hb : PD X M b env (.int j)) : PD X M (.BinOp a .Sub b pos) env (.int (i - j)) := pd_op0 (g := fun i j => i - j) op_sub ha hb
theorem pd_mulW (ha : PD X M a env (.int i)) (hb : PD X M b env (.int j)) (hc : CMulW i j) : PD X M (.BinOp a .Mult b pos) env (.int (i * j)) := pd_op (g := fun i j => i * j) op_mulW ha hb hc
theorem pd_fdivW (ha : PD X M a env (.int i)) (hb : PD X M b env (.int j)) (hc : CDivW i j) : PD X M (.BinOp a .FloorDiv b pos) env (.int (i / j)) := pd_op (g := fun i j => i / j) op_fdivW ha hb hc
theorem pd_modN (ha : PD X M a env (.int i)) (hb : PD X M b env (.int j)) (hc : j ≠ 0) : PD X M (.BinOp a .Mod b pos) env (.int (i.fmod j)) := pd_op (g := fun i j => i.fmod j) op_modN ha hb hc
theorem pd_pow (ha : PD X M a env (.int i)) (hb : PD X M b env (.int j)) (hc : CPow i j) : PD X M (.BinOp a .Pow b pos) env (.int (i ^ j.toNat)) := pd_op (g := fun i j => i ^ j.toNat) op_pow ha hb hc
def CDivNW (_ j : Int) : Prop := j ≠ 0 ∧ j.natAbs.log2 < 9000
theorem op_fdivNW : OpR X (binaryOp .FloorDiv) (rI CDivNW fun i j => .int (i.fdiv j)) := opI fun i j _ _ _ _ _ hc q => floordiv_int hc.1 q (.inl (PyProof.noPylong_of_log2 hc.2))
theorem pd_fdivNW (ha : PD X M a env (.int i)) (hb : PD X M b env (.int j)) (hc : CDivNW i j) : PD X M (.BinOp a .FloorDiv b pos) env (.int (i.fdiv j)) := pd_op (g := fun i j => i.fdiv j) op_fdivNW ha hb hc
theorem pd_neg (ha : PD X M a env (.int i)) : PD X M (.UnaryOp .USub a pos) env (.int (-i)) := fun σ H hE Q q => ⟨_, pe_un un_neg we, ha σ H hE _ fun v1 H1 e1 r1 => ⟨i, r1, q _ H1 e1 rfl⟩⟩
theorem pd_cmpI {op : CmpOp} {g : Int → Int → Bool} (ho : OpR X (compareOp op) (rI0 fun i j => .bl (g i j))) (ha : PD X M a env (.int i)) (hb : PD X M b env (.int j)) (hm : behindInMarks op b = false) : PD X M (.Compare a [op] [b] pos) env (.bl (g i j)) :=
  fun σ H hE Q q => ⟨_, pe_cmpR ho we we hm, ha σ H hE _ fun v1 H1 e1 r1 => hb σ H1 (hE.same e1) _ fun v2 H2 e2 r2 => ⟨i, j, r1, r2, q _ H2 (e1.trans e2) rfl⟩⟩
theorem pd_lt (ha : PD X M a env (.int i)) (hb : PD X M b env (.int j)) : PD X M (.Compare a [.Lt] [b] pos) env (.bl (decide (i < j))) := pd_cmpI (g := fun i j => decide (i < j)) op_lt ha hb (nomark _)
theorem pd_le (ha : PD X M a env (.int i)) (hb : PD X M b env (.int j)) : PD X M (.Compare a [.LtE] [b] pos) env (.bl (decide (i ≤ j))) := pd_cmpI (g := fun i j => decide (i ≤ j)) op_le ha hb (nomark _)
theorem pd_gt (ha : PD X M a env (.int i)) (hb : PD X M b env (.int j)) : PD X M (.Compare a [.Gt] [b] pos) env (.bl (decide (j < i))) := pd_cmpI (g := fun i j => decide (j < i)) op_gt ha hb (nomark _)
theorem pd_ge (ha : PD X M a env (.int i)) (hb : PD X M b env (.int j)) : PD X M (.Compare a [.GtE] [b] pos) env (.bl (decide (j ≤ i))) := pd_cmpI (g := fun i j => decide (j ≤ i)) op_ge ha hb (nomark _)
theorem pd_eqI (ha : PD X M a env (.int i)) (hb : PD X M b env (.int j)) : PD X M (.Compare a [.Eq] [b] pos) env (.bl (decide (i = j))) :=
  fun σ H hE Q q => ⟨_, pe_cmpR op_eq we we (nomark _), ha σ H hE _ fun v1 H1 e1 r1 => hb σ H1 (hE.same e1) _ fun v2 H2 e2 r2 => by
    have r1' : v1 = .int i := r1
    have r2' : v2 = .int j := r2
    subst r1' r2'
    refine ⟨rfl, ?_⟩
    rw [dec_int]
    exact q _ H2 (e1.trans e2) rfl⟩
theorem pd_neI (ha : PD X M a env (.int i)) (hb : PD X M b env (.int j)) : PD X M (.Compare a [.NotEq] [b] pos) env (.bl (!decide (i = j))) :=
  fun σ H hE Q q => ⟨_, pe_cmpR op_ne we we (nomark _), ha σ H hE _ fun v1 H1 e1 r1 => hb σ H1 (hE.same e1) _ fun v2 H2 e2 r2 => by
    have r1' : v1 = .int i := r1
    have r2' : v2 = .int j := r2
    subst r1' r2'
    refine ⟨rfl, ?_⟩
    rw [dec_int]
    exact q _ H2 (e1.trans e2) rfl⟩
def isNon : D → Bool
  | .non => true
  | _ => false
theorem rep_non {K : PySem.W.Frag} {H : Hp} {v : V} (r : Rep K M H d v) : decide (v = .non) = isNon d := by
  cases d with
  | non => rw [show v = .non from r] <;> rfl
  | bl b => rw [show v = .bl b from r] <;> rfl
  | int i => rw [show v = .int i from r] <;> rfl
  | tup ds => obtain ⟨x, vs, rfl, _⟩ := r; rfl
  | lst ds => obtain ⟨x, vs, rfl, _⟩ := r; rfl
theorem pd_isN (ha : PD X M a env d) {k : Nat} : PD X M (.Compare a [.Is] [.Constant .none k p] pos) env (.bl (isNon d)) :=
  fun σ H hE Q q => ⟨_, pe_cmp (pc_isN we) rfl, ha σ H hE _ fun v1 H1 e1 r1 => by
    rw [rep_non r1]
    exact q _ H1 e1 rfl⟩
theorem pd_notN (ha : PD X M a env d) {k : Nat} : PD X M (.Compare a [.IsNot] [.Constant .none k p] pos) env (.bl (!isNon d)) :=
  fun σ H hE Q q => ⟨_, pe_cmp (pc_notN we) rfl, ha σ H hE _ fun v1 H1 e1 r1 => by
    show Q (.bl (!decide (v1 = .non))) H1
    rw [rep_non r1]
    exact q _ H1 e1 rfl⟩
theorem pd_chain {op op' : CmpOp} {g g' : Int → Int → Bool} {k : Int} (ho : OpR X (compareOp op) (rI0 fun i j => .bl (g i j))) (ho' : OpR X (compareOp op') (rI0 fun i j => .bl (g' i j)))
    (ha : PD X M a env (.int i)) (hb : PD X M b env (.int j)) (hc : PD X M c env (.int k)) (m1 : lastMarks [op, op'] [b, c] = false := by with_unfolding_all rfl) : PD X M (.Compare a [op, op'] [b, c] pos) env (.bl (g i j && g' j k)) :=
  fun σ H hE Q q => ⟨_, pe_chain ho ho' we we we m1, ha σ H hE _ fun v1 H1 e1 r1 => hb σ H1 (hE.same e1) _ fun v2 H2 e2 r2 => ⟨i, j, r1, r2, g i j, rfl, by
    cases h : g i j with
    | false =>
      rw [h] at q
      exact q _ H2 (e1.trans e2) rfl
    | true =>
      rw [h] at q
      exact hc σ H2 (hE.same (e1.trans e2)) _ fun v3 H3 e3 r3 => ⟨j, k, r2, r3, q _ H3 ((e1.trans e2).trans e3) rfl⟩⟩⟩
end
end Wk
end
section
set_option Elab.async false
set_option linter.all false
set_option maxRecDepth 100000
set_option maxHeartbeats 4000000
namespace Wk
open PySem PySem.Spec PyProof.Rows L2
section
variable {X : Cx} {M : Mu} {env env' : DEnv} {a b c e o : Expr} {es : List Expr} {pos p p2 : Pos} {d d1 d2 : D} {i j : Int} {ds : List D} {rest : List Expr}
theorem pd_one {op} (h : PD X M a env d) : PD X M (.BoolOp op [a] pos) env d := fun σ H hE Q q => ⟨_, pe_one we, h σ H hE Q q⟩
theorem pd_and {x y : Bool} (ha : PD X M a env (.bl x)) (hb : x = true → PD X M (.BoolOp .And (b :: rest) pos) env (.bl y)) : PD X M (.BoolOp .And (a :: b :: rest) pos) env (.bl (x && y)) :=
  fun σ H hE Q q => ⟨_, pe_and we we, ha σ H hE _ fun v1 H1 e1 r1 => ⟨x, r1, by
    cases x with
    | false => exact q _ H1 e1 rfl
    | true => exact hb rfl σ H1 (hE.same e1) _ fun v2 H2 e2 r2 => q v2 H2 (e1.trans e2) r2⟩⟩
theorem pd_or {x y : Bool} (ha : PD X M a env (.bl x)) (hb : x = false → PD X M (.BoolOp .Or (b :: rest) pos) env (.bl y)) : PD X M (.BoolOp .Or (a :: b :: rest) pos) env (.bl (x || y)) :=
  fun σ H hE Q q => ⟨_, pe_or we we, ha σ H hE _ fun v1 H1 e1 r1 => ⟨x, r1, by
    cases x with
    | true => exact q _ H1 e1 rfl
    | false => exact hb rfl σ H1 (hE.same e1) _ fun v2 H2 e2 r2 => q v2 H2 (e1.trans e2) r2⟩⟩
theorem pd_not {x : Bool} (ha : PD X M a env (.bl x)) : PD X M (.UnaryOp .Not a pos) env (.bl (!x)) := fun σ H hE Q q => ⟨_, pe_not we, ha σ H hE _ fun v1 H1 e1 r1 => ⟨x, r1, q _ H1 e1 rfl⟩⟩
theorem ptd_val {k : Bool} (h : PD X M e env (.bl k)) (he : ∀ whole, isTrue e X.env whole = (do let v ← whole; standAt e.pos; holding [v] (truthy v)) := by intro _; rfl) : PTD X M e env k :=
  fun σ H hE Q q => ⟨_, pt_val we he, h σ H hE _ fun v H1 e1 r1 => ⟨k, r1, q H1 e1⟩⟩
theorem pwd_and1 {x : Bool} (h : PTD X M a env x) : PWD X M (.BoolOp .And [a] pos) env x := fun σ H hE Q q => ⟨_, pw_and1 wt, h σ H hE Q q⟩
theorem pwd_or1 {x : Bool} (h : PTD X M a env x) : PWD X M (.BoolOp .Or [a] pos) env x := fun σ H hE Q q => ⟨_, pw_or1 wt, h σ H hE Q q⟩
theorem pwd_and {x y : Bool} (ha : PTD X M a env x) (hb : x = true → PWD X M (.BoolOp .And (b :: rest) pos) env y) : PWD X M (.BoolOp .And (a :: b :: rest) pos) env (x && y) :=
  fun σ H hE Q q => ⟨_, pw_and wt ww, ha σ H hE _ fun H1 e1 => by
    cases x with
    | false => exact q H1 e1
    | true => exact hb rfl σ H1 (hE.same e1) _ fun H2 e2 => q H2 (e1.trans e2)⟩
theorem pwd_or {x y : Bool} (ha : PTD X M a env x) (hb : x = false → PWD X M (.BoolOp .Or (b :: rest) pos) env y) : PWD X M (.BoolOp .Or (a :: b :: rest) pos) env (x || y) :=
  fun σ H hE Q q => ⟨_, pw_or wt ww, ha σ H hE _ fun H1 e1 => by
    cases x with
    | true => exact q H1 e1
    | false => exact hb rfl σ H1 (hE.same e1) _ fun H2 e2 => q H2 (e1.trans e2)⟩
theorem ptd_w {k : Bool} (h : PWD X M e env k) : PTD X M e env k := fun σ H hE Q q => ⟨_, PW.pt ww, h σ H hE Q q⟩
theorem ptd_not {k : Bool} (h : PTD X M a env k) : PTD X M (.UnaryOp .Not a pos) env (!k) := fun σ H hE Q q => ⟨_, pt_not wt, h σ H hE _ fun H1 e1 => q H1 e1⟩
theorem pd_ifT {k : Bool} (hc : PTD X M c env k) (h1 : k = true → PD X M a env d) (h2 : k = false → PD X M b env d) : PD X M (.IfExp c a b pos) env d :=
  fun σ H hE Q q => ⟨_, pe_ifExp wt we we, hc σ H hE _ fun H1 e1 => by
    cases k with
    | true => exact h1 rfl σ H1 (hE.same e1) _ fun v H2 e2 r => q v H2 (e1.trans e2) r
    | false => exact h2 rfl σ H1 (hE.same e1) _ fun v H2 e2 r => q v H2 (e1.trans e2) r⟩
theorem Reps.atI {K : PySem.W.Frag} {H : Hp} {vs : List V} (r : Reps K M H ds vs) (h : L2.atI ds i = some d) : ∃ v, L2.atI vs i = some v ∧ Rep K M H d v := by
  unfold L2.atI at h ⊢
  rw [r.length]
  cases q : ixN ds.length i with
  | none => rw [q] at h; cases h
  | some k =>
    rw [q] at h
    exact r.get h
theorem pd_ixT (ha : PD X M a env (.tup ds)) (hb : PD X M b env (.int i)) (h : L2.atI ds i = some d := by rfl) (hs : PlainIx b := by exact fun _ _ => rfl) : PD X M (.Subscript a b pos) env d :=
  fun σ H hE Q q => ⟨_, pe_ix ix_tup we we hs, ha σ H hE _ fun v1 H1 e1 ⟨t, vs, r1, r2, r3⟩ => hb σ H1 (hE.same e1) _ fun v2 H2 e2 r4 => by
    have w1 := hE.wd.same e1
    obtain ⟨v, h1, h2⟩ := (reps_same w1 e2 r3).atI h
    exact ⟨t, vs, i, v, r1, r4, sqT_sm w1 (sm_of w1 e2) r2, h1, q v H2 (e1.trans e2) h2⟩⟩
theorem pd_ixL (ha : PD X M a env (.lst ds)) (hb : PD X M b env (.int i)) (h : L2.atI ds i = some d := by rfl) (hs : PlainIx b := by exact fun _ _ => rfl) : PD X M (.Subscript a b pos) env d :=
  fun σ H hE Q q => ⟨_, pe_ix ix_list we we hs, ha σ H hE _ fun v1 H1 e1 ⟨t, vs, r1, n, r2, r3⟩ => hb σ H1 (hE.same e1) _ fun v2 H2 e2 r4 => by
    have w1 := hE.wd.same e1
    obtain ⟨v, h1, h2⟩ := (reps_same w1 e2 r3).atI h
    exact ⟨t, vs, i, v, r1, r4, SqL.of (e2 t _ r2), h1, q v H2 (e1.trans e2) h2⟩⟩
def POD (X : Cx) (M : Mu) (x : Option Expr) (env : DEnv) (k : Option Int) : Prop := ∀ σ H, En X.K M H σ env → ∀ Q : Option Int → Hp → Prop, (∀ H', Same H H' → Q k H') → ∃ t, PO X x t ∧ t σ H Q
theorem pod_none : POD X M none env none := fun σ H hE Q q => ⟨_, po_none, q H (Same.refl H)⟩
theorem pod_some (h : PD X M a env (.int i)) : POD X M (some a) env (some i) := fun σ H hE Q q => ⟨_, po_some we, h σ H hE _ fun v H1 e1 r1 => ⟨i, r1, q H1 e1⟩⟩
def Wo (X : Cx) (x : Option Expr) : TO := fun σ H Q => ∃ t, PO X x t ∧ t σ H Q
theorem wo {x : Option Expr} : PO X x (Wo X x) := ⟨fun pins s σ H Q I ⟨_, h, q⟩ => h.run pins s σ H Q I q⟩
def cutD (ds : List D) (lo hi : Option Int) : List D := (ds.drop (HT.sIx ds.length 0 lo)).take (HT.sIx ds.length ds.length hi - HT.sIx ds.length 0 lo)
theorem Reps.cut {K : PySem.W.Frag} {H : Hp} {vs : List V} (lo hi : Option Int) (r : Reps K M H ds vs) : Reps K M H (cutD ds lo hi) (cutV vs lo hi) := by
  unfold cutD cutV
  rw [r.length]
  exact (r.drop _).take _
theorem pl_slL {lo hi : Option Expr} {l u : Option Int} (ha : PD X M a env (.lst ds)) (hl : POD X M lo env l) (hu : POD X M hi env u) : PL X M (.Subscript a (.Slice lo hi none p2) pos) env (cutD ds l u) :=
  fun σ H hE Q q => ⟨_, pe_slice sl_list we wo wo, ha σ H hE _ fun v1 H1 e1 ⟨t, vs, r1, n, r2, r3⟩ => hl σ H1 (hE.same e1) _ fun H2 e2 => hu σ H2 (hE.same (e1.trans e2)) _ fun H3 e3 => by
    have w3 := hE.wd.same ((e1.trans e2).trans e3)
    refine ⟨t, vs, r1, SqL.of (e3 t _ (e2 t _ r2)), fun p np => ?_⟩
    have s1 : Same H3 (upd H3 p (.lst (cutV vs l u))) := fun b o hb => by rw [upd_ne (ne_of_none hb np)]; exact hb
    exact q p (cutV vs l u) _ (((e1.trans e2).trans e3).free np) (((e1.trans e2).trans e3).trans s1) upd_same (reps_same w3 s1 (Reps.cut l u (reps_same (hE.wd.same e1) (e2.trans e3) r3)))⟩
theorem cut_whole {α : Type} (xs : List α) {n m : Nat} (h1 : n = 0) (h2 : m = xs.length) : (xs.drop n).take (m - n) = xs := by
  subst h1 h2
  simp
theorem pd_slT {lo hi : Option Expr} {l u : Option Int} (ha : PD X M a env (.tup ds)) (hl : POD X M lo env l) (hu : POD X M hi env u) : PD X M (.Subscript a (.Slice lo hi none p2) pos) env (.tup (cutD ds l u)) :=
  fun σ H hE Q q => ⟨_, pe_slice sl_tupA we wo wo, ha σ H hE _ fun v1 H1 e1 ⟨t, vs, r1, r2, r3⟩ => hl σ H1 (hE.same e1) _ fun H2 e2 => hu σ H2 (hE.same (e1.trans e2)) _ fun H3 e3 => by
    have w3 := hE.wd.same ((e1.trans e2).trans e3)
    have w1 := hE.wd.same e1
    have s13 := e2.trans e3
    have rc := Reps.cut l u (reps_same w1 s13 r3)
    have r2' := sqT_sm w1 (sm_of w1 s13) r2
    refine ⟨t, vs, r1, r2', fun hw => ?_, fun hw p np => ?_⟩
    · have ec : cutV vs l u = vs := cut_whole vs hw.1 hw.2
      rw [ec] at rc
      exact q _ H3 (e1.trans s13) ⟨t, vs, rfl, r2', rc⟩
    · have s1 : Same H3 (upd H3 p (.tup (cutV vs l u))) := fun b o hb => by rw [upd_ne (ne_of_none hb np)]; exact hb
      exact q _ _ ((e1.trans s13).trans s1) ⟨p, _, rfl, SqT.of upd_same, reps_same w3 s1 rc⟩⟩
theorem PL.pd (h : PL X M e env ds) : PD X M e env (.lst ds) := fun σ H hE Q q => h σ H hE _ fun p vs H1 np e1 h1 r => q _ H1 e1 ⟨p, vs, rfl, hE.wd.notM np, h1, r⟩
theorem PL.of {ds2 : List D} (h : PL X M e env ds) (q : ds = ds2) : PL X M e env ds2 := q ▸ h
theorem pad_nil : PAD X M [] env [] := fun σ H hE Q q => ⟨_, pa_nil, q _ H (Same.refl H) rfl⟩
theorem pad_cons (ha : PD X M a env d) (hr : PAD X M es env ds) (hs : starEach (a :: es) X.env = (false, eval a X.env) :: starEach es X.env := by rfl) : PAD X M (a :: es) env (d :: ds) :=
  fun σ H hE Q q => ⟨_, pa_cons we wa hs, ha σ H hE _ fun v1 H1 e1 r1 => hr σ H1 (hE.same e1) _ fun vs H2 e2 r2 => q _ H2 (e1.trans e2) ⟨v1, vs, rfl, rep_same (hE.wd.same e1) e2 r1, r2⟩⟩
theorem same_new {H : Hp} {p : Addr} {o : HO} (h : H p = none) : Same H (upd H p o) := fun b x e => by rw [upd_ne (ne_of_none e h)]; exact e
theorem sl_small {n : Nat} (h : n ≤ 1000) : n ≤ sizeLine := Nat.le_trans h (by decide)
theorem pd_tup {k : Nat} (h : PAD X M es env ds) (hl : ds.length ≤ 1000 := by simp) : PD X M (.Tuple es k pos) env (.tup ds) :=
  fun σ H hE Q q => ⟨_, pe_tup wa, h σ H hE _ fun vs H1 e1 r1 => ⟨by rw [r1.length]; exact sl_small hl, fun p np => q _ _ (e1.trans (same_new np)) ⟨p, vs, rfl, SqT.of upd_same, reps_same (hE.wd.same e1) (same_new np) r1⟩⟩⟩
theorem pl_lst (h : PAD X M es env ds) (hl : ds.length ≤ 1000 := by simp) : PL X M (.List es pos) env ds :=
  fun σ H hE Q q => ⟨_, pe_lst wa, h σ H hE _ fun vs H1 e1 r1 => ⟨by rw [r1.length]; exact sl_small hl, fun p np => q p vs _ (e1.free np) (e1.trans (same_new np)) upd_same (reps_same (hE.wd.same e1) (same_new np) r1)⟩⟩
theorem pl_cat {ds2 : List D} (ha : PD X M a env (.lst ds)) (hb : PD X M b env (.lst ds2)) (hl : ds.length + ds2.length ≤ 1000 := by simp) : PL X M (.BinOp a .Add b pos) env (ds ++ ds2) :=
  fun σ H hE Q q => ⟨_, pe_op op_cat we we, ha σ H hE _ fun v1 H1 e1 ⟨t, vs, r1, n, r2, r3⟩ => hb σ H1 (hE.same e1) _ fun v2 H2 e2 ⟨t2, vs2, r4, n2, r5, r6⟩ => by
    have w1 := hE.wd.same e1
    have r3' := reps_same w1 e2 r3
    refine ⟨t, t2, vs, vs2, r1, r4, e2 t _ r2, r5, by rw [r3.length, r6.length]; exact sl_small hl, fun p np => ?_⟩
    exact q p _ _ ((e1.trans e2).free np) ((e1.trans e2).trans (same_new np)) upd_same (reps_same (w1.same e2) (same_new np) (r3'.append r6))⟩
def spP (K : PySem.W.Frag) (R : List D → D → Prop) : Sp := fun vs H Q _ => ∃ M ds d, R ds d ∧ Wd M H ∧ Reps K M H ds vs ∧ ∀ v H', Same H H' → Rep K M H' d v → Q v H'
def spL (K : PySem.W.Frag) (R : List D → List D → Prop) : Sp := fun vs H Q _ => ∃ M ds ys, R ds ys ∧ Wd M H ∧ Reps K M H ds vs ∧ ∀ p ws H', H p = none → Same H H' → H' p = some (.lst ws) → Reps K M H' ys ws → Q (.ref p) H'
structure Cal (P : Program) (w : World) (K : PySem.W.Frag) (mg : Str → Option Value) (base : Heap) (x : Str) (k : Nat) (ps : List Str) (sp : Sp) : Prop where
  ex : ∃ f fd, FnOk P w K mg base CX0 k f fd ps sp ∧ mg x = some (.ref f) ∧ PySem.W.keepIn K (.ref f) = true ∧ Binds K fd ps []
theorem pd_call {x : Str} {k n : Nat} {ps : List Str} {R : List D → D → Prop} {a0 : Expr} (C : Cal X.prog X.w X.K X.mg X.base x k ps (spP X.K R)) (hr : Room n X.A) (ha : PAD X M (a0 :: es) env ds) (hR : R ds d) (hk : k ≤ n := by decide) (hg : Gl X x := by rfl)
    (hdb : (x == ("__debug__" : Str)) = false := by decide) (he : starEach (a0 :: es) X.env = (false, eval a0 X.env) :: starEach es X.env := by rfl) (hpl : (backTo pos (starEach es X.env)).any (·.1) = false := by rfl) : PD X M (.Call (.Name x p) (a0 :: es) [] pos) env d := fun σ H hE Q q => by
  obtain ⟨f, fd, F, m, kp, B⟩ := C.ex
  refine ⟨_, pe_call F (hr.mono hk) hg m kp B .nil pass0 wa hdb he hpl, ha σ H hE _ fun vs H1 e1 r1 => ?_⟩
  rw [List.append_nil]
  exact ⟨M, ds, d, hR, hE.wd.same e1, r1, fun v H2 e2 r2 => q v H2 (e1.trans e2) r2⟩
theorem pl_call {x : Str} {k n : Nat} {ps : List Str} {R : List D → List D → Prop} {a0 : Expr} {ys : List D} (C : Cal X.prog X.w X.K X.mg X.base x k ps (spL X.K R)) (hr : Room n X.A) (ha : PAD X M (a0 :: es) env ds) (hR : R ds ys) (hk : k ≤ n := by decide) (hg : Gl X x := by rfl)
    (hdb : (x == ("__debug__" : Str)) = false := by decide) (he : starEach (a0 :: es) X.env = (false, eval a0 X.env) :: starEach es X.env := by rfl) (hpl : (backTo pos (starEach es X.env)).any (·.1) = false := by rfl) : PL X M (.Call (.Name x p) (a0 :: es) [] pos) env ys := fun σ H hE Q q => by
  obtain ⟨f, fd, F, m, kp, B⟩ := C.ex
  refine ⟨_, pe_call F (hr.mono hk) hg m kp B .nil pass0 wa hdb he hpl, ha σ H hE _ fun vs H1 e1 r1 => ?_⟩
  rw [List.append_nil]
  exact ⟨M, ds, ys, hR, hE.wd.same e1, r1, fun p ws H2 np e2 h2 r2 => q p ws H2 (e1.free np) (e1.trans e2) h2 r2⟩
theorem pd_bltB {x : Str} {id : String} {r : List V → Hp → VK → Prop} {a0 : Expr} (hc : CallR X (.builtin id) r) (hm : X.mg x = none) (hv : bootBuiltins x = some (.builtin id)) (ha : PAD X M (a0 :: es) env ds)
    (hq : ∀ H vs, Wd M H → Reps X.K M H ds vs → ∀ Q : VK, (∀ v H', Same H H' → Rep X.K M H' d v → Q v H') → r vs H Q) (hg : Gl X x := by rfl) (hn : x ≠ "__name__" := by decide) (hdb : (x == ("__debug__" : Str)) = false := by decide)
    (he : starEach (a0 :: es) X.env = (false, eval a0 X.env) :: starEach es X.env := by rfl) (hpl : (backTo pos (starEach es X.env)).any (·.1) = false := by rfl) : PD X M (.Call (.Name x p) (a0 :: es) [] pos) env d := fun σ H hE Q q =>
  ⟨_, pe_callB hc hg hm hv wa hn hdb he hpl, ha σ H hE _ fun vs H1 e1 r1 => hq H1 vs (hE.wd.same e1) r1 Q fun v H2 e2 r2 => q v H2 (e1.trans e2) r2⟩
theorem pd_bltT {x : Str} {T : String} {r : List V → Hp → VK → Prop} {a0 : Expr} (hc : CallR X (.type T) r) (hm : X.mg x = none) (hv : bootBuiltins x = some (.type T)) (ha : PAD X M (a0 :: es) env ds)
    (hq : ∀ H vs, Wd M H → Reps X.K M H ds vs → ∀ Q : VK, (∀ v H', Same H H' → Rep X.K M H' d v → Q v H') → r vs H Q) (hg : Gl X x := by rfl) (hn : x ≠ "__name__" := by decide) (hdb : (x == ("__debug__" : Str)) = false := by decide)
    (he : starEach (a0 :: es) X.env = (false, eval a0 X.env) :: starEach es X.env := by rfl) (hpl : (backTo pos (starEach es X.env)).any (·.1) = false := by rfl) : PD X M (.Call (.Name x p) (a0 :: es) [] pos) env d := fun σ H hE Q q =>
  ⟨_, pe_callTy hc hg hm hv wa hn hdb he hpl, ha σ H hE _ fun vs H1 e1 r1 => hq H1 vs (hE.wd.same e1) r1 Q fun v H2 e2 r2 => q v H2 (e1.trans e2) r2⟩
theorem reps1 {K : PySem.W.Frag} {H : Hp} {vs : List V} (r : Reps K M H [d] vs) : ∃ v, vs = [v] ∧ Rep K M H d v := by
  obtain ⟨v, r2, e1, h1, h2⟩ := r
  have e : r2 = [] := h2
  subst e
  exact ⟨v, e1, h1⟩
theorem reps2 {K : PySem.W.Frag} {H : Hp} {vs : List V} (r : Reps K M H [d1, d2] vs) : ∃ v w, vs = [v, w] ∧ Rep K M H d1 v ∧ Rep K M H d2 w := by
  obtain ⟨v, r2, e1, h1, h2⟩ := r
  obtain ⟨w, e2, h3⟩ := reps1 h2
  subst e2
  exact ⟨v, w, e1, h1, h3⟩
theorem pd_abs {a0 : Expr} (hm : X.mg "abs" = none) (ha : PD X M a0 env (.int i)) (hg : Gl X "abs" := by rfl) (hs : starEach [a0] X.env = (false, eval a0 X.env) :: starEach [] X.env := by rfl) : PD X M (.Call (.Name "abs" p) [a0] [] pos) env (.int (if i < 0 then -i else i)) :=
  pd_bltB call_abs hm (by decide +kernel) (pad_cons ha pad_nil hs) (fun H vs w r Q q => by
    obtain ⟨v, rfl, r1⟩ := reps1 r
    exact ⟨i, by rw [show v = .int i from r1], q _ H (Same.refl H) rfl⟩) hg (by decide) (by decide) hs (by rfl)
theorem pd_int1 {a0 : Expr} (hm : X.mg "int" = none) (ha : PD X M a0 env (.int i)) (hg : Gl X "int" := by rfl) (hs : starEach [a0] X.env = (false, eval a0 X.env) :: starEach [] X.env := by rfl) : PD X M (.Call (.Name "int" p) [a0] [] pos) env (.int i) :=
  pd_bltT call_int1 hm (by decide +kernel) (pad_cons ha pad_nil hs) (fun H vs w r Q q => by
    obtain ⟨v, rfl, r1⟩ := reps1 r
    exact .inl ⟨i, by rw [show v = .int i from r1], q _ H (Same.refl H) rfl⟩) hg (by decide) (by decide) hs (by rfl)
theorem pd_intB {a0 : Expr} {k : Bool} (hm : X.mg "int" = none) (ha : PD X M a0 env (.bl k)) (hg : Gl X "int" := by rfl) (hs : starEach [a0] X.env = (false, eval a0 X.env) :: starEach [] X.env := by rfl) : PD X M (.Call (.Name "int" p) [a0] [] pos) env (.int (if k then 1 else 0)) :=
  pd_bltT call_int1 hm (by decide +kernel) (pad_cons ha pad_nil hs) (fun H vs w r Q q => by
    obtain ⟨v, rfl, r1⟩ := reps1 r
    exact .inr ⟨k, by rw [show v = .bl k from r1], q _ H (Same.refl H) rfl⟩) hg (by decide) (by decide) hs (by rfl)
theorem pd_max2 {a0 a1 : Expr} (hc : X.calm = true) (hm : X.mg "max" = none) (ha : PD X M a0 env (.int i)) (hb : PD X M a1 env (.int j)) (hg : Gl X "max" := by rfl) (hs : starEach [a0, a1] X.env = (false, eval a0 X.env) :: starEach [a1] X.env := by rfl)
    (hs1 : starEach [a1] X.env = (false, eval a1 X.env) :: starEach [] X.env := by rfl) (hpl : (backTo pos (starEach [a1] X.env)).any (·.1) = false := by rfl) : PD X M (.Call (.Name "max" p) [a0, a1] [] pos) env (.int (if j > i then j else i)) :=
  pd_bltB (call_max2 hc) hm (by decide +kernel) (pad_cons ha (pad_cons hb pad_nil hs1) hs) (fun H vs w r Q q => by
    obtain ⟨v, v2, rfl, r1, r2⟩ := reps2 r
    exact ⟨i, j, by rw [show v = .int i from r1, show v2 = .int j from r2], q _ H (Same.refl H) rfl⟩) hg (by decide) (by decide) hs hpl
theorem pd_min2 {a0 a1 : Expr} (hc : X.calm = true) (hm : X.mg "min" = none) (ha : PD X M a0 env (.int i)) (hb : PD X M a1 env (.int j)) (hg : Gl X "min" := by rfl) (hs : starEach [a0, a1] X.env = (false, eval a0 X.env) :: starEach [a1] X.env := by rfl)
    (hs1 : starEach [a1] X.env = (false, eval a1 X.env) :: starEach [] X.env := by rfl) (hpl : (backTo pos (starEach [a1] X.env)).any (·.1) = false := by rfl) : PD X M (.Call (.Name "min" p) [a0, a1] [] pos) env (.int (if j < i then j else i)) :=
  pd_bltB (call_min2 hc) hm (by decide +kernel) (pad_cons ha (pad_cons hb pad_nil hs1) hs) (fun H vs w r Q q => by
    obtain ⟨v, v2, rfl, r1, r2⟩ := reps2 r
    exact ⟨i, j, by rw [show v = .int i from r1, show v2 = .int j from r2], q _ H (Same.refl H) rfl⟩) hg (by decide) (by decide) hs hpl
theorem pd_lenL {a0 : Expr} (hm : X.mg "len" = none) (ha : PD X M a0 env (.lst ds)) (hg : Gl X "len" := by rfl) (hs : starEach [a0] X.env = (false, eval a0 X.env) :: starEach [] X.env := by rfl) : PD X M (.Call (.Name "len" p) [a0] [] pos) env (.int (ds.length : Int)) :=
  pd_bltB call_len_seq hm (by decide +kernel) (pad_cons ha pad_nil hs) (fun H vs w r Q q => by
    obtain ⟨v, rfl, t, us, r1, n, r2, r3⟩ := reps1 r
    exact ⟨t, us, by rw [r1], .inl (SqL.of r2), by rw [r3.length]; exact q _ H (Same.refl H) rfl⟩) hg (by decide) (by decide) hs (by rfl)
theorem pd_lenT {a0 : Expr} (hm : X.mg "len" = none) (ha : PD X M a0 env (.tup ds)) (hg : Gl X "len" := by rfl) (hs : starEach [a0] X.env = (false, eval a0 X.env) :: starEach [] X.env := by rfl) : PD X M (.Call (.Name "len" p) [a0] [] pos) env (.int (ds.length : Int)) :=
  pd_bltB call_len_seq hm (by decide +kernel) (pad_cons ha pad_nil hs) (fun H vs w r Q q => by
    obtain ⟨v, rfl, t, us, r1, r2, r3⟩ := reps1 r
    exact ⟨t, us, by rw [r1], .inr r2, by rw [r3.length]; exact q _ H (Same.refl H) rfl⟩) hg (by decide) (by decide) hs (by rfl)
theorem pd_tupL {a0 : Expr} (hm : X.mg "tuple" = none) (ha : PD X M a0 env (.lst ds)) (hg : Gl X "tuple" := by rfl) (hs : starEach [a0] X.env = (false, eval a0 X.env) :: starEach [] X.env := by rfl) : PD X M (.Call (.Name "tuple" p) [a0] [] pos) env (.tup ds) :=
  pd_bltT call_tuple_of hm (by decide +kernel) (pad_cons ha pad_nil hs) (fun H vs w r Q q => by
    obtain ⟨v, rfl, t, us, r1, n, r2, r3⟩ := reps1 r
    exact ⟨t, us, by rw [r1], .inl ⟨SqL.of r2, fun l nl => q _ _ (same_new nl) ⟨l, us, rfl, SqT.of upd_same, reps_same w (same_new nl) r3⟩⟩⟩) hg (by decide) (by decide) hs (by rfl)
theorem pl_listT {a0 : Expr} (hm : X.mg "list" = none) (ha : PD X M a0 env (.tup ds)) (hg : Gl X "list" := by rfl) (hs : starEach [a0] X.env = (false, eval a0 X.env) :: starEach [] X.env := by rfl) : PL X M (.Call (.Name "list" p) [a0] [] pos) env ds := fun σ H hE Q q =>
  ⟨_, pe_callTy call_list_of hg hm (by decide +kernel) wa (by decide) (by decide) hs (by rfl), pad_cons ha pad_nil hs σ H hE _ fun vs H1 e1 r => by
    obtain ⟨v, rfl, t, us, r1, r2, r3⟩ := reps1 r
    have w1 := hE.wd.same e1
    exact ⟨t, us, by rw [r1], .inr r2, fun l nl => q l us _ (e1.free nl) (e1.trans (same_new nl)) upd_same (reps_same w1 (same_new nl) r3)⟩⟩
theorem reps_bls {K : PySem.W.Frag} {H : Hp} : ∀ {bs : List Bool} {vs : List V}, Reps K M H (bs.map D.bl) vs → vs = bs.map V.bl
  | [], _, h => h
  | _ :: _, _, ⟨v, r, e1, h1, h2⟩ => by
    have e : v = .bl _ := h1
    rw [e1, e, reps_bls h2] <;> rfl
theorem pd_all {a0 : Expr} {bs : List Bool} (hc : X.calm = true) (hm : X.mg "all" = none) (ha : PD X M a0 env (.lst (bs.map D.bl))) (hg : Gl X "all" := by rfl) (hs : starEach [a0] X.env = (false, eval a0 X.env) :: starEach [] X.env := by rfl) : PD X M (.Call (.Name "all" p) [a0] [] pos) env (.bl (bs.all id)) :=
  pd_bltB (cr_all hc) hm (by decide +kernel) (pad_cons ha pad_nil hs) (fun H vs w r Q q => by
    obtain ⟨v, rfl, t, us, r1, n, r2, r3⟩ := reps1 r
    have eu := reps_bls r3
    subst eu
    exact ⟨t, bs, by rw [r1], SqL.of r2, q _ H (Same.refl H) rfl⟩) hg (by decide) (by decide) hs (by rfl)
theorem pd_gcd {a0 a1 : Expr} {x : Str} (hm : X.mg x = some (.builtin "math.gcd")) (ha : PD X M a0 env (.int i)) (hb : PD X M a1 env (.int j)) (hg : Gl X x := by rfl) (hdb : (x == ("__debug__" : Str)) = false := by decide) (hs : starEach [a0, a1] X.env = (false, eval a0 X.env) :: starEach [a1] X.env := by rfl)
    (hs1 : starEach [a1] X.env = (false, eval a1 X.env) :: starEach [] X.env := by rfl) (hpl : (backTo pos (starEach [a1] X.env)).any (·.1) = false := by rfl) : PD X M (.Call (.Name x p) [a0, a1] [] pos) env (.int ((Nat.gcd i.natAbs j.natAbs : Nat) : Int)) := fun σ H hE Q q =>
  ⟨_, pe_callBfun cr_gcd hg hm wa hdb hs hpl, pad_cons ha (pad_cons hb pad_nil hs1) hs σ H hE _ fun vs H1 e1 r => by
    obtain ⟨v, v2, rfl, r1, r2⟩ := reps2 r
    exact ⟨i, j, by rw [show v = .int i from r1, show v2 = .int j from r2], q _ H1 e1 rfl⟩⟩
mutual
def pyD : D → PyData
  | .non => .none
  | .bl b => .bool b
  | .int i => .int i
  | .tup ds => .tuple (pyDs ds)
  | .lst ds => .list (pyDs ds)
def pyDs : List D → List PyData
  | [] => []
  | d :: ds => pyD d :: pyDs ds
end
mutual
theorem rep_dp {K : PySem.W.Frag} {H : Hp} : ∀ {d : D} {v : V}, Rep K M H d v → Dp K H v (pyD d)
  | .non, _, h => by
    rw [show _ = V.non from h]
    exact Dp.non
  | .bl b, _, h => by
    rw [show _ = V.bl b from h]
    exact Dp.bl b
  | .int i, _, h => by
    rw [show _ = V.int i from h]
    exact Dp.int i
  | .tup ds, _, ⟨a, vs, e1, h1, h2⟩ => by
    rw [e1]
    exact Dp.tup h1 (reps_dp h2)
  | .lst ds, _, ⟨a, vs, e1, n, h1, h2⟩ => by
    rw [e1]
    exact Dp.lst (SqL.of h1) (reps_dp h2)
theorem reps_dp {K : PySem.W.Frag} {H : Hp} : ∀ {ds : List D} {vs : List V}, Reps K M H ds vs → DpAll K H vs (pyDs ds)
  | [], _, h => by
    rw [show _ = [] from h]
    exact DpAll.nil
  | _ :: _, _, ⟨v, r, e1, h1, h2⟩ => by
    rw [e1]
    exact DpAll.cons (rep_dp h1) (reps_dp h2)
end
theorem pd_eqD {n : Nat} (hr : Room n X.A) (ha : PD X M a env d1) (hb : PD X M b env d2) (s1 : SeqAt.shaped (pyD d1) = true) (s2 : SeqAt.shaped (pyD d2) = true) : PD X M (.Compare a [.Eq] [b] pos) env (.bl (PyData.eqv (pyD d1) (pyD d2))) := fun σ H hE Q q =>
  ⟨_, pe_cmpR (op_eqD hr.units) we we (nomark _), ha σ H hE _ fun v1 H1 e1 r1 => hb σ H1 (hE.same e1) _ fun v2 H2 e2 r2 => ⟨pyD d1, pyD d2, rep_dp (rep_same (hE.wd.same e1) e2 r1), rep_dp r2, s1, s2, q _ H2 (e1.trans e2) rfl⟩⟩
theorem pd_neD {n : Nat} (hr : Room n X.A) (ha : PD X M a env d1) (hb : PD X M b env d2) (s1 : SeqAt.shaped (pyD d1) = true) (s2 : SeqAt.shaped (pyD d2) = true) : PD X M (.Compare a [.NotEq] [b] pos) env (.bl (!PyData.eqv (pyD d1) (pyD d2))) := fun σ H hE Q q =>
  ⟨_, pe_cmpR (op_neD hr.units) we we (nomark _), ha σ H hE _ fun v1 H1 e1 r1 => hb σ H1 (hE.same e1) _ fun v2 H2 e2 r2 => ⟨pyD d1, pyD d2, rep_dp (rep_same (hE.wd.same e1) e2 r1), rep_dp r2, s1, s2, q _ H2 (e1.trans e2) rfl⟩⟩
theorem pd_eqB {x y : Bool} (ha : PD X M a env (.bl x)) (hb : PD X M b env (.bl y)) : PD X M (.Compare a [.Eq] [b] pos) env (.bl (x == y)) :=
  fun σ H hE Q q => ⟨_, pe_cmpR op_eq we we (nomark _), ha σ H hE _ fun v1 H1 e1 r1 => hb σ H1 (hE.same e1) _ fun v2 H2 e2 r2 => by
    have r1' : v1 = .bl x := r1
    have r2' : v2 = .bl y := r2
    subst r1' r2'
    refine ⟨rfl, ?_⟩
    rw [dec_bl]
    exact q _ H2 (e1.trans e2) rfl⟩
theorem reps_ints {K : PySem.W.Frag} {H : Hp} : ∀ {ns : List Int} {vs : List V}, Reps K M H (ns.map D.int) vs → vs = ns.map V.int
  | [], _, h => h
  | _ :: _, _, ⟨v, r, e1, h1, h2⟩ => by
    have e : v = .int _ := h1
    rw [e1, e, reps_ints h2] <;> rfl
theorem pd_ltT {n : Nat} {ns ms : List Int} (hr : Room n X.A) (ha : PD X M a env (.tup (ns.map D.int))) (hb : PD X M b env (.tup (ms.map D.int))) : PD X M (.Compare a [.Lt] [b] pos) env (.bl (HT.lexLt ns ms)) := fun σ H hE Q q =>
  ⟨_, pe_cmpR (op_ltT hr.units0) we we (nomark _), ha σ H hE _ fun v1 H1 e1 ⟨t, us, r1, r2, r3⟩ => hb σ H1 (hE.same e1) _ fun v2 H2 e2 ⟨t2, us2, r4, r5, r6⟩ => by
    have w1 := hE.wd.same e1
    rw [reps_ints r3] at r2
    rw [reps_ints r6] at r5
    exact ⟨t, t2, ns, ms, r1, r4, sqT_sm w1 (sm_of w1 e2) r2, r5, q _ H2 (e1.trans e2) rfl⟩⟩
end
end Wk
end
section
set_option Elab.async false
set_option linter.all false
set_option maxRecDepth 100000
set_option maxHeartbeats 4000000
namespace Wk
open PySem PySem.Spec PyProof.Rows L2 RZ
section
variable {X : Cx} {M : Mu} {env env' env1 : DEnv} {a b c e tg iter : Expr} {es : List Expr} {pos p p2 : Pos} {d d1 d2 : D} {i j : Int} {ds : List D} {st : Stmt} {sts body els : List Stmt} {o : Out}
theorem gd_name (n : Nat) {x : Str} (hN : X.N.Nodup) (hi : X.N[n]? = some x := by rfl) (hx : Loc X.env.scope x := by first | exact Or.inl rfl | exact Or.inr rfl) (hf : X.fn x = true ∨ X.env.scope.names.lookup x = some .local := by first | exact .inl rfl | exact .inr rfl) : GD X M (.Name x pos) d env (env.set n (some d)) :=
  fun σ H v hE r Q q => ⟨_, pg_name (i := n) hN hi hx hf, q _ (hE.set r)⟩
theorem gds_nil : GDs X M [] [] env env := fun σ H vs hE r Q q => ⟨_, pgs_nil, r, q σ hE⟩
theorem gds_cons (h1 : GD X M e d env env1) (h2 : GDs X M es ds env1 env') (hs : (assignEach (e :: es) X.env).map (·.2) = assign e X.env :: (assignEach es X.env).map (·.2) := by rfl) : GDs X M (e :: es) (d :: ds) env env' :=
  fun σ H vs hE ⟨v, r, e1, r1, r2⟩ Q q => ⟨_, pgs_cons wg wgs hs, v, r, e1, h1 σ H v hE r1 _ fun σ1 hE1 => h2 σ1 H r hE1 r2 Q q⟩
theorem gd_tup {k : Nat} (h : GDs X M es ds env env') (hl : ds.length = es.length := by rfl) (hc : X.calm = true := by rfl) (hn : (assignEach es X.env).length = es.length := by rfl) (hst : (assignEach es X.env).findIdx? (·.1) = none := by rfl) : GD X M (.Tuple es k pos) (.tup ds) env env' :=
  fun σ H v hE ⟨t, vs, r1, r2, r3⟩ Q q => ⟨_, pg_tup hc wgs hn hst, t, vs, r1, r2, r3.length.trans hl, h σ H vs hE r3 Q q⟩
theorem sd_nil : SD X M [] env (.nx env) := fun D σ H hE hO => ⟨_, pss_nil, hO σ H (Same.refl H) hE⟩
theorem sd_cons (h1 : S1 X M st env (.nx env1)) (h2 : SD X M sts env1 o) : SD X M (st :: sts) env o := fun D σ H hE hO =>
  ⟨_, pss_cons ws wss, h1 { D with nx := Wss X sts D } σ H hE fun σ' H' e1 hE1 => h2 D σ' H' hE1 (hO.same e1)⟩
theorem sd_last (h1 : S1 X M st env o) : SD X M [st] env o := fun D σ H hE hO => ⟨_, pss_one ws, h1 D σ H hE hO⟩
theorem sd_stop (h1 : S1 X M st env (.rt d)) : SD X M (st :: sts) env (.rt d) := fun D σ H hE hO => ⟨_, pss_cons ws wss, h1 { D with nx := Wss X sts D } σ H hE hO⟩
theorem SD.le (h : SD X M sts env (.nx env1)) (l : Le env1 env') : SD X M sts env (.nx env') := fun D σ H hE hO => h D σ H hE fun σ' H' e1 hE1 => hO σ' H' e1 (hE1.le l)
theorem S1.le (h : S1 X M st env (.nx env1)) (l : Le env1 env') : S1 X M st env (.nx env') := fun D σ H hE hO => h D σ H hE fun σ' H' e1 hE1 => hO σ' H' e1 (hE1.le l)
theorem SD.pre (h : SD X M sts env' o) (l : Le env env') : SD X M sts env o := fun D σ H hE hO => h D σ H (hE.le l) hO
theorem SD.nrm (env' : DEnv) (q : env = env') (h : SD X M sts env' o) : SD X M sts env o := q ▸ h
theorem s1_ret (h : PD X M e env d) : S1 X M (.Return (some e) pos) env (.rt d) := fun D σ H hE hO => ⟨_, ps_ret we, h σ H hE _ fun v H1 e1 r1 => hO v H1 e1 r1⟩
theorem s1_set (n : Nat) {x : Str} {px : Pos} (h : PD X M e env d) (hN : X.N.Nodup) (hi : X.N[n]? = some x := by rfl) (hx : Loc X.env.scope x := by first | exact Or.inl rfl | exact Or.inr rfl) (hs : swapsWith e (some (.Name x px)) pos.line X.env = pure false := by rfl)
    (hf : X.fn x = true ∨ X.env.scope.names.lookup x = some .local := by first | exact .inl rfl | exact .inr rfl) : S1 X M (.Assign [.Name x px] e pos) env (.nx (env.set n (some d))) := fun D σ H hE hO =>
  ⟨_, ps_set (i := n) hN hi hx we hs hf, h σ H hE _ fun v H1 e1 r1 => hO _ H1 e1 ((hE.same e1).set r1)⟩
theorem s1_asg (h : PD X M e env d) (hg : GD X M tg d env env') (hs : swapsWithSole [tg] e pos.line X.env = pure false := by rfl) (hw : swappedStores [tg] e X.env = pure none := by rfl) (h1 : (assignEach [tg] X.env).map (·.2) = [assign tg X.env] := by rfl) : S1 X M (.Assign [tg] e pos) env (.nx env') := fun D σ H hE hO =>
  ⟨_, ps_asg we wg hs hw h1, h σ H hE _ fun v H1 e1 r1 => hg σ H1 v (hE.same e1) r1 _ fun σ' hE1 => hO σ' H1 e1 hE1⟩
theorem s1_par (n m : Nat) {x y : Str} {px py pt : Pos} {kt k2 : Nat} {pt2 : Pos} (ha : PD X M a env d1) (hb : PD X M b env d2) (hN : X.N.Nodup) (hi : X.N[n]? = some x := by rfl) (hj : X.N[m]? = some y := by rfl) (hij : n ≠ m := by decide) (hx : X.env.scope.names.lookup x = some .local := by rfl) (hy : X.env.scope.names.lookup y = some .local := by rfl)
    (hw : swappedStores [.Tuple [.Name x px, .Name y py] kt pt] (.Tuple [a, b] k2 pt2) X.env = pure (some [x, y]) := by rfl) (hs : swapsWithSole [.Tuple [.Name x px, .Name y py] kt pt] (.Tuple [a, b] k2 pt2) pos.line X.env = pure false := by rfl) (hc : X.calm = true := by rfl)
    (s0 : starEach [a, b] X.env = (false, eval a X.env) :: starEach [b] X.env := by rfl) (s1 : starEach [b] X.env = (false, eval b X.env) :: starEach [] X.env := by rfl) :
    S1 X M (.Assign [.Tuple [.Name x px, .Name y py] kt pt] (.Tuple [a, b] k2 pt2) pos) env (.nx ((env.set n (some d1)).set m (some d2))) := fun D σ H hE hO =>
  ⟨_, ps_par (i := n) (j := m) hc hN hi hj hij hx hy wa hw hs, pad_cons ha (pad_cons hb pad_nil s1) s0 σ H hE _ fun vs H1 e1 r => by
    obtain ⟨v, v2, rfl, r1, r2⟩ := reps2 r
    exact ⟨v, v2, rfl, hO _ H1 e1 (((hE.same e1).set r1).set r2)⟩⟩
theorem reps3 {K : PySem.W.Frag} {H : Hp} {vs : List V} {d3 : D} (r : Reps K M H [d1, d2, d3] vs) : ∃ v w z, vs = [v, w, z] ∧ Rep K M H d1 v ∧ Rep K M H d2 w ∧ Rep K M H d3 z := by
  obtain ⟨v, r2, e1, h1, h2⟩ := r
  obtain ⟨w, z, e2, h3, h4⟩ := reps2 h2
  subst e2
  exact ⟨v, w, z, e1, h1, h3, h4⟩
theorem s1_par3 (n m l : Nat) {x y z : Str} {px py pz pt : Pos} {kt k2 : Nat} {pt2 : Pos} {d3 : D} (ha : PD X M a env d1) (hb : PD X M b env d2) (hc3 : PD X M c env d3) (hN : X.N.Nodup) (hi : X.N[n]? = some x := by rfl) (hj : X.N[m]? = some y := by rfl) (hl : X.N[l]? = some z := by rfl) (hij : n ≠ m := by decide) (hil : n ≠ l := by decide) (hjl : m ≠ l := by decide)
    (hx : X.env.scope.names.lookup x = some .local := by rfl) (hy : X.env.scope.names.lookup y = some .local := by rfl) (hz : X.env.scope.names.lookup z = some .local := by rfl)
    (hw : swappedStores [.Tuple [.Name x px, .Name y py, .Name z pz] kt pt] (.Tuple [a, b, c] k2 pt2) X.env = pure (some [x, y, z]) := by rfl) (hs : swapsWithSole [.Tuple [.Name x px, .Name y py, .Name z pz] kt pt] (.Tuple [a, b, c] k2 pt2) pos.line X.env = pure false := by rfl) (hc : X.calm = true := by rfl)
    (s0 : starEach [a, b, c] X.env = (false, eval a X.env) :: starEach [b, c] X.env := by rfl) (s1 : starEach [b, c] X.env = (false, eval b X.env) :: starEach [c] X.env := by rfl) (s2 : starEach [c] X.env = (false, eval c X.env) :: starEach [] X.env := by rfl) :
    S1 X M (.Assign [.Tuple [.Name x px, .Name y py, .Name z pz] kt pt] (.Tuple [a, b, c] k2 pt2) pos) env (.nx (((env.set n (some d1)).set m (some d2)).set l (some d3))) := fun D σ H hE hO =>
  ⟨_, ps_par3 (i := n) (j := m) (l := l) hc hN hi hj hl hij hil hjl hx hy hz wa hw hs, pad_cons ha (pad_cons hb (pad_cons hc3 pad_nil s2) s1) s0 σ H hE _ fun vs H1 e1 r => by
    obtain ⟨v, v2, v3, rfl, r1, r2, r3⟩ := reps3 r
    exact ⟨v, v2, v3, rfl, hO _ H1 e1 ((((hE.same e1).set r1).set r2).set r3)⟩⟩
theorem s1_if {k : Bool} (hc : PTD X M c env k) (h1 : k = true → SD X M body env o) (h2 : k = false → SD X M els env o) : S1 X M (.If c body els pos) env o := fun D σ H hE hO =>
  ⟨_, ps_if wt wss wss, hc σ H hE _ fun H1 e1 => by
    cases k with
    | true => exact h1 rfl D σ H1 (hE.same e1) (hO.same e1)
    | false => exact h2 rfl D σ H1 (hE.same e1) (hO.same e1)⟩
theorem s1_ifT (hc : PTD X M c env true) (h1 : SD X M body env o) : S1 X M (.If c body els pos) env o := s1_if hc (fun _ => h1) (fun z => nomatch z)
theorem s1_ifF (hc : PTD X M c env false) (h2 : SD X M els env o) : S1 X M (.If c body els pos) env o := s1_if hc (fun z => nomatch z) (fun _ => h2)
def WalkD (K : PySem.W.Frag) (M : Mu) (J : It) (H1 : Hp) (ds : List D) : Prop := ∃ (G : Hp → Prop) (Y : Nat → Hp → V → Hp → Prop), Walk J ds.length G Y ∧ (∀ H2, Sm M H1 H2 → G H2) ∧ ∀ i H2 x H3 d, Sm M H1 H2 → ds[i]? = some d → Y i H2 x H3 → Same H2 H3 ∧ Rep K M H3 d x
def IDt (X : Cx) (M : Mu) (tg iter : Expr) (env : DEnv) (ds : List D) : Prop := ∀ σ H, En X.K M H σ env → ∀ R : It → Hp → Prop, (∀ J H1, Same H H1 → WalkD X.K M J H1 ds → R J H1) → Wi X tg iter σ H R
theorem id_list (h : PD X M iter env (.lst ds)) : IDt X M tg iter env ds := fun σ H hE R q => ⟨_, pi_list we, h σ H hE _ fun v H1 e1 ⟨t, vs, r1, n, r2, r3⟩ => ⟨t, r1, ⟨vs, SqL.of r2⟩, q _ H1 e1 ⟨fun H2 => SqL X.K H2 t vs, YAt vs, by rw [← r3.length]; exact walk_list, fun H2 s2 => SqL.of (s2.1 t _ n r2), fun k H2 x H3 d s2 hd y => by
  obtain ⟨rfl, hx⟩ := y
  obtain ⟨v2, h1, h2⟩ := (reps_sm (hE.wd.same e1) s2 r3).get hd
  rw [hx] at h1
  cases h1
  exact ⟨Same.refl _, h2⟩⟩⟩⟩
theorem id_tup (h : PD X M iter env (.tup ds)) : IDt X M tg iter env ds := fun σ H hE R q => ⟨_, pi_tup we, h σ H hE _ fun v H1 e1 ⟨t, vs, r1, r2, r3⟩ => ⟨t, r1, ⟨vs, r2⟩, q _ H1 e1 ⟨fun H2 => SqT X.K H2 t vs, YAt vs, by rw [← r3.length]; exact walk_tup, fun H2 s2 => sqT_sm (hE.wd.same e1) s2 r2, fun k H2 x H3 d s2 hd y => by
  obtain ⟨rfl, hx⟩ := y
  obtain ⟨v2, h1, h2⟩ := (reps_sm (hE.wd.same e1) s2 r3).get hd
  rw [hx] at h1
  cases h1
  exact ⟨Same.refl _, h2⟩⟩⟩⟩
def rngD (lo : Int) (n : Nat) : List D := (List.range n).map fun (k : Nat) => D.int (lo + (k : Int))
theorem rngD_len (lo : Int) (n : Nat) : (rngD lo n).length = n := by unfold rngD; simp
theorem rngD_get {lo : Int} {n k : Nat} {d : D} (h : (rngD lo n)[k]? = some d) : k < n ∧ d = .int (lo + (k : Int)) := by
  unfold rngD at h
  rw [List.getElem?_map] at h
  by_cases hk : k < n
  · rw [List.getElem?_range hk] at h
    exact ⟨hk, by simpa using h.symm⟩
  · rw [List.getElem?_eq_none (by rw [List.length_range]; omega)] at h
    cases h
theorem walkD_rng {K : PySem.W.Frag} {H1 : Hp} {lo : Int} {n : Nat} : WalkD K M (Itr lo n) H1 (rngD lo n) :=
  ⟨fun _ => True, YFn fun k => .int (lo + k), by rw [rngD_len]; exact walk_range, fun _ _ => trivial, fun k H2 x H3 d _ hd y => by
    obtain ⟨rfl, rfl⟩ := y
    obtain ⟨_, rfl⟩ := rngD_get hd
    exact ⟨Same.refl _, rfl⟩⟩
theorem id_range1 (hm : X.mg "range" = none) (ha : PD X M a env (.int i)) (h1 : -(2 ^ 62) ≤ i := by omega) (h2 : i < 2 ^ 62 := by omega) (hg : Gl X "range" := by rfl) (hs : starEach [a] X.env = [(false, eval a X.env)] := by rfl) : IDt X M tg (.Call (.Name "range" p) [a] [] pos) env (rngD 0 i.toNat) := fun σ H hE R q =>
  ⟨_, pi_range1 hg hm wa hs, pad_cons ha pad_nil hs σ H hE _ fun vs H1 e1 r => by
    obtain ⟨v, rfl, r1⟩ := reps1 r
    exact ⟨i, by rw [show v = .int i from r1], h1, h2, q _ H1 e1 walkD_rng⟩⟩
theorem id_range2 (hm : X.mg "range" = none) (ha : PD X M a env (.int i)) (hb : PD X M b env (.int j)) (h : -(2 ^ 62) ≤ i ∧ i < 2 ^ 62 ∧ -(2 ^ 62) ≤ j ∧ j < 2 ^ 62 := by omega) (hg : Gl X "range" := by rfl) (hs : starEach [a, b] X.env = [(false, eval a X.env), (false, eval b X.env)] := by rfl) (hs2 : starEach [b] X.env = [(false, eval b X.env)] := by rfl) :
    IDt X M tg (.Call (.Name "range" p) [a, b] [] pos) env (rngD i (j - i).toNat) := fun σ H hE R q =>
  ⟨_, pi_range2 hg hm wa hs hs2, pad_cons ha (pad_cons hb pad_nil hs2) (by rw [hs, hs2]) σ H hE _ fun vs H1 e1 r => by
    obtain ⟨v, v2, rfl, r1, r2⟩ := reps2 r
    exact ⟨i, j, by rw [show v = .int i from r1, show v2 = .int j from r2], h, q _ H1 e1 walkD_rng⟩⟩
def zipD (xs ys : List D) : List D := (xs.zip ys).map fun p => .tup [p.1, p.2]
theorem zipD_len (xs ys : List D) : (zipD xs ys).length = min xs.length ys.length := by unfold zipD; simp
theorem zipD_get {xs ys : List D} {k : Nat} {d : D} (h : (zipD xs ys)[k]? = some d) : ∃ x y, xs[k]? = some x ∧ ys[k]? = some y ∧ d = .tup [x, y] := by
  unfold zipD at h
  rw [List.getElem?_map] at h
  cases q : (xs.zip ys)[k]? with
  | none => rw [q] at h; cases h
  | some z =>
    rw [q] at h
    obtain ⟨x, y⟩ := z
    rw [List.getElem?_zip_eq_some] at q
    exact ⟨x, y, q.1, q.2, by simpa using h.symm⟩
theorem rep_pair {K : PySem.W.Frag} {H : Hp} {T : Addr} {x y : V} {dx dy : D} (w : Wd M H) (n : H T = none) (h1 : Rep K M H dx x) (h2 : Rep K M H dy y) : Rep K M (upd H T (.tup [x, y])) (.tup [dx, dy]) (.ref T) :=
  ⟨T, [x, y], rfl, SqT.of upd_same, x, [y], rfl, rep_same w (same_new n) h1, y, [], rfl, rep_same w (same_new n) h2, rfl⟩
theorem walk_zipT {K : PySem.W.Frag} {t u : Addr} {xs ys : List V} {n : Nat} (hn : n = min xs.length ys.length) : Walk (ItzT K t u) n (fun H => SqT K H t xs ∧ SqT K H u ys) (YPair (fun i => xs[i]?) (fun i => ys[i]?)) := by
  subst hn
  refine ⟨fun i _ hi q => ?_, fun _ q => ⟨xs, ys, q.1, q.2, by omega⟩, fun i H v H' _ q y => ?_⟩
  · have h1 : i < xs.length := by omega
    have h2 : i < ys.length := by omega
    exact ⟨xs, ys, xs[i], ys[i], q.1, q.2, by simp [h1], by simp [h2]⟩
  · obtain ⟨T, x, z, h1, h2, h3, h4, h5⟩ := y
    exact ⟨T, x, z, h1, h2, h3, h4 xs q.1, h5 ys q.2⟩
theorem pair_turn {K : PySem.W.Frag} {H1 H2 H3 : Hp} {k : Nat} {xs ys : List D} {vs us : List V} {x : V} {d : D} (w : Wd M H1) (rx : Reps K M H1 xs vs) (ry : Reps K M H1 ys us) (s2 : Sm M H1 H2) (hd : (zipD xs ys)[k]? = some d) (y : YPair (fun i => vs[i]?) (fun i => us[i]?) k H2 x H3) : Same H2 H3 ∧ Rep K M H3 d x := by
  obtain ⟨T, v1, v2, rfl, nT, rfl, g1, g2⟩ := y
  obtain ⟨dx, dy, q1, q2, rfl⟩ := zipD_get hd
  obtain ⟨z1, h1, h2⟩ := (reps_sm w s2 rx).get q1
  obtain ⟨z2, h3, h4⟩ := (reps_sm w s2 ry).get q2
  have g1' : vs[k]? = some v1 := g1
  have g2' : us[k]? = some v2 := g2
  rw [g1'] at h1
  rw [g2'] at h3
  cases h1
  cases h3
  exact ⟨same_new nT, rep_pair s2.2 nT h2 h4⟩
theorem id_zipL {elts : List Expr} {kk : Nat} {tpos : Pos} {xs ys : List D} (hm : X.mg "zip" = none) (ha : PD X M a env (.lst xs)) (hb : PD X M b env (.lst ys)) (hg : Gl X "zip" := by rfl) (hs : starEach [a, b] X.env = (false, eval a X.env) :: starEach [b] X.env := by rfl) (hs2 : starEach [b] X.env = (false, eval b X.env) :: starEach [] X.env := by rfl)
    (hpl : (backTo pos (starEach [b] X.env)).any (·.1) = false := by rfl) : IDt X M (.Tuple elts kk tpos) (.Call (.Name "zip" p) [a, b] [] pos) env (zipD xs ys) := fun σ H hE R q =>
  ⟨_, pi_zipA hg hm wa hs hpl, pad_cons ha (pad_cons hb pad_nil hs2) hs σ H hE _ fun vs H1 e1 r => by
    obtain ⟨v, v2, rfl, ⟨t, us, r1, n, r2, r3⟩, ⟨t2, us2, r4, n2, r5, r6⟩⟩ := reps2 r
    refine ⟨t, t2, us, us2, by rw [r1, r4], .inl ⟨SqL.of r2, SqL.of r5, q _ H1 e1 ⟨_, _, walk_zip (xs := us) (ys := us2) (by rw [zipD_len, r3.length, r6.length]), fun H2 s2 => ⟨SqL.of (s2.1 t _ n r2), SqL.of (s2.1 t2 _ n2 r5)⟩, fun k H2 x H3 d s2 hd y => pair_turn (hE.wd.same e1) r3 r6 s2 hd y⟩⟩⟩⟩
theorem id_zipT {elts : List Expr} {kk : Nat} {tpos : Pos} {xs ys : List D} (hm : X.mg "zip" = none) (ha : PD X M a env (.tup xs)) (hb : PD X M b env (.tup ys)) (hg : Gl X "zip" := by rfl) (hs : starEach [a, b] X.env = (false, eval a X.env) :: starEach [b] X.env := by rfl) (hs2 : starEach [b] X.env = (false, eval b X.env) :: starEach [] X.env := by rfl)
    (hpl : (backTo pos (starEach [b] X.env)).any (·.1) = false := by rfl) : IDt X M (.Tuple elts kk tpos) (.Call (.Name "zip" p) [a, b] [] pos) env (zipD xs ys) := fun σ H hE R q =>
  ⟨_, pi_zipA hg hm wa hs hpl, pad_cons ha (pad_cons hb pad_nil hs2) hs σ H hE _ fun vs H1 e1 r => by
    obtain ⟨v, v2, rfl, ⟨t, us, r1, r2, r3⟩, ⟨t2, us2, r4, r5, r6⟩⟩ := reps2 r
    have w1 := hE.wd.same e1
    refine ⟨t, t2, us, us2, by rw [r1, r4], .inr ⟨r2, r5, q _ H1 e1 ⟨_, _, walk_zipT (xs := us) (ys := us2) (by rw [zipD_len, r3.length, r6.length]), fun H2 s2 => ⟨sqT_sm w1 s2 r2, sqT_sm w1 s2 r5⟩, fun k H2 x H3 d s2 hd y => pair_turn w1 r3 r6 s2 hd y⟩⟩⟩⟩
theorem s1_for (envs : Nat → DEnv) (hi : IDt X M tg iter env ds) (h0 : Le env (envs 0)) (turn : ∀ (k : Nat) d, ds[k]? = some d → ∃ env1 env2, GD X M tg d (envs k) env1 ∧ SD X M body env1 (.nx env2) ∧ Le env2 (envs (k + 1)))
    (hp : PassesOwn (model X.prog X.w) X.A X.env X.xe := by exact PassesOwn.never) (hc : X.calm = true := by rfl) (hs : ∀ x, foldedSetIterable iter X.env x = pure x := by intro _; rfl) : S1 X M (.For tg iter body [] pos) env (.nx (envs ds.length)) := fun D σ H hE hO =>
  ⟨_, ps_for hp hc wi wg wss hs, hi σ H hE _ fun J H1 e1 ⟨G, Y, W, hG, hY⟩ => for_it W (fun k σ' H' => Same H1 H' ∧ En X.K M H' σ' (envs k)) ⟨Same.refl _, (hE.same e1).le h0⟩ (fun k σ' H' _ p => hG H' (sm_of (hE.wd.same e1) p.1)) (fun k x σ' H2 H3 hk p y => by
    obtain ⟨d, hd⟩ : ∃ d, ds[k]? = some d := ⟨ds[k], List.getElem?_eq_getElem hk⟩
    obtain ⟨s23, r⟩ := hY k H2 x H3 d (sm_of (hE.wd.same e1) p.1) hd y
    obtain ⟨env1, env2, g, bd, l⟩ := turn k d hd
    refine g σ' H3 x (p.2.same s23) r _ fun σ2 hE2 => ?_
    exact bd _ σ2 H3 hE2 fun σ3 H4 e4 hE4 => ⟨p.1.trans (s23.trans e4), hE4.le l⟩) fun σ' H' p => hO σ' H' (e1.trans p.1) p.2⟩
theorem s1_forR (envs : Nat → DEnv) (m : Nat) {dm : D} (hm : ds[m]? = some dm) (hi : IDt X M tg iter env ds) (h0 : Le env (envs 0)) (turn : ∀ (k : Nat) d, k < m → ds[k]? = some d → ∃ env1 env2, GD X M tg d (envs k) env1 ∧ SD X M body env1 (.nx env2) ∧ Le env2 (envs (k + 1)))
    (stop : ∃ env1, GD X M tg dm (envs m) env1 ∧ SD X M body env1 (.rt d)) (hp : PassesOwn (model X.prog X.w) X.A X.env X.xe := by exact PassesOwn.never) (hc : X.calm = true := by rfl) (hs : ∀ x, foldedSetIterable iter X.env x = pure x := by intro _; rfl) : S1 X M (.For tg iter body [] pos) env (.rt d) := fun D σ H hE hO =>
  ⟨_, ps_for hp hc wi wg wss hs, hi σ H hE _ fun J H1 e1 ⟨G, Y, W, hG, hY⟩ => for_it W (fun k σ' H' => k ≤ m ∧ Same H1 H' ∧ En X.K M H' σ' (envs k)) ⟨Nat.zero_le _, Same.refl _, (hE.same e1).le h0⟩ (fun k σ' H' _ p => hG H' (sm_of (hE.wd.same e1) p.2.1)) (fun k x σ' H2 H3 hk p y => by
    obtain ⟨d', hd⟩ : ∃ d, ds[k]? = some d := ⟨ds[k], List.getElem?_eq_getElem hk⟩
    obtain ⟨s23, r⟩ := hY k H2 x H3 d' (sm_of (hE.wd.same e1) p.2.1) hd y
    by_cases hkm : k < m
    · obtain ⟨env1, env2, g, bd, l⟩ := turn k d' hkm hd
      refine g σ' H3 x (p.2.2.same s23) r _ fun σ2 hE2 => ?_
      exact bd _ σ2 H3 hE2 fun σ3 H4 e4 hE4 => ⟨by omega, p.2.1.trans (s23.trans e4), hE4.le l⟩
    · have ek : k = m := by have := p.1; omega
      subst ek
      rw [hm] at hd
      cases hd
      obtain ⟨env1, g, bd⟩ := stop
      refine g σ' H3 x (p.2.2.same s23) r _ fun σ2 hE2 => ?_
      exact bd _ σ2 H3 hE2 fun v H4 e4 r4 => hO v H4 (e1.trans (p.2.1.trans (s23.trans e4))) r4) fun σ' H' p => by
    have := (List.getElem?_eq_some_iff.mp hm).1
    have := p.1
    omega⟩
end
end Wk
end
section
set_option Elab.async false
set_option linter.all false
set_option maxRecDepth 100000
set_option maxHeartbeats 4000000
namespace Wk
open PySem PySem.Spec PyProof.Rows L2
def wipeE : DEnv → List Nat → DEnv
  | e, [] => e
  | e, v :: vs => (wipeE e vs).set v none
theorem En.wipe {K : PySem.W.Frag} {M : Mu} {H : Hp} {σ : L2.St} {env : DEnv} (h : En K M H σ env) : ∀ vs : List Nat, En K M H (L2.wipe σ vs) (wipeE env vs)
  | [] => h
  | _ :: vs => (h.wipe vs).drop
theorem wipe_at (σ : L2.St) (i : Nat) : ∀ vs : List Nat, i ∈ vs → (L2.wipe σ vs)[i]? = if i < σ.length then some none else none
  | [], h => by simp at h
  | v :: vs, h => by
    show ((L2.wipe σ vs).set v none)[i]? = _
    by_cases e : v = i
    · subst e
      by_cases hl : v < σ.length
      · rw [List.getElem?_set_self (by rw [L2.wipe_length]; exact hl), if_pos hl]
      · rw [List.getElem?_eq_none (by rw [List.length_set, L2.wipe_length]; omega), if_neg hl]
    · rw [List.getElem?_set_ne e]
      rcases List.mem_cons.mp h with z | z
      · exact absurd z.symm e
      · exact wipe_at σ i vs z
theorem wipe_same {σ σ' : L2.St} {vs : List Nat} (hl : σ'.length = σ.length) (h : ∀ i, i ∉ vs → σ'[i]? = σ[i]?) : L2.wipe σ' vs = L2.wipe σ vs := by
  apply List.ext_getElem?
  intro i
  by_cases hi : i ∈ vs
  · rw [wipe_at σ' i vs hi, wipe_at σ i vs hi, hl]
  · rw [L2.wipe_out hi, L2.wipe_out hi]
    exact h i hi
theorem wipe_set {σ : L2.St} {vs : List Nat} {n : Nat} {o : Option V} (hn : n ∈ vs) : L2.wipe (σ.set n o) vs = L2.wipe σ vs :=
  wipe_same (List.length_set ..) fun i hi => List.getElem?_set_ne (fun e => hi (by rw [← e]; exact hn))
theorem wipe_wipe (σ : L2.St) (vs : List Nat) : L2.wipe (L2.wipe σ vs) vs = L2.wipe σ vs := wipe_same (L2.wipe_length ..) fun i hi => L2.wipe_out hi
theorem sm_write {M : Mu} {H : Hp} {p : Addr} {xs : List V} (w : Wd M H) (m : M p) : Sm M H (upd H p (.lst xs)) :=
  ⟨fun a o n h => by rw [upd_ne (fun e => n (by rw [e]; exact m))]; exact h, fun a ma => by
    by_cases e : a = p
    · subst e; exact ⟨xs, upd_same⟩
    · obtain ⟨ys, q⟩ := w a ma
      exact ⟨ys, by rw [upd_ne e]; exact q⟩⟩
section
variable (X : Cx) (M : Mu) (vs : List Nat)
def GDw (tg : Expr) (d : D) (env env' : DEnv) : Prop := ∀ σ H v, En X.K M H σ env → Rep X.K M H d v → ∀ Q : L2.St → Hp → Prop, (∀ σ', En X.K M H σ' env' → L2.wipe σ' vs = L2.wipe σ vs → Q σ' H) → Wg X tg v σ H Q
def GDws (tg : List Expr) (ds : List D) (env env' : DEnv) : Prop := ∀ σ H us, En X.K M H σ env → Reps X.K M H ds us → ∀ Q : L2.St → Hp → Prop, (∀ σ', En X.K M H σ' env' → L2.wipe σ' vs = L2.wipe σ vs → Q σ' H) → Wgs X tg us σ H Q
def Wts (ifs : List Expr) : TT := fun σ H Q => ∃ t, PTs X ifs t ∧ t σ H Q
theorem wts {ifs : List Expr} : PTs X ifs (Wts X ifs) := ⟨fun pins s σ H Q I ⟨_, h, q⟩ => h.run pins s σ H Q I q⟩
def PTsD (ifs : List Expr) (env : DEnv) (b : Bool) : Prop := ∀ σ H, En X.K M H σ env → ∀ Q : Bool → Hp → Prop, (∀ H', Same H H' → Q b H') → Wts X ifs σ H Q
end
section
variable {X : Cx} {M : Mu} {vs : List Nat} {env env' env1 : DEnv} {a b c e tg iter elt : Expr} {es ifs : List Expr} {pos p p2 : Pos} {d d1 d2 : D} {ds : List D}
theorem gdw_name (n : Nat) {x : Str} (hn : n ∈ vs := by simp) (hN : X.N.Nodup) (hi : X.N[n]? = some x := by rfl) (hx : Loc X.env.scope x := by first | exact Or.inl rfl | exact Or.inr rfl) (hf : X.fn x = true ∨ X.env.scope.names.lookup x = some .local := by first | exact .inr rfl | exact .inl rfl) : GDw X M vs (.Name x pos) d env (env.set n (some d)) :=
  fun σ H v hE r Q q => ⟨_, pg_name (i := n) hN hi hx hf, q _ (hE.set r) (wipe_set hn)⟩
theorem gdws_nil : GDws X M vs [] [] env env := fun σ H us hE r Q q => ⟨_, pgs_nil, r, q σ hE rfl⟩
theorem gdws_cons (h1 : GDw X M vs e d env env1) (h2 : GDws X M vs es ds env1 env') (hs : (assignEach (e :: es) X.env).map (·.2) = assign e X.env :: (assignEach es X.env).map (·.2) := by rfl) : GDws X M vs (e :: es) (d :: ds) env env' :=
  fun σ H us hE ⟨v, r, e1, r1, r2⟩ Q q => ⟨_, pgs_cons wg wgs hs, v, r, e1, h1 σ H v hE r1 _ fun σ1 hE1 w1 => h2 σ1 H r hE1 r2 Q fun σ2 hE2 w2 => q σ2 hE2 (w2.trans w1)⟩
theorem gdw_tup {k : Nat} (h : GDws X M vs es ds env env') (hl : ds.length = es.length := by rfl) (hc : X.calm = true := by rfl) (hn : (assignEach es X.env).length = es.length := by rfl) (hst : (assignEach es X.env).findIdx? (·.1) = none := by rfl) : GDw X M vs (.Tuple es k pos) (.tup ds) env env' :=
  fun σ H v hE ⟨t, us, r1, r2, r3⟩ Q q => ⟨_, pg_tup hc wgs hn hst, t, us, r1, r2, r3.length.trans hl, h σ H us hE r3 Q q⟩
theorem ptsd_nil : PTsD X M [] env true := fun σ H hE Q q => ⟨_, pts_nil, q H (Same.refl H)⟩
theorem ptsd_one {k : Bool} (h : PTD X M c env k) : PTsD X M [c] env k := fun σ H hE Q q => ⟨_, pts_one wt, h σ H hE Q q⟩
abbrev BlkX (X : Cx) (scope : Scope) (s : Shared) (H : Hp) (C : Addr) (cl : List (Str × Addr)) (fp : List Addr) : Cx := X.blk s H scope (compEnvC scope cl C X.env) fp
def WeB (X : Cx) (scope : Scope) (elt : Expr) : TE := fun σ H Q => ∀ s H0 C cl fp, We (BlkX X scope s H0 C cl fp) elt σ H Q
def WtB (X : Cx) (scope : Scope) (ifs : List Expr) : TT := fun σ H Q => ∀ s H0 C cl fp, Wts (BlkX X scope s H0 C cl fp) ifs σ H Q
def WgB (X : Cx) (scope : Scope) (tg : Expr) : TG := fun v σ H Q => ∀ s H0 C cl fp, Wg (BlkX X scope s H0 C cl fp) tg v σ H Q
def LcTurn (X : Cx) (M : Mu) (scope : Scope) (vs : List Nat) (tg elt : Expr) (ifs : List Expr) (env env1 : DEnv) (d : D) (r : Option D) : Prop := ∀ s H0 C cl fp,
  GDw (BlkX X scope s H0 C cl fp) M vs tg d (wipeE env vs) env1 ∧ match r with
    | none => PTsD (BlkX X scope s H0 C cl fp) M ifs env1 false
    | some y => Flat y ∧ PTsD (BlkX X scope s H0 C cl fp) M ifs env1 true ∧ PD (BlkX X scope s H0 C cl fp) M elt env1 y
theorem flats_app {xs : List D} {y : D} (h : Flats xs) (g : Flat y) : Flats (xs ++ [y]) := by
  induction xs with
  | nil => exact ⟨g, trivial⟩
  | cons x r ih => exact ⟨h.1, ih h.2⟩
theorem lc_read2 {scope : Scope} {σ : L2.St} {H : Hp} {Q : VK} {f : D → Option D} (env1 : D → DEnv) (hE : En X.K M H σ env) {wi : TI} (hi : ∀ R : It → Hp → Prop, (∀ J H1, Same H H1 → WalkD X.K M J H1 ds → R J H1) → wi σ H R) (turn : ∀ d ∈ ds, LcTurn X M scope vs tg elt ifs env (env1 d) d (f d)) (hl : ds.length ≤ 1000)
    (q : ∀ p us H', H p = none → Same H H' → H' p = some (.lst us) → Reps X.K M H' (ds.filterMap f) us → Q (.ref p) H') : tLc wi (WgB X scope tg) (WtB X scope ifs) (WeB X scope elt) vs σ H Q := by
  refine hi _ fun J H1 e1 ⟨G, Y, W, hG, hY⟩ Dl nD => ?_
  have w1 := hE.wd.same e1
  have sD : Same H1 (upd H1 Dl (.lst [])) := same_new nD
  refine lc_it W (fun i H' => Same H1 H' ∧ ∃ acc, H' Dl = some (.lst acc) ∧ Reps X.K (Add M Dl) H' ((ds.take i).filterMap f) acc) ⟨sD, [], upd_same, rfl⟩ (fun i H' _ p => hG H' (sm_of w1 p.1)) (fun i x H2 H3 hk p y => ?_) fun H' p => ?_
  · obtain ⟨p1, acc, p2, p3⟩ := p
    obtain ⟨d, hd⟩ : ∃ d, ds[i]? = some d := ⟨ds[i], List.getElem?_eq_getElem hk⟩
    obtain ⟨s23, r⟩ := hY i H2 x H3 d (sm_of w1 p1) hd y
    have hw2 : En X.K M H3 (L2.wipe σ vs) (wipeE env vs) := ((hE.same e1).same (p1.trans s23)).wipe vs
    have td := turn d (List.mem_of_getElem? hd)
    have len : ((ds.take i).filterMap f).length ≤ 1000 := Nat.le_trans (List.length_filterMap_le ..) (by rw [List.length_take]; omega)
    have tk : ds.take (i + 1) = ds.take i ++ [d] := by rw [List.take_add_one, hd] <;> rfl
    intro s H0 C cl fp
    refine (td s H0 C cl fp).1 _ H3 x hw2 r _ fun σ2 hE2 we2 => ⟨we2.trans (wipe_wipe σ vs), fun s' H0' C' cl' fp' => ?_⟩
    obtain ⟨_, t2⟩ := td s' H0' C' cl' fp'
    cases hf : f d with
    | none =>
      rw [hf] at t2
      refine t2 σ2 H3 hE2 _ fun H4 s34 => ?_
      rw [if_neg (by decide)]
      have wA : Wd (Add M Dl) H2 := fun a ma => by
        rcases ma with m | rfl
        · exact (w1.same p1) a m
        · exact ⟨acc, p2⟩
      refine ⟨p1.trans (s23.trans s34), acc, s34 _ _ (s23 _ _ p2), ?_⟩
      rw [tk, List.filterMap_append]
      show Reps _ _ _ (_ ++ [d].filterMap f) _
      rw [List.filterMap_cons, hf]
      show Reps _ _ _ (_ ++ []) _
      rw [List.append_nil]
      exact reps_sm wA (sm_of wA (s23.trans s34)) p3
    | some y0 =>
      rw [hf] at t2
      obtain ⟨fl, t3, t4⟩ := t2
      refine t3 σ2 H3 hE2 _ fun H4 s34 => ?_
      rw [if_pos rfl]
      intro s'' H0'' C'' cl'' fp''
      obtain ⟨_, t5⟩ := td s'' H0'' C'' cl'' fp''
      rw [hf] at t5
      refine t5.2.2 σ2 H4 (hE2.same s34) _ fun yv H5 s45 ry => ?_
      have s25 : Same H2 H5 := (s23.trans s34).trans s45
      have p2' := s25 _ _ p2
      have wA : Wd (Add M Dl) H2 := fun a ma => by
        rcases ma with m | rfl
        · exact (w1.same p1) a m
        · exact ⟨acc, p2⟩
      have wA5 := wA.same s25
      refine ⟨acc, p2', Nat.lt_of_lt_of_le (by rw [p3.length]; omega) (show 1001 ≤ sizeLine by decide), fun b o hb => ?_, acc ++ [yv], upd_same, ?_⟩
      · rw [upd_ne (ne_of_none hb nD)]
        exact s25 _ _ (p1 _ _ hb)
      · have smw : Sm (Add M Dl) H5 (upd H5 Dl (.lst (acc ++ [yv]))) := sm_write wA5 (.inr rfl)
        rw [tk, List.filterMap_append]
        show Reps _ _ _ (_ ++ [d].filterMap f) _
        rw [List.filterMap_cons, hf]
        exact reps_sm wA5 smw ((reps_sm wA (sm_of wA s25) p3).append (Reps.one (rep_flat fl ry)))
  · obtain ⟨p1, acc, p2, p3⟩ := p
    rw [List.take_of_length_le (Nat.le_refl _)] at p3
    exact q Dl acc H' (e1.free nD) (e1.trans p1) p2 (reps_less (fun a m => .inl m) p3)
theorem lc_read {scope : Scope} {σ : L2.St} {H : Hp} {Q : VK} {f : D → Option D} (env1 : D → DEnv) (hE : En X.K M H σ env) (hi : IDt X M tg iter env ds) (turn : ∀ d ∈ ds, LcTurn X M scope vs tg elt ifs env (env1 d) d (f d)) (hl : ds.length ≤ 1000)
    (q : ∀ p us H', H p = none → Same H H' → H' p = some (.lst us) → Reps X.K M H' (ds.filterMap f) us → Q (.ref p) H') : tLc (Wi X tg iter) (WgB X scope tg) (WtB X scope ifs) (WeB X scope elt) vs σ H Q := lc_read2 env1 hE (fun R => hi σ H hE R) turn hl q
theorem pl_lc {scope : Scope} {own : List (Str × Nat)} {f : D → Option D} (env1 : D → DEnv) (ok : BlkOk X.N X.env.scope scope own) (hN : X.N.Nodup) (hi : IDt X M tg iter env ds) (turn : ∀ d ∈ ds, LcTurn X M scope (own.map (·.2)) tg elt ifs env (env1 d) d (f d)) (hl : ds.length ≤ 1000 := by simp)
    (hc : X.calm = true := by rfl) (hs : ∀ x, foldedSetIterable iter X.env x = pure x := by intro _; rfl) : PL X M (.ListComp elt [⟨tg, iter, ifs, 0⟩] scope pos) env (ds.filterMap f) := fun σ H hE Q q =>
  ⟨_, pe_lc (g := WgB X scope tg) (tt := WtB X scope ifs) (te := WeB X scope elt) hc hN wi ok (fun s H C cl fp => ⟨fun pins s' σ H' v u Q I r h => wg.run pins s' σ H' v u Q I r (h s H C cl fp)⟩) (fun s H C cl fp => ⟨fun pins s' σ H' Q I h => (wts _).run pins s' σ H' Q I (h s H C cl fp)⟩)
    (fun s H C cl fp => ⟨fun pins s' σ H' Q I h => we.run pins s' σ H' Q I (h s H C cl fp)⟩) hs, lc_read env1 hE hi turn hl q⟩
theorem s1_setLc (n : Nat) {x : Str} {px spos : Pos} {scope : Scope} {own : List (Str × Nat)} {f : D → Option D} (env1 : D → DEnv) (ok : BlkOk X.N X.env.scope scope own) (hN : X.N.Nodup) (hi : IDt X M tg iter env ds) (turn : ∀ d ∈ ds, LcTurn X M scope (own.map (·.2)) tg elt ifs env (env1 d) d (f d)) (hl : ds.length ≤ 1000 := by simp)
    (hy : X.N[n]? = some x := by rfl) (hyl : X.env.scope.names.lookup x = some .local := by rfl) (hsw : swapsWith (.ListComp elt [⟨tg, iter, ifs, 0⟩] scope pos) (some (.Name x px)) spos.line X.env = pure true := by exact sw_true rfl rfl rfl (by decide +kernel))
    (hc : X.calm = true := by rfl) (hs : ∀ x, foldedSetIterable iter X.env x = pure x := by intro _; rfl) : S1 X M (.Assign [.Name x px] (.ListComp elt [⟨tg, iter, ifs, 0⟩] scope pos) spos) env (.nx (env.set n (some (.lst (ds.filterMap f))))) := fun D σ H hE hO =>
  ⟨_, ps_setLc (i := n) (g := WgB X scope tg) (tt := WtB X scope ifs) (te := WeB X scope elt) hc hN hy hyl hsw wi ok (fun s H C cl fp => ⟨fun pins s' σ H' v u Q I r h => wg.run pins s' σ H' v u Q I r (h s H C cl fp)⟩) (fun s H C cl fp => ⟨fun pins s' σ H' Q I h => (wts _).run pins s' σ H' Q I (h s H C cl fp)⟩)
    (fun s H C cl fp => ⟨fun pins s' σ H' Q I h => we.run pins s' σ H' Q I (h s H C cl fp)⟩) hs, lc_read env1 hE hi turn hl fun p us H' np e1 h1 r => hO _ H' e1 ((hE.same e1).set ⟨p, us, rfl, hE.wd.notM np, h1, r⟩)⟩
end
section
variable {P : Program} {w : World} {K : PySem.W.Frag} {mg : Str → Option Value} {base : Heap}
abbrev BX (P : Program) (w : World) (K : PySem.W.Frag) (mg : Str → Option Value) (base : Heap) (N : List Str) (qual : Str) (sc : Scope) (f : Addr) (cdv : Value) (A : Around) (outer : List Env) (s : Shared) (H : Hp) (E : XK) : Cx := (cxOf CX0 P w K mg base N qual sc f cdv A outer s H E).nox
abbrev FnP (K : PySem.W.Frag) (x : Str) (st : Stmt) (f : Addr) (fd : FuncData) : Prop := FunD K x x (defArgs st) (defBody st) (defScope st) [] [] f fd
theorem okP {x : Str} {st : Stmt} {f : Addr} {fd : FuncData} {N ps : List Str} {k : Nat} {R : List D → D → Prop} (F : FnP K x st f fd) (S : FnScope N ps (defScope st)) (len : ∀ ds d, R ds d → ds.length = ps.length)
    (body : ∀ (cdv : Value) (A : Around) (outer : List Env) (s : Shared) (H : Hp) (E : XK), Room k (A.deeper (envOfC x (defScope st) s.heap.objs.size f cdv)) → ∀ (M : Mu) ds d, R ds d → SD (BX P w K mg base N x (defScope st) f cdv A outer s H E) M (defBody st) (env0 N ds) (.rt d)) : FnOk P w K mg base CX0 (k + 1) f fd ps (spP K R) := by
  refine F.ok S (fun vs H Q E h => ?_) fun cdv A outer s H vs Q E hr h => ?_
  · obtain ⟨M, ds, d, hR, _, r, _⟩ := h
    rw [r.length]
    exact len ds d hR
  · obtain ⟨M, ds, d, hR, wd, r, q⟩ := h
    obtain ⟨t, ht, hq⟩ := body cdv A outer s H E hr M ds d hR { nx := fun _ H' => Q .non H', rt := Q } (L2.start N vs) H (en_start wd r) q
    exact ⟨t, PSs.nox ht, hq⟩
theorem cal_of {x : Str} {f : Addr} {fd : FuncData} {k : Nat} {ps : List Str} {sp : Sp} {a : Arguments} {b : List Stmt} {sc : Scope} (F : FunD K x x a b sc [] [] f fd) (m : mg x = some (.ref f)) (B : Binds K fd ps []) (h : FnOk P w K mg base CX0 k f fd ps sp) : Cal P w K mg base x k ps sp := ⟨f, fd, h, m, F.kp, B⟩
end
section
variable {X : Cx} {M : Mu} {env : DEnv} {a b c : Expr} {pos p : Pos} {d d1 d2 : D} {i j : Int}
theorem ptd_cmpI {op : CmpOp} {g : Int → Int → Bool} (ho : OpR X (compareOp op) (rI0 fun i j => .bl (g i j))) (ha : PD X M a env (.int i)) (hb : PD X M b env (.int j)) (hm : behindInMarks op b = false) : PTD X M (.Compare a [op] [b] pos) env (g i j) :=
  fun σ H hE Q q => ⟨_, pt_cmpR ho we we hm, ha σ H hE _ fun v1 H1 e1 r1 => hb σ H1 (hE.same e1) _ fun v2 H2 e2 r2 => ⟨i, j, r1, r2, g i j, rfl, q H2 (e1.trans e2)⟩⟩
theorem ptd_lt (ha : PD X M a env (.int i)) (hb : PD X M b env (.int j)) : PTD X M (.Compare a [.Lt] [b] pos) env (decide (i < j)) := ptd_cmpI (g := fun i j => decide (i < j)) op_lt ha hb (nomark _)
theorem ptd_le (ha : PD X M a env (.int i)) (hb : PD X M b env (.int j)) : PTD X M (.Compare a [.LtE] [b] pos) env (decide (i ≤ j)) := ptd_cmpI (g := fun i j => decide (i ≤ j)) op_le ha hb (nomark _)
theorem ptd_gt (ha : PD X M a env (.int i)) (hb : PD X M b env (.int j)) : PTD X M (.Compare a [.Gt] [b] pos) env (decide (j < i)) := ptd_cmpI (g := fun i j => decide (j < i)) op_gt ha hb (nomark _)
theorem ptd_ge (ha : PD X M a env (.int i)) (hb : PD X M b env (.int j)) : PTD X M (.Compare a [.GtE] [b] pos) env (decide (j ≤ i)) := ptd_cmpI (g := fun i j => decide (j ≤ i)) op_ge ha hb (nomark _)
theorem ptd_eqI (ha : PD X M a env (.int i)) (hb : PD X M b env (.int j)) : PTD X M (.Compare a [.Eq] [b] pos) env (decide (i = j)) :=
  fun σ H hE Q q => ⟨_, pt_cmpR op_eq we we (nomark _), ha σ H hE _ fun v1 H1 e1 r1 => hb σ H1 (hE.same e1) _ fun v2 H2 e2 r2 => by
    have r1' : v1 = .int i := r1
    have r2' : v2 = .int j := r2
    subst r1' r2'
    refine ⟨rfl, _, rfl, ?_⟩
    rw [dec_int]
    exact q H2 (e1.trans e2)⟩
theorem ptd_neI (ha : PD X M a env (.int i)) (hb : PD X M b env (.int j)) : PTD X M (.Compare a [.NotEq] [b] pos) env (!decide (i = j)) :=
  fun σ H hE Q q => ⟨_, pt_cmpR op_ne we we (nomark _), ha σ H hE _ fun v1 H1 e1 r1 => hb σ H1 (hE.same e1) _ fun v2 H2 e2 r2 => by
    have r1' : v1 = .int i := r1
    have r2' : v2 = .int j := r2
    subst r1' r2'
    refine ⟨rfl, _, rfl, ?_⟩
    rw [dec_int]
    exact q H2 (e1.trans e2)⟩
theorem ptd_eqB {x y : Bool} (ha : PD X M a env (.bl x)) (hb : PD X M b env (.bl y)) : PTD X M (.Compare a [.Eq] [b] pos) env (x == y) :=
  fun σ H hE Q q => ⟨_, pt_cmpR op_eq we we (nomark _), ha σ H hE _ fun v1 H1 e1 r1 => hb σ H1 (hE.same e1) _ fun v2 H2 e2 r2 => by
    have r1' : v1 = .bl x := r1
    have r2' : v2 = .bl y := r2
    subst r1' r2'
    refine ⟨rfl, _, rfl, ?_⟩
    rw [dec_bl]
    exact q H2 (e1.trans e2)⟩
theorem ptd_isN (ha : PD X M a env d) {k : Nat} : PTD X M (.Compare a [.Is] [.Constant .none k p] pos) env (isNon d) :=
  fun σ H hE Q q => ⟨_, pt_cmp (pc_isN we) rfl, ha σ H hE _ fun v1 H1 e1 r1 => ⟨_, rfl, by rw [rep_non r1]; exact q H1 e1⟩⟩
theorem ptd_notN (ha : PD X M a env d) {k : Nat} : PTD X M (.Compare a [.IsNot] [.Constant .none k p] pos) env (!isNon d) :=
  fun σ H hE Q q => ⟨_, pt_cmp (pc_notN we) rfl, ha σ H hE _ fun v1 H1 e1 r1 => ⟨_, rfl, by rw [rep_non r1]; exact q H1 e1⟩⟩
theorem ptd_eqD {n : Nat} (hr : Room n X.A) (ha : PD X M a env d1) (hb : PD X M b env d2) (s1 : SeqAt.shaped (pyD d1) = true) (s2 : SeqAt.shaped (pyD d2) = true) : PTD X M (.Compare a [.Eq] [b] pos) env (PyData.eqv (pyD d1) (pyD d2)) := fun σ H hE Q q =>
  ⟨_, pt_cmpR (op_eqD hr.units) we we (nomark _), ha σ H hE _ fun v1 H1 e1 r1 => hb σ H1 (hE.same e1) _ fun v2 H2 e2 r2 => ⟨pyD d1, pyD d2, rep_dp (rep_same (hE.wd.same e1) e2 r1), rep_dp r2, s1, s2, _, rfl, q H2 (e1.trans e2)⟩⟩
theorem ptd_neD {n : Nat} (hr : Room n X.A) (ha : PD X M a env d1) (hb : PD X M b env d2) (s1 : SeqAt.shaped (pyD d1) = true) (s2 : SeqAt.shaped (pyD d2) = true) : PTD X M (.Compare a [.NotEq] [b] pos) env (!PyData.eqv (pyD d1) (pyD d2)) := fun σ H hE Q q =>
  ⟨_, pt_cmpR (op_neD hr.units) we we (nomark _), ha σ H hE _ fun v1 H1 e1 r1 => hb σ H1 (hE.same e1) _ fun v2 H2 e2 r2 => ⟨pyD d1, pyD d2, rep_dp (rep_same (hE.wd.same e1) e2 r1), rep_dp r2, s1, s2, _, rfl, q H2 (e1.trans e2)⟩⟩
theorem ptd_ltT {n : Nat} {ns ms : List Int} (hr : Room n X.A) (ha : PD X M a env (.tup (ns.map D.int))) (hb : PD X M b env (.tup (ms.map D.int))) : PTD X M (.Compare a [.Lt] [b] pos) env (HT.lexLt ns ms) := fun σ H hE Q q =>
  ⟨_, pt_cmpR (op_ltT hr.units0) we we (nomark _), ha σ H hE _ fun v1 H1 e1 ⟨t, us, r1, r2, r3⟩ => hb σ H1 (hE.same e1) _ fun v2 H2 e2 ⟨t2, us2, r4, r5, r6⟩ => by
    have w1 := hE.wd.same e1
    rw [reps_ints r3] at r2
    rw [reps_ints r6] at r5
    exact ⟨t, t2, ns, ms, r1, r4, sqT_sm w1 (sm_of w1 e2) r2, r5, _, rfl, q H2 (e1.trans e2)⟩⟩
end
end Wk
end
section
set_option Elab.async false
set_option linter.all false
set_option maxRecDepth 100000
set_option maxHeartbeats 4000000
namespace Wk
open PySem PySem.Spec PyProof.Rows L2
def topS (i : Nat) : Stmt := PySem.Challenge.pw_lampsaloft_k44_whole_every_crossless_fli.main.body.getD i (.Pass ⟨0, 0, 0, 0⟩)
abbrev s_reduced : Stmt := topS 2
abbrev N_reduced : List Str := ["n", "d", "common"]
theorem sc_reduced : FnScope N_reduced ["n", "d"] (defScope s_reduced) := ⟨rfl, rfl, rfl, by decide +kernel, rfl, by decide +kernel, by decide +kernel⟩
abbrev s_added : Stmt := topS 3
abbrev N_added : List Str := ["one", "other"]
theorem sc_added : FnScope N_added ["one", "other"] (defScope s_added) := ⟨rfl, rfl, rfl, by decide +kernel, rfl, by decide +kernel, by decide +kernel⟩
abbrev s_lessened : Stmt := topS 4
abbrev N_lessened : List Str := ["one", "other"]
theorem sc_lessened : FnScope N_lessened ["one", "other"] (defScope s_lessened) := ⟨rfl, rfl, rfl, by decide +kernel, rfl, by decide +kernel, by decide +kernel⟩
abbrev s_times : Stmt := topS 5
abbrev N_times : List Str := ["one", "other"]
theorem sc_times : FnScope N_times ["one", "other"] (defScope s_times) := ⟨rfl, rfl, rfl, by decide +kernel, rfl, by decide +kernel, by decide +kernel⟩
abbrev s_over : Stmt := topS 6
abbrev N_over : List Str := ["one", "other"]
theorem sc_over : FnScope N_over ["one", "other"] (defScope s_over) := ⟨rfl, rfl, rfl, by decide +kernel, rfl, by decide +kernel, by decide +kernel⟩
abbrev s_compared : Stmt := topS 7
abbrev N_compared : List Str := ["one", "other", "mine", "its"]
theorem sc_compared : FnScope N_compared ["one", "other"] (defScope s_compared) := ⟨rfl, rfl, rfl, by decide +kernel, rfl, by decide +kernel, by decide +kernel⟩
abbrev s_r_of : Stmt := topS 9
abbrev N_r_of : List Str := ["bounds"]
theorem sc_r_of : FnScope N_r_of ["bounds"] (defScope s_r_of) := ⟨rfl, rfl, rfl, by decide +kernel, rfl, by decide +kernel, by decide +kernel⟩
abbrev s_lag_of : Stmt := topS 10
abbrev N_lag_of : List Str := ["bounds"]
theorem sc_lag_of : FnScope N_lag_of ["bounds"] (defScope s_lag_of) := ⟨rfl, rfl, rfl, by decide +kernel, rfl, by decide +kernel, by decide +kernel⟩
abbrev s_rho_of : Stmt := topS 11
abbrev N_rho_of : List Str := ["bounds", "ticks"]
theorem sc_rho_of : FnScope N_rho_of ["bounds", "ticks"] (defScope s_rho_of) := ⟨rfl, rfl, rfl, by decide +kernel, rfl, by decide +kernel, by decide +kernel⟩
abbrev s_is_enough : Stmt := topS 13
abbrev N_is_enough : List Str := ["bounds", "ticks", "spacing", "way", "r", "n", "d", "half", "reach", "rest"]
theorem sc_is_enough : FnScope N_is_enough ["bounds", "ticks"] (defScope s_is_enough) := ⟨rfl, rfl, rfl, by decide +kernel, rfl, by decide +kernel, by decide +kernel⟩
abbrev s_place_on : Stmt := topS 17
abbrev N_place_on : List Str := ["leg", "s", "x", "y", "far_x", "far_y"]
theorem sc_place_on : FnScope N_place_on ["leg", "s"] (defScope s_place_on) := ⟨rfl, rfl, rfl, by decide +kernel, rfl, by decide +kernel, by decide +kernel⟩
abbrev s_parting : Stmt := topS 18
abbrev N_parting : List Str := ["leg", "other", "s", "t", "x", "y", "far_x", "far_y"]
theorem sc_parting : FnScope N_parting ["leg", "other", "s", "t"] (defScope s_parting) := ⟨rfl, rfl, rfl, by decide +kernel, rfl, by decide +kernel, by decide +kernel⟩
abbrev s_dot : Stmt := topS 19
abbrev N_dot : List Str := ["one", "other"]
theorem sc_dot : FnScope N_dot ["one", "other"] (defScope s_dot) := ⟨rfl, rfl, rfl, by decide +kernel, rfl, by decide +kernel, by decide +kernel⟩
abbrev s_squared_at : Stmt := topS 20
abbrev N_squared_at : List Str := ["leg", "other", "s", "t", "way"]
theorem sc_squared_at : FnScope N_squared_at ["leg", "other", "s", "t"] (defScope s_squared_at) := ⟨rfl, rfl, rfl, by decide +kernel, rfl, by decide +kernel, by decide +kernel⟩
abbrev s_ring_of : Stmt := topS 21
abbrev N_ring_of : List Str := ["rho", "rest"]
theorem sc_ring_of : FnScope N_ring_of ["rho"] (defScope s_ring_of) := ⟨rfl, rfl, rfl, by decide +kernel, rfl, by decide +kernel, by decide +kernel⟩
abbrev s_by_parts : Stmt := topS 22
abbrev N_by_parts : List Str := ["one", "other", "mine", "its"]
theorem sc_by_parts : FnScope N_by_parts ["one", "other"] (defScope s_by_parts) := ⟨rfl, rfl, rfl, by decide +kernel, rfl, by decide +kernel, by decide +kernel⟩
abbrev s_on_side : Stmt := topS 23
abbrev N_on_side : List Str := ["leg", "other", "one", "far", "begin", "end", "along", "share", "part", "last"]
theorem sc_on_side : FnScope N_on_side ["leg", "other", "one", "far"] (defScope s_on_side) := ⟨rfl, rfl, rfl, by decide +kernel, rfl, by decide +kernel, by decide +kernel⟩
abbrev s_crossing : Stmt := topS 24
abbrev N_crossing : List Str := ["leg", "other", "x", "y", "far_x", "far_y", "its_x", "its_y", "end_x", "end_y", "wide", "high", "its_wide", "its_high", "whole", "s", "t"]
theorem sc_crossing : FnScope N_crossing ["leg", "other"] (defScope s_crossing) := ⟨rfl, rfl, rfl, by decide +kernel, rfl, by decide +kernel, by decide +kernel⟩
abbrev s_is_within : Stmt := topS 25
abbrev N_is_within : List Str := ["s", "t", "rho", "between", "gap", "part"]
theorem sc_is_within : FnScope N_is_within ["s", "t", "rho"] (defScope s_is_within) := ⟨rfl, rfl, rfl, by decide +kernel, rfl, by decide +kernel, by decide +kernel⟩
abbrev s_nearest : Stmt := topS 26
abbrev N_nearest : List Str := ["leg", "other", "rho", "ring", "parts", "met", "least", "s", "t", "found", "one", "far"]
theorem sc_nearest : FnScope N_nearest ["leg", "other", "rho"] (defScope s_nearest) := ⟨rfl, rfl, rfl, by decide +kernel, rfl, by decide +kernel, by decide +kernel⟩
abbrev s_nearest_of : Stmt := topS 28
abbrev N_nearest_of : List Str := ["legs", "rho", "found", "j", "other", "i", "leg", "squared", "s", "t", "is_less"]
theorem sc_nearest_of : FnScope N_nearest_of ["legs", "rho"] (defScope s_nearest_of) := ⟨rfl, rfl, rfl, by decide +kernel, rfl, by decide +kernel, by decide +kernel⟩
abbrev s_are_apart : Stmt := topS 29
abbrev N_are_apart : List Str := ["legs", "rho", "r", "found"]
theorem sc_are_apart : FnScope N_are_apart ["legs", "rho", "r"] (defScope s_are_apart) := ⟨rfl, rfl, rfl, by decide +kernel, rfl, by decide +kernel, by decide +kernel⟩
abbrev s_is_flight_apart : Stmt := topS 30
abbrev N_is_flight_apart : List Str := ["bounds", "ticks", "legs"]
theorem sc_is_flight_apart : FnScope N_is_flight_apart ["bounds", "ticks", "legs"] (defScope s_is_flight_apart) := ⟨rfl, rfl, rfl, by decide +kernel, rfl, by decide +kernel, by decide +kernel⟩
abbrev s_l_bag : Stmt := topS 32
abbrev N_l_bag : List Str := ["_law_script", "_law_cell"]
theorem sc_l_bag : FnScope N_l_bag ["_law_script"] (defScope s_l_bag) := ⟨rfl, rfl, rfl, by decide +kernel, rfl, by decide +kernel, by decide +kernel⟩
abbrev s_l_take : Stmt := topS 33
abbrev N_l_take : List Str := ["_law_bag_here", "_law_many", "_law_cell", "_law_stirred", "_law_value", "_law_begin", "_law_second"]
theorem sc_l_take : FnScope N_l_take ["_law_bag_here", "_law_many"] (defScope s_l_take) := ⟨rfl, rfl, rfl, by decide +kernel, rfl, by decide +kernel, by decide +kernel⟩
abbrev s_l_some : Stmt := topS 34
abbrev N_l_some : List Str := ["_law_bag_here", "_law_things"]
theorem sc_l_some : FnScope N_l_some ["_law_bag_here", "_law_things"] (defScope s_l_some) := ⟨rfl, rfl, rfl, by decide +kernel, rfl, by decide +kernel, by decide +kernel⟩
abbrev s_l_mixed : Stmt := topS 35
abbrev N_l_mixed : List Str := ["_law_bag_here", "_law_things", "_law_found", "_law_thing"]
theorem sc_l_mixed : FnScope N_l_mixed ["_law_bag_here", "_law_things"] (defScope s_l_mixed) := ⟨rfl, rfl, rfl, by decide +kernel, rfl, by decide +kernel, by decide +kernel⟩
abbrev s_l_alike : Stmt := topS 36
abbrev N_l_alike : List Str := ["_law_found", "_law_due"]
theorem sc_l_alike : FnScope N_l_alike ["_law_found", "_law_due"] (defScope s_l_alike) := ⟨rfl, rfl, rfl, by decide +kernel, rfl, by decide +kernel, by decide +kernel⟩
abbrev s_l_over : Stmt := topS 37
abbrev N_l_over : List Str := ["_law_n", "_law_d", "_law_one", "_law_other"]
theorem sc_l_over : FnScope N_l_over ["_law_n", "_law_d"] (defScope s_l_over) := ⟨rfl, rfl, rfl, by decide +kernel, rfl, by decide +kernel, by decide +kernel⟩
abbrev s_l_added : Stmt := topS 38
abbrev N_l_added : List Str := ["_law_x", "_law_y"]
theorem sc_l_added : FnScope N_l_added ["_law_x", "_law_y"] (defScope s_l_added) := ⟨rfl, rfl, rfl, by decide +kernel, rfl, by decide +kernel, by decide +kernel⟩
abbrev s_l_lessened : Stmt := topS 39
abbrev N_l_lessened : List Str := ["_law_x", "_law_y"]
theorem sc_l_lessened : FnScope N_l_lessened ["_law_x", "_law_y"] (defScope s_l_lessened) := ⟨rfl, rfl, rfl, by decide +kernel, rfl, by decide +kernel, by decide +kernel⟩
abbrev s_l_multiplied : Stmt := topS 40
abbrev N_l_multiplied : List Str := ["_law_x", "_law_y"]
theorem sc_l_multiplied : FnScope N_l_multiplied ["_law_x", "_law_y"] (defScope s_l_multiplied) := ⟨rfl, rfl, rfl, by decide +kernel, rfl, by decide +kernel, by decide +kernel⟩
abbrev s_l_divided : Stmt := topS 41
abbrev N_l_divided : List Str := ["_law_x", "_law_y"]
theorem sc_l_divided : FnScope N_l_divided ["_law_x", "_law_y"] (defScope s_l_divided) := ⟨rfl, rfl, rfl, by decide +kernel, rfl, by decide +kernel, by decide +kernel⟩
abbrev s_l_is_below : Stmt := topS 42
abbrev N_l_is_below : List Str := ["_law_x", "_law_y"]
theorem sc_l_is_below : FnScope N_l_is_below ["_law_x", "_law_y"] (defScope s_l_is_below) := ⟨rfl, rfl, rfl, by decide +kernel, rfl, by decide +kernel, by decide +kernel⟩
abbrev s_l_reach : Stmt := topS 43
abbrev N_l_reach : List Str := ["_law_bounds_here"]
theorem sc_l_reach : FnScope N_l_reach ["_law_bounds_here"] (defScope s_l_reach) := ⟨rfl, rfl, rfl, by decide +kernel, rfl, by decide +kernel, by decide +kernel⟩
abbrev s_l_lag : Stmt := topS 44
abbrev N_l_lag : List Str := ["_law_bounds_here"]
theorem sc_l_lag : FnScope N_l_lag ["_law_bounds_here"] (defScope s_l_lag) := ⟨rfl, rfl, rfl, by decide +kernel, rfl, by decide +kernel, by decide +kernel⟩
abbrev s_l_rho : Stmt := topS 45
abbrev N_l_rho : List Str := ["_law_bounds_here", "_law_ticks_here"]
theorem sc_l_rho : FnScope N_l_rho ["_law_bounds_here", "_law_ticks_here"] (defScope s_l_rho) := ⟨rfl, rfl, rfl, by decide +kernel, rfl, by decide +kernel, by decide +kernel⟩
abbrev s_l_is_enough : Stmt := topS 46
abbrev N_l_is_enough : List Str := ["_law_bounds_here", "_law_ticks_here", "_law_spacing", "_law_reach_here", "_law_way", "_law_lag_here", "_law_mine"]
theorem sc_l_is_enough : FnScope N_l_is_enough ["_law_bounds_here", "_law_ticks_here"] (defScope s_l_is_enough) := ⟨rfl, rfl, rfl, by decide +kernel, rfl, by decide +kernel, by decide +kernel⟩
abbrev s_l_bounds : Stmt := topS 47
abbrev N_l_bounds : List Str := ["_law_bag_here", "_law_spacing", "_law_near", "_law_wind", "_law_clock", "_law_fall", "_law_way"]
theorem sc_l_bounds : FnScope N_l_bounds ["_law_bag_here"] (defScope s_l_bounds) := ⟨rfl, rfl, rfl, by decide +kernel, rfl, by decide +kernel, by decide +kernel⟩
abbrev s_l_ticks : Stmt := topS 48
abbrev N_l_ticks : List Str := ["_law_bag_here", "_law_bounds_here", "_law_lag_here"]
theorem sc_l_ticks : FnScope N_l_ticks ["_law_bag_here", "_law_bounds_here"] (defScope s_l_ticks) := ⟨rfl, rfl, rfl, by decide +kernel, rfl, by decide +kernel, by decide +kernel⟩
abbrev s_l_first_enough : Stmt := topS 49
abbrev N_l_first_enough : List Str := ["_law_bounds_here", "_law_most", "_law_low", "_law_high", "_law_turn", "_law_middle"]
theorem sc_l_first_enough : FnScope N_l_first_enough ["_law_bounds_here", "_law_most"] (defScope s_l_first_enough) := ⟨rfl, rfl, rfl, by decide +kernel, rfl, by decide +kernel, by decide +kernel⟩
abbrev s_l_squared : Stmt := topS 50
abbrev N_l_squared : List Str := ["_law_one", "_law_other"]
theorem sc_l_squared : FnScope N_l_squared ["_law_one", "_law_other"] (defScope s_l_squared) := ⟨rfl, rfl, rfl, by decide +kernel, rfl, by decide +kernel, by decide +kernel⟩
abbrev s_l_least_diagonal : Stmt := topS 51
abbrev N_l_least_diagonal : List Str := ["_law_spacing", "_law_found", "_law_turn"]
theorem sc_l_least_diagonal : FnScope N_l_least_diagonal ["_law_spacing"] (defScope s_l_least_diagonal) := ⟨rfl, rfl, rfl, by decide +kernel, rfl, by decide +kernel, by decide +kernel⟩
abbrev s_l_offsets : Stmt := topS 52
abbrev N_l_offsets : List Str := ["_law_spacing", "_law_side", "_law_found", "_law_x", "_law_y"]
theorem sc_l_offsets : FnScope N_l_offsets ["_law_spacing"] (defScope s_l_offsets) := ⟨rfl, rfl, rfl, by decide +kernel, rfl, by decide +kernel, by decide +kernel⟩
abbrev s_l_spaced : Stmt := topS 53
abbrev N_l_spaced : List Str := ["_law_bag_here", "_law_spacing", "_law_many", "_law_found", "_law_turn", "_law_base", "_law_offset", "_law_column", "_law_one"]
theorem sc_l_spaced : FnScope N_l_spaced ["_law_bag_here", "_law_spacing", "_law_many"] (defScope s_l_spaced) := ⟨rfl, rfl, rfl, by decide +kernel, rfl, by decide +kernel, by decide +kernel⟩
abbrev s_l_do_cross : Stmt := topS 54
abbrev N_l_do_cross : List Str := ["_law_leg", "_law_other", "_law_a", "_law_b", "_law_c", "_law_d"]
theorem sc_l_do_cross : FnScope N_l_do_cross ["_law_leg", "_law_other"] (defScope s_l_do_cross) := ⟨rfl, rfl, rfl, by decide +kernel, rfl, by decide +kernel, by decide +kernel⟩
abbrev s_l_first_crossing : Stmt := topS 55
abbrev N_l_first_crossing : List Str := ["_law_legs_here", "_law_i", "_law_j"]
theorem sc_l_first_crossing : FnScope N_l_first_crossing ["_law_legs_here"] (defScope s_l_first_crossing) := ⟨rfl, rfl, rfl, by decide +kernel, rfl, by decide +kernel, by decide +kernel⟩
abbrev s_l_uncrossed : Stmt := topS 56
abbrev N_l_uncrossed : List Str := ["_law_legs_here", "_law_found", "_law_pair", "_law_turn", "_law_i", "_law_j"]
theorem sc_l_uncrossed : FnScope N_l_uncrossed ["_law_legs_here"] (defScope s_l_uncrossed) := ⟨rfl, rfl, rfl, by decide +kernel, rfl, by decide +kernel, by decide +kernel⟩
abbrev s_l_legs : Stmt := topS 57
abbrev N_l_legs : List Str := ["_law_bag_here", "_law_spacing", "_law_many", "_law_froms", "_law_tos", "_law_x", "_law_y", "_law_count", "_law_a", "_law_b"]
theorem sc_l_legs : FnScope N_l_legs ["_law_bag_here", "_law_spacing", "_law_many"] (defScope s_l_legs) := ⟨rfl, rfl, rfl, by decide +kernel, rfl, by decide +kernel, by decide +kernel⟩
abbrev s_l_corners : Stmt := topS 58
abbrev N_l_corners : List Str := ["_law_rho_here", "_law_less"]
theorem sc_l_corners : FnScope N_l_corners ["_law_rho_here"] (defScope s_l_corners) := ⟨rfl, rfl, rfl, by decide +kernel, rfl, by decide +kernel, by decide +kernel⟩
abbrev s_l_gap : Stmt := topS 59
abbrev N_l_gap : List Str := ["_law_leg", "_law_other", "_law_s", "_law_t", "_law_found", "_law_at", "_law_one", "_law_two"]
theorem sc_l_gap : FnScope N_l_gap ["_law_leg", "_law_other", "_law_s", "_law_t"] (defScope s_l_gap) := ⟨rfl, rfl, rfl, by decide +kernel, rfl, by decide +kernel, by decide +kernel⟩
abbrev s_l_dot : Stmt := topS 60
abbrev N_l_dot : List Str := ["_law_one", "_law_other"]
theorem sc_l_dot : FnScope N_l_dot ["_law_one", "_law_other"] (defScope s_l_dot) := ⟨rfl, rfl, rfl, by decide +kernel, rfl, by decide +kernel, by decide +kernel⟩
abbrev s_l_gap_squared : Stmt := topS 61
abbrev N_l_gap_squared : List Str := ["_law_leg", "_law_other", "_law_s", "_law_t", "_law_gap_here"]
theorem sc_l_gap_squared : FnScope N_l_gap_squared ["_law_leg", "_law_other", "_law_s", "_law_t"] (defScope s_l_gap_squared) := ⟨rfl, rfl, rfl, by decide +kernel, rfl, by decide +kernel, by decide +kernel⟩
abbrev s_l_on_edge : Stmt := topS 62
abbrev N_l_on_edge : List Str := ["_law_leg", "_law_other", "_law_one", "_law_two", "_law_first", "_law_last", "_law_run", "_law_steep", "_law_part", "_law_s", "_law_t"]
theorem sc_l_on_edge : FnScope N_l_on_edge ["_law_leg", "_law_other", "_law_one", "_law_two"] (defScope s_l_on_edge) := ⟨rfl, rfl, rfl, by decide +kernel, rfl, by decide +kernel, by decide +kernel⟩
abbrev s_l_are_less : Stmt := topS 63
abbrev N_l_are_less : List Str := ["_law_one", "_law_other"]
theorem sc_l_are_less : FnScope N_l_are_less ["_law_one", "_law_other"] (defScope s_l_are_less) := ⟨rfl, rfl, rfl, by decide +kernel, rfl, by decide +kernel, by decide +kernel⟩
abbrev s_l_inner_point : Stmt := topS 64
abbrev N_l_inner_point : List Str := ["_law_leg", "_law_other", "_law_rho_here", "_law_m", "_law_w", "_law_u", "_law_turn", "_law_s", "_law_t", "_law_apart", "_law_at"]
theorem sc_l_inner_point : FnScope N_l_inner_point ["_law_leg", "_law_other", "_law_rho_here"] (defScope s_l_inner_point) := ⟨rfl, rfl, rfl, by decide +kernel, rfl, by decide +kernel, by decide +kernel⟩
abbrev s_l_nearest : Stmt := topS 65
abbrev N_l_nearest : List Str := ["_law_leg", "_law_other", "_law_rho_here", "_law_corners_here", "_law_best", "_law_found", "_law_one", "_law_two", "_law_row"]
theorem sc_l_nearest : FnScope N_l_nearest ["_law_leg", "_law_other", "_law_rho_here"] (defScope s_l_nearest) := ⟨rfl, rfl, rfl, by decide +kernel, rfl, by decide +kernel, by decide +kernel⟩
abbrev s_l_least_ticks : Stmt := topS 66
abbrev N_l_least_ticks : List Str := ["_law_bounds_here", "_law_spacing", "_law_reach_here", "_law_twice"]
theorem sc_l_least_ticks : FnScope N_l_least_ticks ["_law_bounds_here"] (defScope s_l_least_ticks) := ⟨rfl, rfl, rfl, by decide +kernel, rfl, by decide +kernel, by decide +kernel⟩
abbrev s_l_is_bad : Stmt := topS 67
abbrev N_l_is_bad : List Str := ["_law_bounds_here", "_law_ticks_here", "_law_couple", "_law_reach_here"]
theorem sc_l_is_bad : FnScope N_l_is_bad ["_law_bounds_here", "_law_ticks_here", "_law_couple"] (defScope s_l_is_bad) := ⟨rfl, rfl, rfl, by decide +kernel, rfl, by decide +kernel, by decide +kernel⟩
abbrev s_law : Stmt := topS 68
abbrev N_law : List Str := ["_law_script", "_law_bag_here", "_law_turn", "_law_bounds_here", "_law_ticks_here", "_law_least", "_law_way", "_law_legs_here", "_law_is_apart", "_law_j", "_law_other", "_law_leg"]
theorem sc_law : FnScope N_law ["_law_script"] (defScope s_law) := ⟨rfl, rfl, rfl, by decide +kernel, rfl, by decide +kernel, by decide +kernel⟩
end Wk
end
section
set_option Elab.async false
set_option linter.all false
set_option maxRecDepth 100000
set_option maxHeartbeats 4000000
namespace Wk
open PySem PySem.Spec PyProof.Rows L2 Fq
def Nz (a : Nat) (i : Int) : Prop := i.natAbs < 2 ^ a
theorem Nz.mul {a b : Nat} {i j : Int} (h : Nz a i) (g : Nz b j) : Nz (a + b) (i * j) := wide_lt h g
theorem Nz.add {a b : Nat} {i j : Int} (h : Nz a i) (g : Nz b j) : Nz (max a b + 1) (i + j) := by
  unfold Nz at *
  have h3 : 2 ^ a ≤ 2 ^ (max a b) := Nat.pow_le_pow_right (by omega) (by omega)
  have h4 : 2 ^ b ≤ 2 ^ (max a b) := Nat.pow_le_pow_right (by omega) (by omega)
  rw [Nat.pow_succ]
  omega
theorem Nz.neg {a : Nat} {i : Int} (h : Nz a i) : Nz a (-i) := by unfold Nz at *; omega
theorem Nz.sub {a b : Nat} {i j : Int} (h : Nz a i) (g : Nz b j) : Nz (max a b + 1) (i - j) := by
  rw [Int.sub_eq_add_neg]
  exact h.add g.neg
theorem Nz.w {a b : Nat} {i j : Int} (h : Nz a i) (g : Nz b j) (hl : a + b ≤ 900000) : CMulW i j :=
  wide_mul (a := a + 1) (b := b + 1) (Nat.lt_of_lt_of_le h (Nat.pow_le_pow_right (by omega) (by omega))) (Nat.lt_of_lt_of_le g (Nat.pow_le_pow_right (by omega) (by omega))) (by omega) (by omega) (by omega)
theorem Nz.of {a : Nat} {i : Int} (h0 : -(2 ^ a : Int) < i) (h1 : i < (2 ^ a : Int)) : Nz a i := by
  unfold Nz
  have : ((2 ^ a : Nat) : Int) = 2 ^ a := by norm_cast
  omega
theorem Nz.sn {a b : Nat} {q : Rat} (h : Sz a b q) : Nz (a + 1) q.num := by
  unfold Nz
  have := h.n
  rw [Nat.pow_succ]
  have : 0 < 2 ^ a := Nat.pow_pos (by omega)
  omega
theorem Nz.sd {a b : Nat} {q : Rat} (h : Sz a b q) : Nz (b + 1) (q.den : Int) := by
  unfold Nz
  have := h.d
  rw [Nat.pow_succ]
  have : 0 < 2 ^ b := Nat.pow_pos (by omega)
  omega
theorem cdiv_of {a : Nat} {i j : Int} (h : Nz a j) (h0 : j ≠ 0) (hl : a ≤ 9000) : CDivNW i j := ⟨h0, by
  have e : (0 : Nat) < a ∨ a = 0 := by omega
  rcases e with e | e
  · exact Nat.lt_of_lt_of_le (PySem.Flt.log2_lt_of e h) hl
  · subst e
    unfold Nz at h
    have : j.natAbs = 0 := by omega
    omega⟩
local macro_rules | `(tactic| walk_at "nz") => `(tactic| first | assumption | exact Nz.sn (by assumption) | exact Nz.sd (by assumption) | (apply Nz.mul <;> walk_at "nz") | (apply Nz.add <;> walk_at "nz") | (apply Nz.sub <;> walk_at "nz") | (apply Nz.neg <;> walk_at "nz") | exact (show Nz 20 _ by unfold Nz; decide))
local macro_rules | `(tactic| walk_at "mw") => `(tactic| (apply Nz.w; (· walk_at "nz"); (· walk_at "nz"); decide))
def fr (q : Rat) : D := .tup [.int q.num, .int q.den]
section
variable {P : Program} {w : World} {K : PySem.W.Frag} {mg : Str → Option Value} {base : Heap}
variable {X : Cx} {M : Mu} {env : DEnv} {a b c e : Expr} {es : List Expr} {pos p p2 p3 : Pos} {n : Nat} {i j : Int} {x y z : Rat} {a0 : Expr}
theorem pd_frI {k k2 : Nat} (h : PD X M a env (.int i)) (hs : starEach [a, .Constant (.int 1) k p] X.env = (false, eval a X.env) :: starEach [.Constant (.int 1) k p] X.env := by rfl) : PD X M (.Tuple [a, .Constant (.int 1) k p] k2 pos) env (fr (i : Rat)) := by
  have e : fr (i : Rat) = .tup [.int i, .int 1] := by
    unfold fr
    rw [Rat.num_intCast, Rat.den_intCast] <;> rfl
  rw [e]
  exact pd_tup (pad_cons h (pad_cons pd_int pad_nil) hs)
def R_reduced (ds : List D) (d : D) : Prop := ∃ n k : Int, ds = [.int n, .int k] ∧ k ≠ 0 ∧ Nz 9000 k ∧ d = fr (Rat.divInt n k)
def R_added (ds : List D) (d : D) : Prop := ∃ (x y : Rat) (a b c e : Nat), ds = [fr x, fr y] ∧ Sz a b x ∧ Sz c e y ∧ (a + b + c + e ≤ 100000 ∧ b + e ≤ 8990) ∧ d = fr (x + y)
def R_lessened (ds : List D) (d : D) : Prop := ∃ (x y : Rat) (a b c e : Nat), ds = [fr x, fr y] ∧ Sz a b x ∧ Sz c e y ∧ (a + b + c + e ≤ 100000 ∧ b + e ≤ 8990) ∧ d = fr (x - y)
def R_times (ds : List D) (d : D) : Prop := ∃ (x y : Rat) (a b c e : Nat), ds = [fr x, fr y] ∧ Sz a b x ∧ Sz c e y ∧ (a + b + c + e ≤ 100000 ∧ b + e ≤ 8990) ∧ d = fr (x * y)
def R_over (ds : List D) (d : D) : Prop := ∃ (x y : Rat) (a b c e : Nat), ds = [fr x, fr y] ∧ y ≠ 0 ∧ Sz a b x ∧ Sz c e y ∧ (a + b + c + e ≤ 100000 ∧ b + c ≤ 8990) ∧ d = fr (x / y)
def R_compared (ds : List D) (d : D) : Prop := ∃ (x y : Rat) (a b c e : Nat), ds = [fr x, fr y] ∧ Sz a b x ∧ Sz c e y ∧ a + b + c + e ≤ 100000 ∧ d = .int (Mi.cmpQ x y)
theorem k_reduced (C : Cal X.prog X.w X.K X.mg X.base "reduced" 1 ["n", "d"] (spP X.K R_reduced)) (hr : Room n X.A) (ha : PAD X M (a0 :: es) env [.int i, .int j]) (h : j ≠ 0 ∧ Nz 9000 j) (hk : 1 ≤ n := by decide) (hg : Gl X "reduced" := by rfl) (he : starEach (a0 :: es) X.env = (false, eval a0 X.env) :: starEach es X.env := by rfl) (hpl : (backTo pos (starEach es X.env)).any (·.1) = false := by rfl) : PD X M (.Call (.Name "reduced" p) (a0 :: es) [] pos) env (fr (Rat.divInt i j)) :=
  pd_call C hr ha ⟨i, j, rfl, h.1, h.2, rfl⟩ hk hg (by decide) he hpl
def Sz2 (x y : Rat) : Prop := ∃ a b c e : Nat, Sz a b x ∧ Sz c e y ∧ (a + b + c + e ≤ 100000 ∧ b + e ≤ 8990)
def SzD (x y : Rat) : Prop := y ≠ 0 ∧ ∃ a b c e : Nat, Sz a b x ∧ Sz c e y ∧ (a + b + c + e ≤ 100000 ∧ b + c ≤ 8990)
def SzC (x y : Rat) : Prop := ∃ a b c e : Nat, Sz a b x ∧ Sz c e y ∧ a + b + c + e ≤ 100000
theorem k_added (C : Cal X.prog X.w X.K X.mg X.base "added" 2 ["one", "other"] (spP X.K R_added)) (hr : Room n X.A) (ha : PAD X M (a0 :: es) env [fr x, fr y]) (h : Sz2 x y) (hk : 2 ≤ n := by decide) (hg : Gl X "added" := by rfl) (he : starEach (a0 :: es) X.env = (false, eval a0 X.env) :: starEach es X.env := by rfl) (hpl : (backTo pos (starEach es X.env)).any (·.1) = false := by rfl) : PD X M (.Call (.Name "added" p) (a0 :: es) [] pos) env (fr (x + y)) :=
  pd_call C hr ha (let ⟨a, b, c, e, h1, h2, h3⟩ := h; ⟨x, y, a, b, c, e, rfl, h1, h2, h3, rfl⟩) hk hg (by decide) he hpl
theorem k_lessened (C : Cal X.prog X.w X.K X.mg X.base "lessened" 2 ["one", "other"] (spP X.K R_lessened)) (hr : Room n X.A) (ha : PAD X M (a0 :: es) env [fr x, fr y]) (h : Sz2 x y) (hk : 2 ≤ n := by decide) (hg : Gl X "lessened" := by rfl) (he : starEach (a0 :: es) X.env = (false, eval a0 X.env) :: starEach es X.env := by rfl) (hpl : (backTo pos (starEach es X.env)).any (·.1) = false := by rfl) : PD X M (.Call (.Name "lessened" p) (a0 :: es) [] pos) env (fr (x - y)) :=
  pd_call C hr ha (let ⟨a, b, c, e, h1, h2, h3⟩ := h; ⟨x, y, a, b, c, e, rfl, h1, h2, h3, rfl⟩) hk hg (by decide) he hpl
theorem k_times (C : Cal X.prog X.w X.K X.mg X.base "times" 2 ["one", "other"] (spP X.K R_times)) (hr : Room n X.A) (ha : PAD X M (a0 :: es) env [fr x, fr y]) (h : Sz2 x y) (hk : 2 ≤ n := by decide) (hg : Gl X "times" := by rfl) (he : starEach (a0 :: es) X.env = (false, eval a0 X.env) :: starEach es X.env := by rfl) (hpl : (backTo pos (starEach es X.env)).any (·.1) = false := by rfl) : PD X M (.Call (.Name "times" p) (a0 :: es) [] pos) env (fr (x * y)) :=
  pd_call C hr ha (let ⟨a, b, c, e, h1, h2, h3⟩ := h; ⟨x, y, a, b, c, e, rfl, h1, h2, h3, rfl⟩) hk hg (by decide) he hpl
theorem k_over (C : Cal X.prog X.w X.K X.mg X.base "over" 2 ["one", "other"] (spP X.K R_over)) (hr : Room n X.A) (ha : PAD X M (a0 :: es) env [fr x, fr y]) (h : SzD x y) (hk : 2 ≤ n := by decide) (hg : Gl X "over" := by rfl) (he : starEach (a0 :: es) X.env = (false, eval a0 X.env) :: starEach es X.env := by rfl) (hpl : (backTo pos (starEach es X.env)).any (·.1) = false := by rfl) : PD X M (.Call (.Name "over" p) (a0 :: es) [] pos) env (fr (x / y)) :=
  pd_call C hr ha (let ⟨h0, a, b, c, e, h1, h2, h3⟩ := h; ⟨x, y, a, b, c, e, rfl, h0, h1, h2, h3, rfl⟩) hk hg (by decide) he hpl
theorem k_compared (C : Cal X.prog X.w X.K X.mg X.base "compared" 1 ["one", "other"] (spP X.K R_compared)) (hr : Room n X.A) (ha : PAD X M (a0 :: es) env [fr x, fr y]) (h : SzC x y) (hk : 1 ≤ n := by decide) (hg : Gl X "compared" := by rfl) (he : starEach (a0 :: es) X.env = (false, eval a0 X.env) :: starEach es X.env := by rfl) (hpl : (backTo pos (starEach es X.env)).any (·.1) = false := by rfl) : PD X M (.Call (.Name "compared" p) (a0 :: es) [] pos) env (.int (Mi.cmpQ x y)) :=
  pd_call C hr ha (let ⟨a, b, c, e, h1, h2, h3⟩ := h; ⟨x, y, a, b, c, e, rfl, h1, h2, h3, rfl⟩) hk hg (by decide) he hpl
theorem cal_reduced {f : Addr} {fd : FuncData} (F : FnP K "reduced" s_reduced f fd) (m : mg "reduced" = some (.ref f))  (m_gcd : mg "gcd" = some (.builtin "math.gcd")) : Cal P w K mg base "reduced" 1 ["n", "d"] (spP K R_reduced) := by
  refine cal_of F m (F.bindsN fun _ _ _ _ _ _ us hl => match us, hl with | [_, _], _ => rfl) (okP F sc_reduced (fun ds d h => ?_) fun cdv A outer s H E hr M ds d hR => ?_)
  · obtain ⟨n, k, rfl, _⟩ := h
    rfl
  have nd := sc_reduced.nd
  obtain ⟨n, k, rfl, k0, kz, rfl⟩ := hR
  have gz : Nz 9000 (sgn k (Nat.gcd n.natAbs k.natAbs)) := by
    have : Nat.gcd n.natAbs k.natAbs ≤ k.natAbs := Nat.gcd_le_right _ (by omega)
    unfold Nz sgn at *
    split <;> omega
  have g0 : sgn k (Nat.gcd n.natAbs k.natAbs) ≠ 0 := by
    have : 0 < Nat.gcd n.natAbs k.natAbs := Nat.gcd_pos_of_pos_right _ (by omega)
    unfold sgn
    split <;> omega
  refine sd_cons (s1_set 2 (pd_ifT (d := .int (sgn k (Nat.gcd n.natAbs k.natAbs))) (ptd_gt (pd_var 1) pd_int) (fun h => ((pd_gcd m_gcd (pd_var 0) (pd_var 1)).of ?_)) (fun h => (pd_neg (pd_gcd m_gcd (pd_var 0) (pd_var 1))).of ?_)) nd) ?_
  · unfold sgn; rw [if_pos (of_decide_eq_true h)]
  · unfold sgn; rw [if_neg (of_decide_eq_false h)]
  refine sd_last (s1_ret ((pd_tup (pad_cons (pd_fdivNW (pd_var 0) (pd_var 2) (cdiv_of gz g0 (by decide))) (pad_cons (pd_fdivNW (pd_var 1) (pd_var 2) (cdiv_of gz g0 (by decide))) pad_nil))).of ?_))
  unfold fr
  rw [(parts n k0).1, (parts n k0).2]
end
end Wk
end
section
set_option Elab.async false
set_option linter.all false
set_option maxRecDepth 100000
set_option maxHeartbeats 4000000
namespace Wk
open PySem PySem.Spec PyProof.Rows L2 Fq
local macro_rules | `(tactic| walk_at "nz") => `(tactic| first | assumption | exact Nz.sn (by assumption) | exact Nz.sd (by assumption) | (apply Nz.mul <;> walk_at "nz") | (apply Nz.add <;> walk_at "nz") | (apply Nz.sub <;> walk_at "nz") | (apply Nz.neg <;> walk_at "nz") | exact (show Nz 20 _ by unfold Nz; decide))
local macro_rules | `(tactic| walk_at "mw") => `(tactic| (apply Nz.w; (· walk_at "nz"); (· walk_at "nz"); decide))
section
variable {P : Program} {w : World} {K : PySem.W.Frag} {mg : Str → Option Value} {base : Heap}
theorem den_nz {x y : Rat} : (x.den : Int) * (y.den : Int) ≠ 0 := Int.mul_ne_zero (den_ne x) (den_ne y)
theorem cal_added {f : Addr} {fd : FuncData} (F : FnP K "added" s_added f fd) (m : mg "added" = some (.ref f)) (c_reduced : Cal P w K mg base "reduced" 1 ["n", "d"] (spP K R_reduced))  : Cal P w K mg base "added" 2 ["one", "other"] (spP K R_added) := by
  refine cal_of F m (F.bindsN fun _ _ _ _ _ _ us hl => match us, hl with | [_, _], _ => rfl) (okP F sc_added (fun ds d h => ?_) fun cdv A outer s H E hr M ds d hR => ?_)
  · obtain ⟨_, _, _, _, _, _, rfl, _⟩ := h
    rfl
  have nd := sc_added.nd
  obtain ⟨x, y, a, b, c, e, rfl, hx, hy, ⟨h1, h2⟩, rfl⟩ := hR
  refine sd_last (s1_ret ((k_reduced c_reduced hr (pad_cons (pd_add (pd_mulW (pd_ixT (pd_var 0) pd_int) (pd_ixT (pd_var 1) pd_int) ?_) (pd_mulW (pd_ixT (pd_var 1) pd_int) (pd_ixT (pd_var 0) pd_int) ?_)) (pad_cons (pd_mulW (pd_ixT (pd_var 0) pd_int) (pd_ixT (pd_var 1) pd_int) ?_) pad_nil)) ?_).of (congrArg fr (add_eq x y))))
  · exact Nz.w (.sn hx) (.sd hy) (by omega)
  · exact Nz.w (.sn hy) (.sd hx) (by omega)
  · exact Nz.w (.sd hx) (.sd hy) (by omega)
  · exact ⟨den_nz, Nat.lt_of_lt_of_le (Nz.mul (.sd hx) (.sd hy)) (Nat.pow_le_pow_right (by omega) (by omega))⟩
theorem cal_lessened {f : Addr} {fd : FuncData} (F : FnP K "lessened" s_lessened f fd) (m : mg "lessened" = some (.ref f)) (c_reduced : Cal P w K mg base "reduced" 1 ["n", "d"] (spP K R_reduced))  : Cal P w K mg base "lessened" 2 ["one", "other"] (spP K R_lessened) := by
  refine cal_of F m (F.bindsN fun _ _ _ _ _ _ us hl => match us, hl with | [_, _], _ => rfl) (okP F sc_lessened (fun ds d h => ?_) fun cdv A outer s H E hr M ds d hR => ?_)
  · obtain ⟨_, _, _, _, _, _, rfl, _⟩ := h
    rfl
  have nd := sc_lessened.nd
  obtain ⟨x, y, a, b, c, e, rfl, hx, hy, ⟨h1, h2⟩, rfl⟩ := hR
  refine sd_last (s1_ret ((k_reduced c_reduced hr (pad_cons (pd_sub (pd_mulW (pd_ixT (pd_var 0) pd_int) (pd_ixT (pd_var 1) pd_int) ?_) (pd_mulW (pd_ixT (pd_var 1) pd_int) (pd_ixT (pd_var 0) pd_int) ?_)) (pad_cons (pd_mulW (pd_ixT (pd_var 0) pd_int) (pd_ixT (pd_var 1) pd_int) ?_) pad_nil)) ?_).of (congrArg fr (sub_eq x y))))
  · exact Nz.w (.sn hx) (.sd hy) (by omega)
  · exact Nz.w (.sn hy) (.sd hx) (by omega)
  · exact Nz.w (.sd hx) (.sd hy) (by omega)
  · exact ⟨den_nz, Nat.lt_of_lt_of_le (Nz.mul (.sd hx) (.sd hy)) (Nat.pow_le_pow_right (by omega) (by omega))⟩
theorem cal_times {f : Addr} {fd : FuncData} (F : FnP K "times" s_times f fd) (m : mg "times" = some (.ref f)) (c_reduced : Cal P w K mg base "reduced" 1 ["n", "d"] (spP K R_reduced))  : Cal P w K mg base "times" 2 ["one", "other"] (spP K R_times) := by
  refine cal_of F m (F.bindsN fun _ _ _ _ _ _ us hl => match us, hl with | [_, _], _ => rfl) (okP F sc_times (fun ds d h => ?_) fun cdv A outer s H E hr M ds d hR => ?_)
  · obtain ⟨_, _, _, _, _, _, rfl, _⟩ := h
    rfl
  have nd := sc_times.nd
  obtain ⟨x, y, a, b, c, e, rfl, hx, hy, ⟨h1, h2⟩, rfl⟩ := hR
  refine sd_last (s1_ret ((k_reduced c_reduced hr (pad_cons (pd_mulW (pd_ixT (pd_var 0) pd_int) (pd_ixT (pd_var 1) pd_int) ?_) (pad_cons (pd_mulW (pd_ixT (pd_var 0) pd_int) (pd_ixT (pd_var 1) pd_int) ?_) pad_nil)) ?_).of (congrArg fr (mul_eq x y))))
  · exact Nz.w (.sn hx) (.sn hy) (by omega)
  · exact Nz.w (.sd hx) (.sd hy) (by omega)
  · exact ⟨den_nz, Nat.lt_of_lt_of_le (Nz.mul (.sd hx) (.sd hy)) (Nat.pow_le_pow_right (by omega) (by omega))⟩
theorem cal_over {f : Addr} {fd : FuncData} (F : FnP K "over" s_over f fd) (m : mg "over" = some (.ref f)) (c_reduced : Cal P w K mg base "reduced" 1 ["n", "d"] (spP K R_reduced))  : Cal P w K mg base "over" 2 ["one", "other"] (spP K R_over) := by
  refine cal_of F m (F.bindsN fun _ _ _ _ _ _ us hl => match us, hl with | [_, _], _ => rfl) (okP F sc_over (fun ds d h => ?_) fun cdv A outer s H E hr M ds d hR => ?_)
  · obtain ⟨_, _, _, _, _, _, rfl, _⟩ := h
    rfl
  have nd := sc_over.nd
  obtain ⟨x, y, a, b, c, e, rfl, y0, hx, hy, ⟨h1, h2⟩, rfl⟩ := hR
  refine sd_last (s1_ret ((k_reduced c_reduced hr (pad_cons (pd_mulW (pd_ixT (pd_var 0) pd_int) (pd_ixT (pd_var 1) pd_int) ?_) (pad_cons (pd_mulW (pd_ixT (pd_var 0) pd_int) (pd_ixT (pd_var 1) pd_int) ?_) pad_nil)) ?_).of (congrArg fr (div_eq x y0))))
  · exact Nz.w (.sn hx) (.sd hy) (by omega)
  · exact Nz.w (.sd hx) (.sn hy) (by omega)
  · exact ⟨Int.mul_ne_zero (den_ne x) (fun e => y0 (Rat.num_eq_zero.mp e)), Nat.lt_of_lt_of_le (Nz.mul (.sd hx) (.sn hy)) (Nat.pow_le_pow_right (by omega) (by omega))⟩
theorem cal_compared {f : Addr} {fd : FuncData} (F : FnP K "compared" s_compared f fd) (m : mg "compared" = some (.ref f))  (m_int : mg "int" = none) : Cal P w K mg base "compared" 1 ["one", "other"] (spP K R_compared) := by
  refine cal_of F m (F.bindsN fun _ _ _ _ _ _ us hl => match us, hl with | [_, _], _ => rfl) (okP F sc_compared (fun ds d h => ?_) fun cdv A outer s H E hr M ds d hR => ?_)
  · obtain ⟨_, _, _, _, _, _, rfl, _⟩ := h
    rfl
  have nd := sc_compared.nd
  obtain ⟨x, y, a, b, c, e, rfl, hx, hy, h1, rfl⟩ := hR
  refine sd_cons (s1_par 2 3 (pd_mulW (pd_ixT (pd_var 0) pd_int) (pd_ixT (pd_var 1) pd_int) ?_) (pd_mulW (pd_ixT (pd_var 1) pd_int) (pd_ixT (pd_var 0) pd_int) ?_) nd) ?_
  · exact Nz.w (.sn hx) (.sd hy) (by omega)
  · exact Nz.w (.sn hy) (.sd hx) (by omega)
  refine sd_last (s1_ret ((pd_sub (pd_intB m_int (pd_gt (pd_var 2) (pd_var 3))) (pd_intB m_int (pd_lt (pd_var 2) (pd_var 3)))).of ?_))
  unfold Mi.cmpQ
  have e1 : decide (y.num * x.den < x.num * y.den) = decide (y < x) := decide_eq_decide.mpr (compared y x)
  have e2 : decide (x.num * y.den < y.num * x.den) = decide (x < y) := decide_eq_decide.mpr (compared x y)
  rw [e1, e2]
  simp
structure Bo where
  (S near wind clock fall way x1 x2 x3 : Int)
def boD (B : Bo) : D := .tup [.int B.S, .int B.near, .int B.wind, .int B.clock, .int B.fall, .int B.way, .int B.x1, .int B.x2, .int B.x3]
structure BoOk (B : Bo) : Prop where
  S1 : 1 ≤ B.S
  S2 : B.S ≤ 100
  n1 : 1 ≤ B.near
  n2 : B.near ≤ 100
  w1 : 0 ≤ B.wind
  w2 : B.wind ≤ 100
  c1 : 0 ≤ B.clock
  c2 : B.clock ≤ 100
  f1 : 0 ≤ B.fall
  f2 : B.fall ≤ 100
  y1 : B.S ≤ B.way
  y2 : B.way ≤ 1000
def Bo.R (B : Bo) : Int := B.near + 2 * B.wind
def Bo.L (B : Bo) : Int := B.fall + 2 * B.clock
theorem nz_small {a : Nat} {i : Int} (h0 : -(1000) ≤ i) (h1 : i ≤ 1000) (h : 10 ≤ a := by decide) : Nz a i := by
  unfold Nz
  have : 2 ^ 10 ≤ 2 ^ a := Nat.pow_le_pow_right (by omega) h
  omega
def R_r_of (ds : List D) (d : D) : Prop := ∃ B, ds = [boD B] ∧ BoOk B ∧ d = .int B.R
def R_lag_of (ds : List D) (d : D) : Prop := ∃ B, ds = [boD B] ∧ BoOk B ∧ d = .int B.L
def Tk (B : Bo) (T : Int) : Prop := 1 ≤ T ∧ B.L ≤ T ∧ T < 2 ^ 42
def Bo.rho (B : Bo) (T : Int) : Rat := Rat.divInt B.L T
def R_rho_of (ds : List D) (d : D) : Prop := ∃ B T, ds = [boD B, .int T] ∧ BoOk B ∧ Tk B T ∧ d = fr (B.rho T)
theorem cal_r_of {f : Addr} {fd : FuncData} (F : FnP K "r_of" s_r_of f fd) (m : mg "r_of" = some (.ref f))   : Cal P w K mg base "r_of" 1 ["bounds"] (spP K R_r_of) := by
  refine cal_of F m (F.bindsN fun _ _ _ _ _ _ us hl => match us, hl with | [_], _ => rfl) (okP F sc_r_of (fun ds d h => ?_) fun cdv A outer s H E hr M ds d hR => ?_)
  · obtain ⟨_, rfl, _⟩ := h
    rfl
  obtain ⟨B, rfl, hB, rfl⟩ := hR
  refine sd_last (s1_ret (pd_add (pd_ixT (pd_var 0) pd_int) (pd_mulW pd_int (pd_ixT (pd_var 0) pd_int) ?_)))
  have := hB.w1
  have := hB.w2
  exact Nz.w (a := 20) (b := 10) (nz_small (by omega) (by omega)) (nz_small (by omega) (by omega)) (by decide)
theorem cal_lag_of {f : Addr} {fd : FuncData} (F : FnP K "lag_of" s_lag_of f fd) (m : mg "lag_of" = some (.ref f))   : Cal P w K mg base "lag_of" 1 ["bounds"] (spP K R_lag_of) := by
  refine cal_of F m (F.bindsN fun _ _ _ _ _ _ us hl => match us, hl with | [_], _ => rfl) (okP F sc_lag_of (fun ds d h => ?_) fun cdv A outer s H E hr M ds d hR => ?_)
  · obtain ⟨_, rfl, _⟩ := h
    rfl
  obtain ⟨B, rfl, hB, rfl⟩ := hR
  refine sd_last (s1_ret (pd_add (pd_ixT (pd_var 0) pd_int) (pd_mulW pd_int (pd_ixT (pd_var 0) pd_int) ?_)))
  have := hB.c1
  have := hB.c2
  exact Nz.w (a := 20) (b := 10) (nz_small (by omega) (by omega)) (nz_small (by omega) (by omega)) (by decide)
theorem nz_T {B : Bo} {T : Int} (h : Tk B T) : Nz 42 T := by
  obtain ⟨h1, h2, h3⟩ := h
  unfold Nz
  omega
theorem cal_rho_of {f : Addr} {fd : FuncData} (F : FnP K "rho_of" s_rho_of f fd) (m : mg "rho_of" = some (.ref f)) (c_reduced : Cal P w K mg base "reduced" 1 ["n", "d"] (spP K R_reduced)) (c_lag_of : Cal P w K mg base "lag_of" 1 ["bounds"] (spP K R_lag_of))  : Cal P w K mg base "rho_of" 2 ["bounds", "ticks"] (spP K R_rho_of) := by
  refine cal_of F m (F.bindsN fun _ _ _ _ _ _ us hl => match us, hl with | [_, _], _ => rfl) (okP F sc_rho_of (fun ds d h => ?_) fun cdv A outer s H E hr M ds d hR => ?_)
  · obtain ⟨_, _, rfl, _⟩ := h
    rfl
  obtain ⟨B, T, rfl, hB, hT, rfl⟩ := hR
  refine sd_last (s1_ret (k_reduced c_reduced hr (pad_cons (pd_call c_lag_of hr (pad_cons (pd_var 0) pad_nil) ⟨B, rfl, hB, rfl⟩) (pad_cons (pd_var 1) pad_nil)) ?_))
  refine ⟨by have := hT.1; omega, Nat.lt_of_lt_of_le (nz_T hT) (Nat.pow_le_pow_right (by omega) (by omega))⟩
def enPb (S W R n d : Int) : Bool := decide (0 ≤ S * S * d * d - 2 * R * R * d * d - n * n * (2 * W * W - S * S)) && decide (8 * R * R * d * d * (n * n * (2 * W * W - S * S)) ≤ (S * S * d * d - 2 * R * R * d * d - n * n * (2 * W * W - S * S)) * (S * S * d * d - 2 * R * R * d * d - n * n * (2 * W * W - S * S)))
theorem enPb_iff (S W R n d : Int) : enPb S W R n d = true ↔ Enough.enP S W R n d := by
  unfold enPb Enough.enP
  rw [Bool.and_eq_true, decide_eq_true_iff, decide_eq_true_iff]
theorem rho_sz {B : Bo} {T : Int} (hB : BoOk B) (hT : Tk B T) : Sz 10 42 (B.rho T) := by
  have h1 := hB.c1
  have h2 := hB.c2
  have h3 := hB.f1
  have h4 := hB.f2
  have h5 := nz_T hT
  refine sz_divInt (by have := hT.1; omega) ?_ ?_
  · unfold Bo.L
    omega
  · unfold Nz at h5
    omega
def R_is_enough (ds : List D) (d : D) : Prop := ∃ B T, ds = [boD B, .int T] ∧ BoOk B ∧ Tk B T ∧ d = .bl (enPb B.S B.way B.R (B.rho T).num (B.rho T).den)
theorem nz_bo {B : Bo} (hB : BoOk B) : Nz 10 B.S ∧ Nz 10 B.way ∧ Nz 10 B.R ∧ Nz 10 B.L := by
  obtain ⟨a1, a2, a3, a4, a5, a6, a7, a8, a9, a10, a11, a12⟩ := hB
  unfold Bo.R Bo.L
  exact ⟨nz_small (by omega) (by omega), nz_small (by omega) (by omega), nz_small (by omega) (by omega), nz_small (by omega) (by omega)⟩
theorem cal_is_enough {f : Addr} {fd : FuncData} (F : FnP K "is_enough" s_is_enough f fd) (m : mg "is_enough" = some (.ref f)) (c_rho_of : Cal P w K mg base "rho_of" 2 ["bounds", "ticks"] (spP K R_rho_of)) (c_r_of : Cal P w K mg base "r_of" 1 ["bounds"] (spP K R_r_of))  : Cal P w K mg base "is_enough" 3 ["bounds", "ticks"] (spP K R_is_enough) := by
  refine cal_of F m (F.bindsN fun _ _ _ _ _ _ us hl => match us, hl with | [_, _], _ => rfl) (okP F sc_is_enough (fun ds d h => ?_) fun cdv A outer s H E hr M ds d hR => ?_)
  · obtain ⟨_, _, rfl, _⟩ := h
    rfl
  have nd := sc_is_enough.nd
  obtain ⟨B, T, rfl, hB, hT, rfl⟩ := hR
  obtain ⟨z1, z2, z3, z4⟩ := nz_bo hB
  have zr := rho_sz hB hT
  have zn := Nz.sn zr
  have zd := Nz.sd zr
  refine sd_cons (s1_par3 2 3 4 (pd_ixT (pd_var 0) pd_int) (pd_ixT (pd_var 0) pd_int) (pd_call c_r_of hr (pad_cons (pd_var 0) pad_nil) ⟨B, rfl, hB, rfl⟩) nd) ?_
  refine sd_cons (s1_asg (pd_call c_rho_of hr (pad_cons (pd_var 0) (pad_cons (pd_var 1) pad_nil)) ⟨B, T, rfl, hB, hT, rfl⟩) (gd_tup (gds_cons (gd_name 5 nd) (gds_cons (gd_name 6 nd) gds_nil)))) ?_
  refine sd_cons (s1_set 7 (pd_mulW (pd_mulW (pd_mulW (pd_var 2) (pd_var 2) ?_) (pd_var 6) ?_) (pd_var 6) ?_) nd) ?_
  · walk_at "mw"
  · walk_at "mw"
  · walk_at "mw"
  refine sd_cons (s1_set 8 (pd_mulW (pd_mulW (pd_var 5) (pd_var 5) ?_) (pd_sub (pd_mulW (pd_mulW pd_int (pd_var 3) ?_) (pd_var 3) ?_) (pd_mulW (pd_var 2) (pd_var 2) ?_)) ?_) nd) ?_
  iterate 5 (· walk_at "mw")
  refine sd_cons (s1_set 9 (pd_sub (pd_sub (pd_var 7) (pd_mulW (pd_mulW (pd_mulW (pd_mulW pd_int (pd_var 4) ?_) (pd_var 4) ?_) (pd_var 6) ?_) (pd_var 6) ?_)) (pd_var 8)) nd) ?_
  iterate 4 (· walk_at "mw")
  refine sd_last (s1_ret (pd_and (pd_ge (pd_var 9) pd_int) fun _ => (pd_one (pd_ge (pd_mulW (pd_var 9) (pd_var 9) ?_) (pd_mulW (pd_mulW (pd_mulW (pd_mulW (pd_mulW pd_int (pd_var 4) ?_) (pd_var 4) ?_) (pd_var 6) ?_) (pd_var 6) ?_) (pd_var 8) ?_)))))
  iterate 6 (· walk_at "mw")
end
end Wk
end
section
set_option Elab.async false
set_option linter.all false
set_option maxRecDepth 100000
set_option maxHeartbeats 4000000
namespace Wk
open PySem PySem.Spec PyProof.Rows L2 Fq
open Mi (Col Leg P2 pl dotQ sqAt)
def colD (c : Col) : D := .tup [.int c.1, .int c.2]
def legD (l : Leg) : D := .tup [colD l.1, colD l.2]
def p2D (p : P2) : D := .tup [fr p.1, fr p.2]
def LegOk (l : Leg) : Prop := (Nz 15 l.1.1 ∧ Nz 15 l.1.2) ∧ Nz 15 l.2.1 ∧ Nz 15 l.2.2
theorem sz_nz {a : Nat} {i : Int} (h : Nz a i) : Sz a 0 (i : Rat) := Sz.int (Nat.le_of_lt h)
theorem pl_sz {a b : Nat} {i j : Int} {s : Rat} (hi : Nz 15 i) (hj : Nz 15 j) (hs : Sz a b s) : Sz (a + b + 18) b (pl i j s) :=
  ((sz_nz hi).add (hs.mul (sz_nz (hj.sub hi)))).mono (by omega) (by omega)
theorem gap_sz {a b c e : Nat} {l o : Leg} {s t : Rat} (hl : LegOk l) (ho : LegOk o) (hs : Sz a b s) (ht : Sz c e t) : Sz (a + b + c + e + 19) (b + e) (Mi.gap l o s t).1 ∧ Sz (a + b + c + e + 19) (b + e) (Mi.gap l o s t).2 :=
  ⟨((pl_sz ho.1.1 ho.2.1 ht).sub (pl_sz hl.1.1 hl.2.1 hs)).mono (by omega) (by omega), ((pl_sz ho.1.2 ho.2.2 ht).sub (pl_sz hl.1.2 hl.2.2 hs)).mono (by omega) (by omega)⟩
theorem dot_sz {a b c e : Nat} {u v : P2} (u1 : Sz a b u.1) (u2 : Sz a b u.2) (v1 : Sz c e v.1) (v2 : Sz c e v.2) : Sz (a + b + c + e + 1) (2 * (b + e)) (dotQ u v) :=
  ((u1.mul v1).add (u2.mul v2)).mono (by omega) (by omega)
section
variable {P : Program} {w : World} {K : PySem.W.Frag} {mg : Str → Option Value} {base : Heap}
variable {X : Cx} {M : Mu} {env : DEnv} {es : List Expr} {pos p : Pos} {n : Nat} {a0 : Expr} {l o : Leg} {s t : Rat} {u v : P2}
def Tup2 (K : PySem.W.Frag) (mg : Str → Option Value) (x : Str) (i j : Int) : Prop := ∃ T, mg x = some (.ref T) ∧ ∀ H, SqT K H T [.int i, .int j]
theorem pd_T2 {x : Str} {i j : Int} (h : Tup2 X.K X.mg x i j) (hg : Gl X x := by rfl) (hd : (x == ("__debug__" : Str)) = false := by decide) : PD X M (.Name x pos) env (.tup [.int i, .int j]) := by
  obtain ⟨T, m, ht⟩ := h
  exact pd_glob hg m ht (fun H => ⟨_, _, rfl, rfl, _, _, rfl, rfl, rfl⟩) hd
def R_place_on (ds : List D) (d : D) : Prop := ∃ l s a b, ds = [legD l, fr s] ∧ LegOk l ∧ Sz a b s ∧ (a ≤ 30000 ∧ b ≤ 8000) ∧ d = .tup [fr (pl l.1.1 l.2.1 s), fr (pl l.1.2 l.2.2 s)]
def R_parting (ds : List D) (d : D) : Prop := ∃ l o s t a b c e, ds = [legD l, legD o, fr s, fr t] ∧ LegOk l ∧ LegOk o ∧ Sz a b s ∧ Sz c e t ∧ (a ≤ 20000 ∧ c ≤ 20000 ∧ b + e ≤ 8000) ∧ d = p2D (Mi.gap l o s t)
def R_dot (ds : List D) (d : D) : Prop := ∃ u v a b c e, ds = [p2D u, p2D v] ∧ (Sz a b u.1 ∧ Sz a b u.2 ∧ Sz c e v.1 ∧ Sz c e v.2) ∧ (a + b + c + e ≤ 30000 ∧ 2 * (b + e) ≤ 8900) ∧ d = fr (dotQ u v)
def R_squared_at (ds : List D) (d : D) : Prop := ∃ l o s t a b c e, ds = [legD l, legD o, fr s, fr t] ∧ LegOk l ∧ LegOk o ∧ Sz a b s ∧ Sz c e t ∧ (a + b + c + e ≤ 6000 ∧ 4 * (b + e) ≤ 8900) ∧ d = fr (sqAt l o (s, t))
theorem k_place_on (C : Cal X.prog X.w X.K X.mg X.base "place_on" 3 ["leg", "s"] (spP X.K R_place_on)) (hr : Room n X.A) (ha : PAD X M (a0 :: es) env [legD l, fr s]) (h : LegOk l ∧ ∃ a b, Sz a b s ∧ (a ≤ 30000 ∧ b ≤ 8000)) (hk : 3 ≤ n := by decide) (hg : Gl X "place_on" := by rfl) (he : starEach (a0 :: es) X.env = (false, eval a0 X.env) :: starEach es X.env := by rfl) (hpl : (backTo pos (starEach es X.env)).any (·.1) = false := by rfl) : PD X M (.Call (.Name "place_on" p) (a0 :: es) [] pos) env (.tup [fr (pl l.1.1 l.2.1 s), fr (pl l.1.2 l.2.2 s)]) :=
  pd_call C hr ha (let ⟨h0, a, b, h1, h2⟩ := h; ⟨l, s, a, b, rfl, h0, h1, h2, rfl⟩) hk hg (by decide) he hpl
def SzP (l o : Leg) (s t : Rat) : Prop := LegOk l ∧ LegOk o ∧ ∃ a b c e, Sz a b s ∧ Sz c e t ∧ (a ≤ 20000 ∧ c ≤ 20000 ∧ b + e ≤ 8000)
theorem k_parting (C : Cal X.prog X.w X.K X.mg X.base "parting" 4 ["leg", "other", "s", "t"] (spP X.K R_parting)) (hr : Room n X.A) (ha : PAD X M (a0 :: es) env [legD l, legD o, fr s, fr t]) (h : SzP l o s t) (hk : 4 ≤ n := by decide) (hg : Gl X "parting" := by rfl) (he : starEach (a0 :: es) X.env = (false, eval a0 X.env) :: starEach es X.env := by rfl) (hpl : (backTo pos (starEach es X.env)).any (·.1) = false := by rfl) : PD X M (.Call (.Name "parting" p) (a0 :: es) [] pos) env (p2D (Mi.gap l o s t)) :=
  pd_call C hr ha (let ⟨h0, h1, a, b, c, e, h2, h3, h4⟩ := h; ⟨l, o, s, t, a, b, c, e, rfl, h0, h1, h2, h3, h4, rfl⟩) hk hg (by decide) he hpl
def SzDot (u v : P2) : Prop := ∃ a b c e, (Sz a b u.1 ∧ Sz a b u.2 ∧ Sz c e v.1 ∧ Sz c e v.2) ∧ (a + b + c + e ≤ 30000 ∧ 2 * (b + e) ≤ 8900)
theorem k_dot (C : Cal X.prog X.w X.K X.mg X.base "dot" 3 ["one", "other"] (spP X.K R_dot)) (hr : Room n X.A) (ha : PAD X M (a0 :: es) env [p2D u, p2D v]) (h : SzDot u v) (hk : 3 ≤ n := by decide) (hg : Gl X "dot" := by rfl) (he : starEach (a0 :: es) X.env = (false, eval a0 X.env) :: starEach es X.env := by rfl) (hpl : (backTo pos (starEach es X.env)).any (·.1) = false := by rfl) : PD X M (.Call (.Name "dot" p) (a0 :: es) [] pos) env (fr (dotQ u v)) :=
  pd_call C hr ha (let ⟨a, b, c, e, h1, h2⟩ := h; ⟨u, v, a, b, c, e, rfl, h1, h2, rfl⟩) hk hg (by decide) he hpl
def SzAt (l o : Leg) (s t : Rat) : Prop := LegOk l ∧ LegOk o ∧ ∃ a b c e, Sz a b s ∧ Sz c e t ∧ (a + b + c + e ≤ 6000 ∧ 4 * (b + e) ≤ 8900)
theorem k_squared_at (C : Cal X.prog X.w X.K X.mg X.base "squared_at" 5 ["leg", "other", "s", "t"] (spP X.K R_squared_at)) (hr : Room n X.A) (ha : PAD X M (a0 :: es) env [legD l, legD o, fr s, fr t]) (h : SzAt l o s t) (hk : 5 ≤ n := by decide) (hg : Gl X "squared_at" := by rfl) (he : starEach (a0 :: es) X.env = (false, eval a0 X.env) :: starEach es X.env := by rfl) (hpl : (backTo pos (starEach es X.env)).any (·.1) = false := by rfl) : PD X M (.Call (.Name "squared_at" p) (a0 :: es) [] pos) env (fr (sqAt l o (s, t))) :=
  pd_call C hr ha (let ⟨h0, h1, a, b, c, e, h2, h3, h4⟩ := h; ⟨l, o, s, t, a, b, c, e, rfl, h0, h1, h2, h3, h4, rfl⟩) hk hg (by decide) he hpl
end
section
variable {P : Program} {w : World} {K : PySem.W.Frag} {mg : Str → Option Value} {base : Heap}
theorem cal_place_on {f : Addr} {fd : FuncData} (F : FnP K "place_on" s_place_on f fd) (m : mg "place_on" = some (.ref f)) (c_added : Cal P w K mg base "added" 2 ["one", "other"] (spP K R_added)) (c_times : Cal P w K mg base "times" 2 ["one", "other"] (spP K R_times))  : Cal P w K mg base "place_on" 3 ["leg", "s"] (spP K R_place_on) := by
  refine cal_of F m (F.bindsN fun _ _ _ _ _ _ us hl => match us, hl with | [_, _], _ => rfl) (okP F sc_place_on (fun ds d h => ?_) fun cdv A outer s H E hr M ds d hR => ?_)
  · obtain ⟨_, _, _, _, rfl, _⟩ := h
    rfl
  have nd := sc_place_on.nd
  obtain ⟨l, q, a, b, rfl, hl, hs, ⟨h1, h2⟩, rfl⟩ := hR
  have d1 := hl.2.1.sub hl.1.1
  have d2 := hl.2.2.sub hl.1.2
  refine sd_cons (s1_asg (pd_var 0) (gd_tup (gds_cons (gd_tup (gds_cons (gd_name 2 nd) (gds_cons (gd_name 3 nd) gds_nil))) (gds_cons (gd_tup (gds_cons (gd_name 4 nd) (gds_cons (gd_name 5 nd) gds_nil))) gds_nil)))) ?_
  refine sd_last (s1_ret (pd_tup (pad_cons (k_added c_added hr (pad_cons (pd_frI (pd_var 2)) (pad_cons (k_times c_times hr (pad_cons (pd_var 1) (pad_cons (pd_frI (pd_sub (pd_var 4) (pd_var 2))) pad_nil)) ?_) pad_nil)) ?_) (pad_cons (k_added c_added hr (pad_cons (pd_frI (pd_var 3)) (pad_cons (k_times c_times hr (pad_cons (pd_var 1) (pad_cons (pd_frI (pd_sub (pd_var 5) (pd_var 3))) pad_nil)) ?_) pad_nil)) ?_) pad_nil))))
  · exact ⟨_, _, _, _, hs, sz_nz d1, by omega⟩
  · exact ⟨_, _, _, _, sz_nz hl.1.1, hs.mul (sz_nz d1), by omega⟩
  · exact ⟨_, _, _, _, hs, sz_nz d2, by omega⟩
  · exact ⟨_, _, _, _, sz_nz hl.1.2, hs.mul (sz_nz d2), by omega⟩
theorem cal_parting {f : Addr} {fd : FuncData} (F : FnP K "parting" s_parting f fd) (m : mg "parting" = some (.ref f)) (c_place_on : Cal P w K mg base "place_on" 3 ["leg", "s"] (spP K R_place_on)) (c_lessened : Cal P w K mg base "lessened" 2 ["one", "other"] (spP K R_lessened))  : Cal P w K mg base "parting" 4 ["leg", "other", "s", "t"] (spP K R_parting) := by
  refine cal_of F m (F.bindsN fun _ _ _ _ _ _ us hl => match us, hl with | [_, _, _, _], _ => rfl) (okP F sc_parting (fun ds d h => ?_) fun cdv A outer s H E hr M ds d hR => ?_)
  · obtain ⟨_, _, _, _, _, _, _, _, rfl, _⟩ := h
    rfl
  have nd := sc_parting.nd
  obtain ⟨l, o, q, r, a, b, c, e, rfl, hl, ho, hq, ht, ⟨h1, h2, h3⟩, rfl⟩ := hR
  refine sd_cons (s1_asg (pd_tup (pad_cons (k_place_on c_place_on hr (pad_cons (pd_var 0) (pad_cons (pd_var 2) pad_nil)) ⟨hl, _, _, hq, by omega⟩) (pad_cons (k_place_on c_place_on hr (pad_cons (pd_var 1) (pad_cons (pd_var 3) pad_nil)) ⟨ho, _, _, ht, by omega⟩) pad_nil))) (gd_tup (gds_cons (gd_tup (gds_cons (gd_name 4 nd) (gds_cons (gd_name 5 nd) gds_nil))) (gds_cons (gd_tup (gds_cons (gd_name 6 nd) (gds_cons (gd_name 7 nd) gds_nil))) gds_nil)))) ?_
  refine sd_last (s1_ret (pd_tup (pad_cons (k_lessened c_lessened hr (pad_cons (pd_var 6) (pad_cons (pd_var 4) pad_nil)) ?_) (pad_cons (k_lessened c_lessened hr (pad_cons (pd_var 7) (pad_cons (pd_var 5) pad_nil)) ?_) pad_nil))))
  · exact ⟨_, _, _, _, pl_sz ho.1.1 ho.2.1 ht, pl_sz hl.1.1 hl.2.1 hq, by omega⟩
  · exact ⟨_, _, _, _, pl_sz ho.1.2 ho.2.2 ht, pl_sz hl.1.2 hl.2.2 hq, by omega⟩
theorem cal_dot {f : Addr} {fd : FuncData} (F : FnP K "dot" s_dot f fd) (m : mg "dot" = some (.ref f)) (c_added : Cal P w K mg base "added" 2 ["one", "other"] (spP K R_added)) (c_times : Cal P w K mg base "times" 2 ["one", "other"] (spP K R_times))  : Cal P w K mg base "dot" 3 ["one", "other"] (spP K R_dot) := by
  refine cal_of F m (F.bindsN fun _ _ _ _ _ _ us hl => match us, hl with | [_, _], _ => rfl) (okP F sc_dot (fun ds d h => ?_) fun cdv A outer s H E hr M ds d hR => ?_)
  · obtain ⟨_, _, _, _, _, _, rfl, _⟩ := h
    rfl
  have nd := sc_dot.nd
  obtain ⟨u, v, a, b, c, e, rfl, ⟨u1, u2, v1, v2⟩, ⟨h1, h2⟩, rfl⟩ := hR
  refine sd_last (s1_ret (k_added c_added hr (pad_cons (k_times c_times hr (pad_cons (pd_ixT (pd_var 0) pd_int) (pad_cons (pd_ixT (pd_var 1) pd_int) pad_nil)) ?_) (pad_cons (k_times c_times hr (pad_cons (pd_ixT (pd_var 0) pd_int) (pad_cons (pd_ixT (pd_var 1) pd_int) pad_nil)) ?_) pad_nil)) ?_))
  · exact ⟨_, _, _, _, u1, v1, by omega⟩
  · exact ⟨_, _, _, _, u2, v2, by omega⟩
  · exact ⟨_, _, _, _, u1.mul v1, u2.mul v2, by omega⟩
theorem cal_squared_at {f : Addr} {fd : FuncData} (F : FnP K "squared_at" s_squared_at f fd) (m : mg "squared_at" = some (.ref f)) (c_parting : Cal P w K mg base "parting" 4 ["leg", "other", "s", "t"] (spP K R_parting)) (c_dot : Cal P w K mg base "dot" 3 ["one", "other"] (spP K R_dot))  : Cal P w K mg base "squared_at" 5 ["leg", "other", "s", "t"] (spP K R_squared_at) := by
  refine cal_of F m (F.bindsN fun _ _ _ _ _ _ us hl => match us, hl with | [_, _, _, _], _ => rfl) (okP F sc_squared_at (fun ds d h => ?_) fun cdv A outer s H E hr M ds d hR => ?_)
  · obtain ⟨_, _, _, _, _, _, _, _, rfl, _⟩ := h
    rfl
  have nd := sc_squared_at.nd
  obtain ⟨l, o, q, r, a, b, c, e, rfl, hl, ho, hq, ht, ⟨h1, h2⟩, rfl⟩ := hR
  obtain ⟨g1, g2⟩ := gap_sz hl ho hq ht
  refine sd_cons (s1_set 4 (k_parting c_parting hr (pad_cons (pd_var 0) (pad_cons (pd_var 1) (pad_cons (pd_var 2) (pad_cons (pd_var 3) pad_nil)))) ⟨hl, ho, _, _, _, _, hq, ht, by omega⟩) nd) ?_
  exact sd_last (s1_ret (k_dot c_dot hr (pad_cons (pd_var 4) (pad_cons (pd_var 4) pad_nil)) ⟨_, _, _, _, ⟨g1, g2, g1, g2⟩, by omega⟩))
def RhoOk (rho : Rat) : Prop := Sz 10 42 rho ∧ 0 ≤ rho ∧ rho ≤ 1
def R_ring_of (ds : List D) (ys : List D) : Prop := ∃ rho, ds = [fr rho] ∧ RhoOk rho ∧ ys = (Mi.ring rho).map p2D
theorem sz1 : Sz 0 0 (1 : Rat) := ⟨by decide, by decide⟩
theorem sz0 : Sz 0 0 (0 : Rat) := ⟨by decide, by decide⟩
theorem fr1 : fr (1 : Rat) = .tup [.int 1, .int 1] := rfl
theorem fr0 : fr (0 : Rat) = .tup [.int 0, .int 1] := rfl
end
section
variable {P : Program} {w : World} {K : PySem.W.Frag} {mg : Str → Option Value} {base : Heap}
theorem okL {x : Str} {st : Stmt} {f : Addr} {fd : FuncData} {N ps : List Str} {k : Nat} {R : List D → List D → Prop} (F : FnP K x st f fd) (S : FnScope N ps (defScope st)) (len : ∀ ds d, R ds d → ds.length = ps.length)
    (body : ∀ (cdv : Value) (A : Around) (outer : List Env) (s : Shared) (H : Hp) (E : XK), Room k (A.deeper (envOfC x (defScope st) s.heap.objs.size f cdv)) → ∀ (M : Mu) ds ys, R ds ys → Wd M H → ∀ σ, En K M H σ (env0 N ds) → ∀ D : Ends,
      (∀ p ws H', H p = none → Same H H' → H' p = some (.lst ws) → Reps K M H' ys ws → D.rt (.ref p) H') → Wss (BX P w K mg base N x (defScope st) f cdv A outer s H E) (defBody st) D σ H) : FnOk P w K mg base CX0 (k + 1) f fd ps (spL K R) := by
  refine F.ok S (fun vs H Q E h => ?_) fun cdv A outer s H vs Q E hr h => ?_
  · obtain ⟨M, ds, d, hR, _, r, _⟩ := h
    rw [r.length]
    exact len ds d hR
  · obtain ⟨M, ds, ys, hR, wd, r, q⟩ := h
    obtain ⟨t, ht, hq⟩ := body cdv A outer s H E hr M ds ys hR wd (L2.start N vs) (en_start wd r) { nx := fun _ H' => Q .non H', rt := Q } q
    exact ⟨t, PSs.nox ht, hq⟩
def RL (X : Cx) (M : Mu) (sts : List Stmt) (env : DEnv) (ys : List D) : Prop := ∀ D σ H, En X.K M H σ env → (∀ p ws H', H p = none → Same H H' → H' p = some (.lst ws) → Reps X.K M H' ys ws → D.rt (.ref p) H') → Wss X sts D σ H
section
variable {X : Cx} {M : Mu} {env env1 : DEnv} {e c : Expr} {st : Stmt} {sts body els : List Stmt} {pos : Pos} {ys : List D}
theorem rl_ret (h : PL X M e env ys) : RL X M [.Return (some e) pos] env ys := fun D σ H hE q => ⟨_, pss_one (ps_ret we), h σ H hE _ fun p vs H1 np e1 h1 r1 => q p vs H1 np e1 h1 r1⟩
theorem rl_cons (h1 : S1 X M st env (.nx env1)) (h2 : RL X M sts env1 ys) : RL X M (st :: sts) env ys := fun D σ H hE q =>
  ⟨_, pss_cons ws wss, h1 { D with nx := Wss X sts D } σ H hE fun σ' H' e1 hE1 => h2 D σ' H' hE1 fun p us H2 np e2 h2 r2 => q p us H2 (e1.free np) (e1.trans e2) h2 r2⟩
theorem rl_ifT (hc : PTD X M c env true) (h1 : RL X M body env ys) : RL X M (.If c body els pos :: sts) env ys := fun D σ H hE q =>
  ⟨_, pss_cons (ps_if wt wss wss) wss, hc σ H hE _ fun H1 e1 => h1 { D with nx := Wss X sts D } σ H1 (hE.same e1) fun p us H2 np e2 h2 r2 => q p us H2 (e1.free np) (e1.trans e2) h2 r2⟩
end
theorem okL' {x : Str} {st : Stmt} {f : Addr} {fd : FuncData} {N ps : List Str} {k : Nat} {R : List D → List D → Prop} (F : FnP K x st f fd) (S : FnScope N ps (defScope st)) (len : ∀ ds d, R ds d → ds.length = ps.length)
    (body : ∀ (cdv : Value) (A : Around) (outer : List Env) (s : Shared) (H : Hp) (E : XK), Room k (A.deeper (envOfC x (defScope st) s.heap.objs.size f cdv)) → ∀ (M : Mu) ds ys, R ds ys → RL (BX P w K mg base N x (defScope st) f cdv A outer s H E) M (defBody st) (env0 N ds) ys) : FnOk P w K mg base CX0 (k + 1) f fd ps (spL K R) :=
  okL F S len fun cdv A outer s H E hr M ds ys hR wd σ hE D q => body cdv A outer s H E hr M ds ys hR D σ H hE q
theorem cal_ring_of {f : Addr} {fd : FuncData} (F : FnP K "ring_of" s_ring_of f fd) (m : mg "ring_of" = some (.ref f)) (c_lessened : Cal P w K mg base "lessened" 2 ["one", "other"] (spP K R_lessened)) (h_N : Tup2 K mg "NOUGHT" 0 1) (h_O : Tup2 K mg "ONE" 1 1) : Cal P w K mg base "ring_of" 3 ["rho"] (spL K R_ring_of) := by
  refine cal_of F m (F.bindsN fun _ _ _ _ _ _ us hl => match us, hl with | [_], _ => rfl) (okL' F sc_ring_of (fun ds d h => ?_) fun cdv A outer s H E hr M ds d hR => ?_)
  · obtain ⟨_, rfl, _⟩ := h
    rfl
  have nd := sc_ring_of.nd
  obtain ⟨rho, rfl, ⟨hs, h0, h1⟩, rfl⟩ := hR
  refine rl_cons (s1_set 1 (k_lessened (x := 1) c_lessened hr (pad_cons (pd_T2 h_O) (pad_cons (pd_var 0) pad_nil)) ⟨_, _, _, _, sz1, hs, by decide⟩) nd) ?_
  exact rl_ret (pl_lst (pad_cons (pd_tup (pad_cons (pd_T2 h_N) (pad_cons (pd_T2 h_N) pad_nil))) (pad_cons (pd_tup (pad_cons (pd_T2 h_N) (pad_cons (pd_var 0) pad_nil))) (pad_cons (pd_tup (pad_cons (pd_var 1) (pad_cons (pd_T2 h_O) pad_nil))) (pad_cons (pd_tup (pad_cons (pd_T2 h_O) (pad_cons (pd_T2 h_O) pad_nil))) (pad_cons (pd_tup (pad_cons (pd_T2 h_O) (pad_cons (pd_var 1) pad_nil))) (pad_cons (pd_tup (pad_cons (pd_var 0) (pad_cons (pd_T2 h_N) pad_nil))) pad_nil)))))) (show 6 ≤ 1000 by decide))
end
end Wk
end
section
set_option Elab.async false
set_option linter.all false
set_option maxRecDepth 100000
set_option maxHeartbeats 4000000
namespace Wk
open PySem PySem.Spec PyProof.Rows L2 Fq
section
variable {K : PySem.W.Frag} {M : Mu} {H H' : Hp}
theorem sqT_keep (e : Same H H') {a : Addr} {xs : List V} (h : SqT K H a xs) : SqT K H' a xs := by
  rcases h with (h | ⟨o, h⟩) | h
  · exact .inl (.inl (e a _ h))
  · exact .inl (.inr ⟨o, e a _ h⟩)
  · exact .inr h
mutual
theorem rep_keep (e : Same H H') : ∀ {d : D} {v : V}, Rep K M H d v → Rep K M H' d v
  | .non, _, h => h
  | .bl _, _, h => h
  | .int _, _, h => h
  | .tup _, _, ⟨a, vs, e1, h1, h2⟩ => ⟨a, vs, e1, sqT_keep e h1, reps_keep e h2⟩
  | .lst _, _, ⟨a, vs, e1, n, h1, h2⟩ => ⟨a, vs, e1, n, e a _ h1, reps_keep e h2⟩
theorem reps_keep (e : Same H H') : ∀ {ds : List D} {vs : List V}, Reps K M H ds vs → Reps K M H' ds vs
  | [], _, h => h
  | _ :: _, _, ⟨v, r, e1, h1, h2⟩ => ⟨v, r, e1, rep_keep e h1, reps_keep e h2⟩
end
end
structure Ow (K : PySem.W.Frag) (M : Mu) (H0 H : Hp) (σ : L2.St) (env : DEnv) (n : Nat) (p : Addr) (cs : List D) : Prop where
  s0 : Same H0 H
  w0 : Wd M H0
  np : H0 p = none
  en : En K (Add M p) H σ env
  at_ : σ[n]? = some (some (.ref p))
  ls : ∃ vs, H p = some (.lst vs) ∧ Reps K (Add M p) H cs vs
inductive OutM where
  | nx (env : DEnv) (cs : List D) | rt (d : D)
def OkM (M : Mu) (o : OutM) (K : PySem.W.Frag) (H0 : Hp) (n : Nat) (p : Addr) (D : Ends) : Prop := match o with
  | .nx env cs => ∀ σ H, Ow K M H0 H σ env n p cs → D.nx σ H
  | .rt d => ∀ v H, Same H0 H → Rep K M H d v → D.rt v H
def SM (X : Cx) (M : Mu) (n : Nat) (sts : List Stmt) (env : DEnv) (cs : List D) (o : OutM) : Prop := ∀ D σ H H0 p, Ow X.K M H0 H σ env n p cs → OkM M o X.K H0 n p D → Wss X sts D σ H
def SM1 (X : Cx) (M : Mu) (n : Nat) (st : Stmt) (env : DEnv) (cs : List D) (o : OutM) : Prop := ∀ D σ H H0 p, Ow X.K M H0 H σ env n p cs → OkM M o X.K H0 n p D → Ws X st D σ H
section
variable {K : PySem.W.Frag} {M : Mu} {H0 H H' : Hp} {σ : L2.St} {env env' : DEnv} {n : Nat} {p : Addr} {cs : List D}
theorem Ow.same (h : Ow K M H0 H σ env n p cs) (e : Same H H') : Ow K M H0 H' σ env n p cs :=
  ⟨h.s0.trans e, h.w0, h.np, h.en.same e, h.at_, let ⟨vs, a, b⟩ := h.ls; ⟨vs, e p _ a, reps_same h.en.wd e b⟩⟩
theorem Ow.le (h : Ow K M H0 H σ env n p cs) (l : Le env env') : Ow K M H0 H σ env' n p cs := ⟨h.s0, h.w0, h.np, h.en.le l, h.at_, h.ls⟩
theorem Ow.set {j : Nat} {d : D} {v : V} (h : Ow K M H0 H σ env n p cs) (r : Rep K (Add M p) H d v) (hj : n ≠ j) : Ow K M H0 H (σ.set j (some v)) (env.set j (some d)) n p cs :=
  ⟨h.s0, h.w0, h.np, h.en.set r, by rw [List.getElem?_set_ne (Ne.symm hj)]; exact h.at_, h.ls⟩
theorem Ow.freeze (h : Ow K M H0 H σ env n p cs) : En K M H σ (env.set n (some (.lst cs))) := by
  obtain ⟨vs, a, b⟩ := h.ls
  have wd := h.w0.same h.s0
  have ln : n < env.length := by
    rw [← h.en.len]
    exact (List.getElem?_eq_some_iff.mp h.at_).1
  refine ⟨wd, by rw [List.length_set]; exact h.en.len, fun i d q => ?_⟩
  by_cases e : n = i
  · subst e
    rw [List.getElem?_set_self ln] at q
    cases q
    exact ⟨_, h.at_, p, vs, rfl, h.w0.notM h.np, a, reps_less (fun _ m => .inl m) b⟩
  · rw [List.getElem?_set_ne e] at q
    obtain ⟨v, g1, g2⟩ := h.en.at_ i d q
    exact ⟨v, g1, rep_less (fun _ m => .inl m) g2⟩
theorem Ow.mut {vs : List V} {cs' : List D} (h : Ow K M H0 H σ env n p cs) (r : Reps K (Add M p) H cs' vs) : Ow K M H0 (upd H p (.lst vs)) σ env n p cs' := by
  have sw : Sm (Add M p) H (upd H p (.lst vs)) := sm_write h.en.wd (.inr rfl)
  exact ⟨fun a o e => by rw [upd_ne (ne_of_none e h.np)]; exact h.s0 a o e, h.w0, h.np, h.en.sm sw, h.at_, vs, upd_same, reps_sm h.en.wd sw r⟩
end
section
variable {X : Cx} {M : Mu} {n : Nat} {env env1 env' : DEnv} {cs cs1 : List D} {a b c e tg iter : Expr} {st : Stmt} {sts body els : List Stmt} {pos p2 p3 : Pos} {d : D} {ds : List D} {o : OutM}
theorem sm_cons (h1 : SM1 X M n st env cs (.nx env1 cs1)) (h2 : SM X M n sts env1 cs1 o) : SM X M n (st :: sts) env cs o := fun D σ H H0 p hO k =>
  ⟨_, pss_cons ws wss, h1 { D with nx := Wss X sts D } σ H H0 p hO fun σ' H' hO' => h2 D σ' H' H0 p hO' k⟩
theorem sm_last (h1 : SM1 X M n st env cs o) : SM X M n [st] env cs o := fun D σ H H0 p hO k => ⟨_, pss_one ws, h1 D σ H H0 p hO k⟩
theorem sm_nil : SM X M n [] env cs (.nx env cs) := fun D σ H H0 p hO k => ⟨_, pss_nil, k σ H hO⟩
theorem SM.le (h : SM X M n sts env cs (.nx env1 cs1)) (l : Le env1 env') : SM X M n sts env cs (.nx env' cs1) := fun D σ H H0 p hO k => h D σ H H0 p hO fun σ' H' hO' => k σ' H' (hO'.le l)
theorem sm_set (j : Nat) {x : Str} {px : Pos} (h : ∀ M, PD X M e env d) (hN : X.N.Nodup) (hj : n ≠ j := by decide) (hi : X.N[j]? = some x := by rfl) (hx : Loc X.env.scope x := by first | exact Or.inl rfl | exact Or.inr rfl) (hs : swapsWith e (some (.Name x px)) pos.line X.env = pure false := by rfl)
    (hf : X.fn x = true ∨ X.env.scope.names.lookup x = some .local := by first | exact .inl rfl | exact .inr rfl) : SM1 X M n (.Assign [.Name x px] e pos) env cs (.nx (env.set j (some d)) cs) := fun D σ H H0 p hO k =>
  ⟨_, ps_set (i := j) hN hi hx we hs hf, h _ σ H hO.en _ fun v H1 e1 r1 => k _ H1 ((hO.same e1).set r1 hj)⟩
theorem sm_if {k : Bool} (hc : ∀ M, PTD X M c env k) (h1 : k = true → SM X M n body env cs o) (h2 : k = false → SM X M n els env cs o) : SM1 X M n (.If c body els pos) env cs o := fun D σ H H0 p hO q =>
  ⟨_, ps_if wt wss wss, hc _ σ H hO.en _ fun H1 e1 => by
    cases k with
    | true => exact h1 rfl D σ H1 H0 p (hO.same e1) q
    | false => exact h2 rfl D σ H1 H0 p (hO.same e1) q⟩
theorem sm_app {x : Str} {px apos cpos spos : Pos} (h : ∀ M, PD X M e env d) (hl : cs.length ≤ 1000 := by simp) (hi : X.N[n]? = some x := by rfl) (hv : Vis X.env.scope x := by first | exact Or.inl rfl | exact Or.inr (Or.inl rfl) | exact Or.inr (Or.inr rfl)) (hd : (x == ("__debug__" : Str)) = false := by decide) (hcd : (x == ("__classdict__" : Str)) = false := by decide)
    (hs : swapsWith (.Call (.Attribute (.Name x px) "append" apos) [e] [] cpos) none spos.line X.env = pure false := by rfl) (s1 : starEach [e] X.env = (false, eval e X.env) :: starEach [] X.env := by rfl) (hp : ∀ to, PE X (.Name x px) to → PE X (.Call (.Attribute (.Name x px) "append" apos) [e] [] cpos) (tBM X.K "list" rAppend to (Wa X [e])) := by exact fun _ h => pe_bm PySem.F.plainAttrs_list PySem.F.slot_list_append PySem.F.type_list_append mt_append h wa) :
    SM1 X M n (.Expr (.Call (.Attribute (.Name x px) "append" apos) [e] [] cpos) spos) env cs (.nx env (cs ++ [d])) := fun D σ H H0 p hO k =>
  ⟨_, ps_expr (hp _ (pe_var hi hv hd hcd)) hs, _, hO.at_, .inl ⟨rfl, _, SqL.of hO.ls.choose_spec.1⟩, pad_cons (h _) pad_nil s1 σ H hO.en _ fun us H1 e1 r => by
    obtain ⟨v, rfl, r1⟩ := reps1 r
    have hO1 := hO.same e1
    obtain ⟨vs, a, b⟩ := hO1.ls
    exact ⟨p, vs, v, rfl, rfl, a, Nat.lt_of_lt_of_le (by rw [b.length]; omega) (show 1001 ≤ sizeLine by decide), k σ _ (hO1.mut (b.append (Reps.one r1)))⟩⟩
theorem sm_freeze (h : SD X M sts (env.set n (some (.lst cs))) (.rt d)) : SM X M n sts env cs (.rt d) := fun D σ H H0 p hO k => h D σ H hO.freeze fun v H1 e1 r1 => k v H1 (hO.s0.trans e1) r1
theorem sm_retL {x : Str} (hi : X.N[n]? = some x := by rfl) (hv : Vis X.env.scope x := by first | exact Or.inl rfl | exact Or.inr (Or.inl rfl) | exact Or.inr (Or.inr rfl)) (hd : (x == ("__debug__" : Str)) = false := by decide) (hcd : (x == ("__classdict__" : Str)) = false := by decide)
    (D : Ends) (σ : L2.St) (H H0 : Hp) (p : Addr) (hO : Ow X.K M H0 H σ env n p cs) (q : ∀ p ws H', H0 p = none → Same H0 H' → H' p = some (.lst ws) → Reps X.K M H' cs ws → D.rt (.ref p) H') : Wss X [.Return (some (.Name x p2)) pos] D σ H := by
  obtain ⟨vs, a, b⟩ := hO.ls
  exact ⟨_, pss_one (ps_ret (pe_var hi hv hd hcd)), _, hO.at_, q p vs H hO.np hO.s0 a (reps_less (fun _ m => .inl m) b)⟩
theorem own_begin (hfl : Flats ds) {x : Str} {px : Pos} {D : Ends} {σ : L2.St} {H : Hp} (h : PL X M e env ds) (hE : En X.K M H σ env) (hN : X.N.Nodup) (hln : n < env.length) (hi : X.N[n]? = some x) (hx : Loc X.env.scope x) (hs : swapsWith e (some (.Name x px)) pos.line X.env = pure false)
    (hf : X.fn x = true ∨ X.env.scope.names.lookup x = some .local) (k : ∀ σ' H' p, Ow X.K M H H' σ' (env.set n none) n p ds → Wss X sts D σ' H') : Wss X (.Assign [.Name x px] e pos :: sts) D σ H :=
  ⟨_, pss_cons (ps_set (i := n) hN hi hx we hs hf) wss, h σ H hE _ fun p vs H1 np e1 h1 r1 => k _ H1 p ⟨e1, hE.wd, np, by
    have wA : Wd (Add M p) H1 := fun a ma => by
      rcases ma with m | rfl
      · exact (hE.wd.same e1) a m
      · exact ⟨vs, h1⟩
    refine ⟨wA, by rw [List.length_set, List.length_set]; exact hE.len, fun i d q => ?_⟩
    by_cases e : n = i
    · subst e
      rw [List.getElem?_set_self hln] at q
      cases q
    · rw [List.getElem?_set_ne e] at q
      obtain ⟨v, g1, g2⟩ := hE.at_ i d q
      exact ⟨v, by rw [List.getElem?_set_ne e]; exact g1, rep_keep e1 (rep_add np g2)⟩, by rw [List.getElem?_set_self (by rw [hE.len]; exact hln)], vs, h1, reps_flat hfl r1⟩⟩
end
end Wk
end
section
set_option Elab.async false
set_option linter.all false
set_option maxRecDepth 100000
set_option maxHeartbeats 4000000
namespace Wk
open PySem PySem.Spec PyProof.Rows L2 Fq
open Mi (Col Leg P2 pl dotQ sqAt)
local macro_rules | `(tactic| walk_at "nz") => `(tactic| first | assumption | exact Nz.sn (by assumption) | exact Nz.sd (by assumption) | (apply Nz.mul <;> walk_at "nz") | (apply Nz.add <;> walk_at "nz") | (apply Nz.sub <;> walk_at "nz") | (apply Nz.neg <;> walk_at "nz") | exact (show Nz 20 _ by unfold Nz; decide))
local macro_rules | `(tactic| walk_at "mw") => `(tactic| (apply Nz.w; (· walk_at "nz"); (· walk_at "nz"); decide))
def SzAll (xs : List Rat) : Prop := ∀ x ∈ xs, Sz 20000 8900 x
def frs (xs : List Rat) : D := .tup (xs.map fr)
def R_by_parts (ds : List D) (d : D) : Prop := ∃ xs ys, ds = [frs xs, frs ys] ∧ SzAll xs ∧ SzAll ys ∧ d = .int (Mi.byP xs ys)
theorem byP_spec : ∀ xs ys : List Rat, (∃ (m : Nat) (x y : Rat), xs[m]? = some x ∧ ys[m]? = some y ∧ Mi.cmpQ x y ≠ 0 ∧ Mi.byP xs ys = Mi.cmpQ x y ∧ ∀ (k : Nat) x y, k < m → xs[k]? = some x → ys[k]? = some y → Mi.cmpQ x y = 0) ∨ (Mi.byP xs ys = 0 ∧ ∀ (k : Nat) x y, xs[k]? = some x → ys[k]? = some y → Mi.cmpQ x y = 0)
  | [], ys => .inr ⟨by unfold Mi.byP; rfl, fun k x y h => by simp at h⟩
  | x :: xs, [] => .inr ⟨by unfold Mi.byP; rfl, fun k x y h g => by simp at g⟩
  | x :: xs, y :: ys => by
    by_cases h : Mi.cmpQ x y ≠ 0
    · exact .inl ⟨0, x, y, rfl, rfl, h, by unfold Mi.byP; rw [if_pos h], fun k x y hk => absurd hk (Nat.not_lt_zero _)⟩
    · have e : Mi.byP (x :: xs) (y :: ys) = Mi.byP xs ys := by
        conv => lhs; unfold Mi.byP
        rw [if_neg h]
      have h0 : Mi.cmpQ x y = 0 := by omega
      rcases byP_spec xs ys with ⟨m, a, b, h1, h2, h3, h4, h5⟩ | ⟨h1, h2⟩
      · refine .inl ⟨m + 1, a, b, by simpa using h1, by simpa using h2, h3, by rw [e]; exact h4, fun k u v hk g1 g2 => ?_⟩
        cases k with
        | zero =>
          simp at g1 g2
          rw [← g1, ← g2]
          exact h0
        | succ k => exact h5 k u v (by omega) (by simpa using g1) (by simpa using g2)
      · refine .inr ⟨by rw [e]; exact h1, fun k u v g1 g2 => ?_⟩
        cases k with
        | zero =>
          simp at g1 g2
          rw [← g1, ← g2]
          exact h0
        | succ k => exact h2 k u v (by simpa using g1) (by simpa using g2)
theorem frs_get {xs : List Rat} {k : Nat} {d : D} (h : (xs.map fr)[k]? = some d) : ∃ x, xs[k]? = some x ∧ d = fr x := by
  rw [List.getElem?_map] at h
  cases e : xs[k]? with
  | none => rw [e] at h; cases h
  | some x => rw [e] at h; exact ⟨x, rfl, by simpa using h.symm⟩
section
variable {P : Program} {w : World} {K : PySem.W.Frag} {mg : Str → Option Value} {base : Heap}
theorem cal_by_parts {f : Addr} {fd : FuncData} (F : FnP K "by_parts" s_by_parts f fd) (m : mg "by_parts" = some (.ref f)) (c_compared : Cal P w K mg base "compared" 1 ["one", "other"] (spP K R_compared)) (m_zip : mg "zip" = none) : Cal P w K mg base "by_parts" 2 ["one", "other"] (spP K R_by_parts) := by
  refine cal_of F m (F.bindsN fun _ _ _ _ _ _ us hl => match us, hl with | [_, _], _ => rfl) (okP F sc_by_parts (fun ds d h => ?_) fun cdv A outer s H E hr M ds d hR => ?_)
  · obtain ⟨_, _, rfl, _⟩ := h
    rfl
  have nd := sc_by_parts.nd
  obtain ⟨xs, ys, rfl, hx, hy, rfl⟩ := hR
  have sz : ∀ {k : Nat} {x y : Rat}, xs[k]? = some x → ys[k]? = some y → SzC x y := fun h g => ⟨_, _, _, _, hx _ (List.mem_of_getElem? h), hy _ (List.mem_of_getElem? g), by decide⟩
  rcases byP_spec xs ys with ⟨mm, x, y, h1, h2, h3, h4, h5⟩ | ⟨h1, h2⟩
  · rw [h4]
    refine sd_stop (s1_forR (fun _ => [some (frs xs), some (frs ys), none, none]) mm (dm := .tup [fr x, fr y]) ?_ (id_zipT m_zip (pd_var 0) (pd_var 1)) (Le.refl _) (fun k d hk hd => ?_) ⟨_, gd_tup (gds_cons (gd_name 2 nd) (gds_cons (gd_name 3 nd) gds_nil)), ?_⟩)
    · unfold zipD
      rw [List.getElem?_map, (List.getElem?_zip_eq_some (z := (fr x, fr y))).mpr ⟨(show (xs.map fr)[mm]? = some (fr x) by rw [List.getElem?_map, h1]; rfl), (show (ys.map fr)[mm]? = some (fr y) by rw [List.getElem?_map, h2]; rfl)⟩]
      rfl
    · obtain ⟨a, b, g1, g2, rfl⟩ := zipD_get hd
      obtain ⟨x', g3, rfl⟩ := frs_get g1
      obtain ⟨y', g4, rfl⟩ := frs_get g2
      refine ⟨_, _, gd_tup (gds_cons (gd_name 2 nd) (gds_cons (gd_name 3 nd) gds_nil)), sd_last (s1_ifF ((ptd_neI (k_compared c_compared hr (pad_cons (pd_var 2) (pad_cons (pd_var 3) pad_nil)) (sz g3 g4)) pd_int).of ?_) sd_nil), ⟨.inr rfl, .inr rfl, .inl rfl, .inl rfl, trivial⟩⟩
      simp [h5 k x' y' hk g3 g4]
    · refine sd_last (s1_ifT ((ptd_neI (k_compared c_compared hr (pad_cons (pd_var 2) (pad_cons (pd_var 3) pad_nil)) (sz h1 h2)) pd_int).of ?_) (sd_last (s1_ret (k_compared c_compared hr (pad_cons (pd_var 2) (pad_cons (pd_var 3) pad_nil)) (sz h1 h2)))))
      simp [h3]
  · rw [h1]
    refine sd_cons (s1_for (fun _ => [some (frs xs), some (frs ys), none, none]) (id_zipT m_zip (pd_var 0) (pd_var 1)) (Le.refl _) (fun k d hd => ?_)) (sd_last (s1_ret pd_int))
    obtain ⟨a, b, g1, g2, rfl⟩ := zipD_get hd
    obtain ⟨x', g3, rfl⟩ := frs_get g1
    obtain ⟨y', g4, rfl⟩ := frs_get g2
    refine ⟨_, _, gd_tup (gds_cons (gd_name 2 nd) (gds_cons (gd_name 3 nd) gds_nil)), sd_last (s1_ifF ((ptd_neI (k_compared c_compared hr (pad_cons (pd_var 2) (pad_cons (pd_var 3) pad_nil)) (sz g3 g4)) pd_int).of ?_) sd_nil), ⟨.inr rfl, .inr rfl, .inl rfl, .inl rfl, trivial⟩⟩
    simp [h2 k x' y' g3 g4]
def R_crossing (ds : List D) (d : D) : Prop := ∃ l o, ds = [legD l, legD o] ∧ LegOk l ∧ LegOk o ∧ d = if Mi.wholeI l o = 0 then .non else p2D (Mi.met l o)
theorem whole_nz {l o : Leg} (hl : LegOk l) (ho : LegOk o) : Nz 33 (Mi.wholeI l o) ∧ Nz 33 (Mi.crS l o) ∧ Nz 33 (Mi.crT l o) := by
  obtain ⟨⟨a1, a2⟩, a3, a4⟩ := hl
  obtain ⟨⟨b1, b2⟩, b3, b4⟩ := ho
  exact ⟨((a3.sub a1).mul (b4.sub b2)).sub ((a4.sub a2).mul (b3.sub b1)), ((b1.sub a1).mul (b4.sub b2)).sub ((b2.sub a2).mul (b3.sub b1)), ((b1.sub a1).mul (a4.sub a2)).sub ((b2.sub a2).mul (a3.sub a1))⟩
theorem cast_ne {i : Int} (h : i ≠ 0) : (i : Rat) ≠ 0 := fun e => h (by exact_mod_cast e)
theorem cal_crossing {f : Addr} {fd : FuncData} (F : FnP K "crossing" s_crossing f fd) (m : mg "crossing" = some (.ref f)) (c_over : Cal P w K mg base "over" 2 ["one", "other"] (spP K R_over))  : Cal P w K mg base "crossing" 3 ["leg", "other"] (spP K R_crossing) := by
  refine cal_of F m (F.bindsN fun _ _ _ _ _ _ us hl => match us, hl with | [_, _], _ => rfl) (okP F sc_crossing (fun ds d h => ?_) fun cdv A outer s H E hr M ds d hR => ?_)
  · obtain ⟨_, _, rfl, _⟩ := h
    rfl
  have nd := sc_crossing.nd
  obtain ⟨l, o, rfl, hl, ho, rfl⟩ := hR
  obtain ⟨w1, w2, w3⟩ := whole_nz hl ho
  obtain ⟨⟨a1, a2⟩, a3, a4⟩ := hl
  obtain ⟨⟨b1, b2⟩, b3, b4⟩ := ho
  refine SD.nrm [some _, some _, none, none, none, none, none, none, none, none, none, none, none, none, none, none, none] rfl ?_
  refine sd_cons (s1_asg (pd_var 0) (gd_tup (gds_cons (gd_tup (gds_cons (gd_name 2 nd) (gds_cons (gd_name 3 nd) gds_nil))) (gds_cons (gd_tup (gds_cons (gd_name 4 nd) (gds_cons (gd_name 5 nd) gds_nil))) gds_nil)))) ?_
  refine SD.nrm [some _, some _, some _, some _, some _, some _, none, none, none, none, none, none, none, none, none, none, none] rfl ?_
  refine sd_cons (s1_asg (pd_var 1) (gd_tup (gds_cons (gd_tup (gds_cons (gd_name 6 nd) (gds_cons (gd_name 7 nd) gds_nil))) (gds_cons (gd_tup (gds_cons (gd_name 8 nd) (gds_cons (gd_name 9 nd) gds_nil))) gds_nil)))) ?_
  refine SD.nrm [some _, some _, some _, some _, some _, some _, some _, some _, some _, some _, none, none, none, none, none, none, none] rfl ?_
  refine sd_cons (s1_asg (pd_tup (pad_cons (pd_sub (pd_var 4) (pd_var 2)) (pad_cons (pd_sub (pd_var 5) (pd_var 3)) (pad_cons (pd_sub (pd_var 8) (pd_var 6)) (pad_cons (pd_sub (pd_var 9) (pd_var 7)) pad_nil))))) (gd_tup (gds_cons (gd_name 10 nd) (gds_cons (gd_name 11 nd) (gds_cons (gd_name 12 nd) (gds_cons (gd_name 13 nd) gds_nil)))))) ?_
  refine SD.nrm [some _, some _, some _, some _, some _, some _, some _, some _, some _, some _, some _, some _, some _, some _, none, none, none] rfl ?_
  refine sd_cons (s1_set 14 (d := .int (Mi.wholeI l o)) (pd_sub (pd_mulW (pd_var 10) (pd_var 13) ?_) (pd_mulW (pd_var 11) (pd_var 12) ?_)) nd) ?_
  iterate 2 (· walk_at "mw")
  refine SD.nrm [some _, some _, some _, some _, some _, some _, some _, some _, some _, some _, some _, some _, some _, some _, some _, none, none] rfl ?_
  by_cases hw : Mi.wholeI l o = 0
  · rw [if_pos hw]
    exact sd_stop (s1_ifT ((ptd_eqI (pd_var 14) pd_int).of (decide_eq_true hw)) (sd_last (s1_ret pd_non)))
  rw [if_neg hw]
  refine sd_cons (s1_ifF ((ptd_eqI (pd_var 14) pd_int).of (decide_eq_false hw)) sd_nil) ?_
  refine sd_cons (s1_set 15 (d := .int (Mi.crS l o)) (pd_sub (pd_mulW (pd_sub (pd_var 6) (pd_var 2)) (pd_var 13) ?_) (pd_mulW (pd_sub (pd_var 7) (pd_var 3)) (pd_var 12) ?_)) nd) ?_
  iterate 2 (· walk_at "mw")
  refine SD.nrm [some _, some _, some _, some _, some _, some _, some _, some _, some _, some _, some _, some _, some _, some _, some _, some _, none] rfl ?_
  refine sd_cons (s1_set 16 (d := .int (Mi.crT l o)) (pd_sub (pd_mulW (pd_sub (pd_var 6) (pd_var 2)) (pd_var 11) ?_) (pd_mulW (pd_sub (pd_var 7) (pd_var 3)) (pd_var 10) ?_)) nd) ?_
  iterate 2 (· walk_at "mw")
  refine SD.nrm [some _, some _, some _, some _, some _, some _, some _, some _, some _, some _, some _, some _, some _, some _, some _, some _, some _] rfl ?_
  refine sd_last (s1_ret (PD.of (pd_tup (pad_cons (k_over (x := (Mi.crS l o : Rat)) (y := (Mi.wholeI l o : Rat)) c_over hr (pad_cons (pd_frI (pd_var 15)) (pad_cons (pd_frI (pd_var 14)) pad_nil)) ?_) (pad_cons (k_over (x := (Mi.crT l o : Rat)) (y := (Mi.wholeI l o : Rat)) c_over hr (pad_cons (pd_frI (pd_var 16)) (pad_cons (pd_frI (pd_var 14)) pad_nil)) ?_) pad_nil))) rfl))
  · exact ⟨cast_ne hw, _, _, _, _, sz_nz w2, sz_nz w1, by decide⟩
  · exact ⟨cast_ne hw, _, _, _, _, sz_nz w3, sz_nz w1, by decide⟩
def R_is_within (ds : List D) (d : D) : Prop := ∃ (q : P2) (rho : Rat) (a b c e : Nat), ds = [fr q.1, fr q.2, fr rho] ∧ Sz a b q.1 ∧ Sz c e q.2 ∧ RhoOk rho ∧ (a + b + c + e ≤ 5000) ∧ d = .bl (Mi.isIn rho q)
def unfr : D → Rat
  | .tup [.int n, .int d] => Rat.divInt n d
  | _ => 0
theorem unfr_fr (x : Rat) : unfr (fr x) = x := divInt_self' x
theorem abs_fr (x : Rat) : D.tup [.int (if x.num < 0 then -x.num else x.num), .int x.den] = fr (Mi.absQ x) := by
  unfold fr Mi.absQ
  by_cases h : x < 0
  · have h' : x.num < 0 := by
      have := (Rat.lt_iff x 0).mp h
      simpa using this
    rw [if_pos h, if_pos h', Rat.neg_num, Rat.neg_den]
  · have h' : ¬ x.num < 0 := fun z => h ((Rat.lt_iff x 0).mpr (by simpa using z))
    rw [if_neg h, if_neg h']
theorem cmp_le {x y : Rat} : decide (Mi.cmpQ x y ≤ 0) = decide (x ≤ y) := by
  rw [decide_eq_decide]
  unfold Mi.cmpQ
  by_cases h1 : y < x
  · rw [if_pos h1, if_neg (by grind)]; grind
  · rw [if_neg h1]
    by_cases h2 : x < y
    · rw [if_pos h2]; grind
    · rw [if_neg h2]; grind
theorem cmp_ge {x y : Rat} : decide (0 ≤ Mi.cmpQ x y) = decide (y ≤ x) := by
  rw [decide_eq_decide]
  unfold Mi.cmpQ
  by_cases h1 : y < x
  · rw [if_pos h1, if_neg (by grind)]; grind
  · rw [if_neg h1]
    by_cases h2 : x < y
    · rw [if_pos h2]; grind
    · rw [if_neg h2]; grind
theorem absQ_sz {a b : Nat} {x : Rat} (h : Sz a b x) : Sz a b (Mi.absQ x) := by
  unfold Mi.absQ
  split
  · exact h.neg
  · exact h
theorem cal_is_within {f : Addr} {fd : FuncData} (F : FnP K "is_within" s_is_within f fd) (m : mg "is_within" = some (.ref f)) (c_lessened : Cal P w K mg base "lessened" 2 ["one", "other"] (spP K R_lessened)) (c_compared : Cal P w K mg base "compared" 1 ["one", "other"] (spP K R_compared)) (m_all : mg "all" = none) (m_abs : mg "abs" = none) (h_N : Tup2 K mg "NOUGHT" 0 1) (h_O : Tup2 K mg "ONE" 1 1) : Cal P w K mg base "is_within" 3 ["s", "t", "rho"] (spP K R_is_within) := by
  refine cal_of F m (F.bindsN fun _ _ _ _ _ _ us hl => match us, hl with | [_, _, _], _ => rfl) (okP F sc_is_within (fun ds d h => ?_) fun cdv A outer s H E hr M ds d hR => ?_)
  · obtain ⟨_, _, _, _, _, _, rfl, _⟩ := h
    rfl
  have nd := sc_is_within.nd
  obtain ⟨q, rho, a, b, c, e, rfl, h1, h2, ⟨hs, _, _⟩, h3, rfl⟩ := hR
  refine sd_cons (s1_setLc 3 (own := [("part", 5)]) (f := fun d => some (.bl (decide (0 ≤ unfr d) && decide (unfr d ≤ 1)))) (fun d => [some (fr q.1), some (fr q.2), some (fr rho), none, none, some d]) (blkOk_by (N := N_is_within) (sc := defScope s_is_within) (by decide +kernel)) nd (id_tup (pd_tup (pad_cons (pd_var 0) (pad_cons (pd_var 1) pad_nil)))) (fun d hd s H0 C cl fp => ?_)) ?_
  · rcases List.mem_cons.mp hd with rfl | hd
    rotate_left
    have e := List.mem_singleton.mp hd
    subst e
    refine ⟨gdw_name 5 (by simp) nd, trivial, ptsd_nil, ?_⟩
    refine (pd_chain (g := fun i j => decide (i ≤ j)) (g' := fun i j => decide (i ≤ j)) op_le op_le (k_compared (x := 0) (y := q.2) c_compared hr (pad_cons (pd_T2 h_N) (pad_cons (pd_var 5) pad_nil)) ⟨_, _, _, _, sz0, h2, by omega⟩) pd_int (k_compared (x := 1) (y := q.2) c_compared hr (pad_cons (pd_T2 h_O) (pad_cons (pd_var 5) pad_nil)) ⟨_, _, _, _, sz1, h2, by omega⟩)).of ?_
    show D.bl (decide (Mi.cmpQ 0 q.2 ≤ 0) && decide (0 ≤ Mi.cmpQ 1 q.2)) = _
    rw [cmp_le, cmp_ge, unfr_fr]
    refine ⟨gdw_name 5 (by simp) nd, trivial, ptsd_nil, ?_⟩
    refine (pd_chain (g := fun i j => decide (i ≤ j)) (g' := fun i j => decide (i ≤ j)) op_le op_le (k_compared (x := 0) (y := q.1) c_compared hr (pad_cons (pd_T2 h_N) (pad_cons (pd_var 5) pad_nil)) ⟨_, _, _, _, sz0, h1, by omega⟩) pd_int (k_compared (x := 1) (y := q.1) c_compared hr (pad_cons (pd_T2 h_O) (pad_cons (pd_var 5) pad_nil)) ⟨_, _, _, _, sz1, h1, by omega⟩)).of ?_
    show D.bl (decide (Mi.cmpQ 0 q.1 ≤ 0) && decide (0 ≤ Mi.cmpQ 1 q.1)) = _
    rw [cmp_le, cmp_ge, unfr_fr]
  refine sd_cons (s1_set 4 (k_lessened c_lessened hr (pad_cons (pd_var 0) (pad_cons (pd_var 1) pad_nil)) ⟨_, _, _, _, h1, h2, by omega⟩) nd) ?_
  refine sd_last (s1_ret ((pd_and (pd_all (bs := [decide (0 ≤ q.1) && decide (q.1 ≤ 1), decide (0 ≤ q.2) && decide (q.2 ≤ 1)]) rfl m_all ((pd_var 3).of ?_)) fun _ => (pd_one (pd_le (k_compared (x := Mi.absQ (q.1 - q.2)) c_compared hr (pad_cons ((pd_tup (pad_cons (pd_abs m_abs (pd_ixT (pd_var 4) pd_int)) (pad_cons (pd_ixT (pd_var 4) pd_int) pad_nil))).of (abs_fr _)) (pad_cons (pd_var 2) pad_nil)) ?_) pd_int))).of ?_))
  · show D.lst [_, _] = D.lst [_, _]
    rw [unfr_fr, unfr_fr]
  · exact ⟨_, _, _, _, absQ_sz (h1.sub h2), hs, by omega⟩
  · rw [cmp_le]
    unfold Mi.isIn
    simp only [List.all_cons, List.all_nil, id, Bool.and_true, Bool.and_assoc]
end
end Wk
end
section
set_option Elab.async false
set_option linter.all false
set_option maxRecDepth 100000
set_option maxHeartbeats 4000000
namespace Wk
open PySem PySem.Spec PyProof.Rows L2 Fq
open Mi (Col Leg P2 pl dotQ sqAt)
def Gr (D : Nat) (x : Rat) : Prop := ∃ i : Int, x * ((D : Nat) : Rat) = (i : Rat)
theorem gr_den {D : Nat} {x : Rat} (hD : D ≠ 0) (h : Gr D x) : x.den ≤ D := by
  obtain ⟨i, h⟩ := h
  have d0 : ((D : Nat) : Rat) ≠ 0 := by
    intro e
    exact hD (by exact_mod_cast e)
  have e : x = Rat.divInt i (D : Int) := by
    rw [Rat.divInt_eq_div]
    have : (((D : Nat) : Int) : Rat) = ((D : Nat) : Rat) := by norm_cast
    rw [this]
    grind
  have hd : ((D : Nat) : Int) ≠ 0 := by omega
  have := divInt_den_le i hd
  rw [← e] at this
  simpa using this
theorem Gr.add {D : Nat} {x y : Rat} (h : Gr D x) (g : Gr D y) : Gr D (x + y) := by
  obtain ⟨i, h⟩ := h
  obtain ⟨j, g⟩ := g
  exact ⟨i + j, by rw [Rat.intCast_add]; grind⟩
theorem Gr.sub {D : Nat} {x y : Rat} (h : Gr D x) (g : Gr D y) : Gr D (x - y) := by
  obtain ⟨i, h⟩ := h
  obtain ⟨j, g⟩ := g
  exact ⟨i - j, by rw [Rat.intCast_sub]; grind⟩
theorem Gr.mulI {D : Nat} {x : Rat} (h : Gr D x) (j : Int) : Gr D (x * (j : Rat)) := by
  obtain ⟨i, h⟩ := h
  exact ⟨i * j, by rw [Rat.intCast_mul]; grind⟩
theorem Gr.int {D : Nat} (j : Int) : Gr D (j : Rat) := ⟨j * D, by
  rw [Rat.intCast_mul]
  have : (((D : Nat) : Int) : Rat) = ((D : Nat) : Rat) := by norm_cast
  rw [this]⟩
theorem gr_self (x : Rat) : Gr x.den x := ⟨x.num, by
  have := eq_div x
  have h2 := cast_den x
  have e : (((x.den : Nat) : Int) : Rat) = ((x.den : Nat) : Rat) := by norm_cast
  rw [e] at this h2
  grind⟩
theorem ring_gr {rho : Rat} {p : P2} (h : p ∈ Mi.ring rho) : Gr rho.den p.1 ∧ Gr rho.den p.2 := by
  have g0 : Gr rho.den 0 := Gr.int (D := rho.den) 0
  have g1 : Gr rho.den 1 := Gr.int (D := rho.den) 1
  have gr := gr_self rho
  have gl := g1.sub gr
  unfold Mi.ring at h
  simp only [List.mem_cons, List.not_mem_nil, or_false] at h
  rcases h with rfl | rfl | rfl | rfl | rfl | rfl <;> exact ⟨by assumption, by assumption⟩
theorem ring_sz {rho : Rat} (hr : RhoOk rho) {p : P2} (h : p ∈ Mi.ring rho) : Sz 43 42 p.1 ∧ Sz 43 42 p.2 := by
  have s0 : Sz 43 42 0 := sz0.mono (by decide) (by decide)
  have s1 : Sz 43 42 1 := sz1.mono (by decide) (by decide)
  have s2 : Sz 43 42 rho := hr.1.mono (by decide) (by decide)
  have s3 : Sz 43 42 (1 - rho) := (sz1.sub hr.1).mono (by decide) (by decide)
  unfold Mi.ring at h
  simp only [List.mem_cons, List.not_mem_nil, or_false] at h
  rcases h with rfl | rfl | rfl | rfl | rfl | rfl <;> exact ⟨by assumption, by assumption⟩
theorem gap_gr {D : Nat} {l o : Leg} {s t : Rat} (hs : Gr D s) (ht : Gr D t) : Gr D (Mi.gap l o s t).1 ∧ Gr D (Mi.gap l o s t).2 :=
  ⟨((Gr.int _).add (ht.mulI _)).sub ((Gr.int _).add (hs.mulI _)), ((Gr.int _).add (ht.mulI _)).sub ((Gr.int _).add (hs.mulI _))⟩
theorem corner_sz {l o : Leg} {rho : Rat} (hl : LegOk l) (ho : LegOk o) (hr : RhoOk rho) {p : P2} (h : p ∈ Mi.ring rho) : Sz 189 42 (Mi.gap l o p.1 p.2).1 ∧ Sz 189 42 (Mi.gap l o p.1 p.2).2 := by
  obtain ⟨z1, z2⟩ := ring_sz hr h
  obtain ⟨g1, g2⟩ := gap_sz hl ho z1 z2
  obtain ⟨r1, r2⟩ := ring_gr h
  obtain ⟨q1, q2⟩ := gap_gr (l := l) (o := o) r1 r2
  have d0 : rho.den ≠ 0 := rho.den_nz
  exact ⟨⟨g1.n, Nat.le_trans (gr_den d0 q1) hr.1.d⟩, ⟨g2.n, Nat.le_trans (gr_den d0 q2) hr.1.d⟩⟩
theorem along_sz {l o : Leg} {rho : Rat} (hl : LegOk l) (ho : LegOk o) (hr : RhoOk rho) {p q : P2} (h : p ∈ Mi.ring rho) (g : q ∈ Mi.ring rho) : Sz 232 84 (Mi.along l o p q).1 ∧ Sz 232 84 (Mi.along l o p q).2 := by
  obtain ⟨a1, a2⟩ := corner_sz hl ho hr h
  obtain ⟨b1, b2⟩ := corner_sz hl ho hr g
  exact ⟨b1.sub a1, b2.sub a2⟩
theorem share_sz {l o : Leg} {rho : Rat} (hl : LegOk l) (ho : LegOk o) (hr : RhoOk rho) {p q : P2} (h : p ∈ Mi.ring rho) (g : q ∈ Mi.ring rho) (h0 : dotQ (Mi.along l o p q) (Mi.along l o p q) ≠ 0) : Sz 884 885 (Mi.share l o p q) := by
  obtain ⟨a1, a2⟩ := corner_sz hl ho hr h
  obtain ⟨b1, b2⟩ := along_sz hl ho hr h g
  have d1 := dot_sz a1 a2 b1 b2
  have d2 := dot_sz b1 b2 b1 b2
  have m1 : Sz 0 0 (((-1 : Int)) : Rat) := Sz.int (by decide)
  exact ((m1.mul d1).div d2 h0).mono (by decide) (by decide)
theorem seg_sz {rho x : Rat} (hr : RhoOk rho) {p q : P2} (h : p ∈ Mi.ring rho) (g : q ∈ Mi.ring rho) (hx : Sz 884 885 x) : Sz 1013 1011 (Mi.onSeg p q x).1 ∧ Sz 1013 1011 (Mi.onSeg p q x).2 := by
  obtain ⟨p1, p2⟩ := ring_sz hr h
  obtain ⟨q1, q2⟩ := ring_sz hr g
  exact ⟨(p1.add (hx.mul (q1.sub p1))).mono (by decide) (by decide), (p2.add (hx.mul (q2.sub p2))).mono (by decide) (by decide)⟩
theorem side_sz {l o : Leg} {rho : Rat} (hl : LegOk l) (ho : LegOk o) (hr : RhoOk rho) {p q : P2} (h : p ∈ Mi.ring rho) (g : q ∈ Mi.ring rho) : Sz 1013 1011 (Mi.sideQ l o p q).1 ∧ Sz 1013 1011 (Mi.sideQ l o p q).2 := by
  obtain ⟨p1, p2⟩ := ring_sz hr h
  obtain ⟨q1, q2⟩ := ring_sz hr g
  unfold Mi.sideQ
  split
  · exact ⟨p1.mono (by decide) (by decide), p2.mono (by decide) (by decide)⟩
  · rename_i h0
    have ap := Mi.dot_pos h0
    split
    · exact ⟨p1.mono (by decide) (by decide), p2.mono (by decide) (by decide)⟩
    · split
      · exact ⟨q1.mono (by decide) (by decide), q2.mono (by decide) (by decide)⟩
      · exact seg_sz hr h g (share_sz hl ho hr h g (by grind))
theorem sqAt_sz {l o : Leg} {p : P2} (hl : LegOk l) (ho : LegOk o) (h1 : Sz 1013 1011 p.1) (h2 : Sz 1013 1011 p.2) : Sz 12200 8100 (sqAt l o p) := by
  obtain ⟨g1, g2⟩ := gap_sz hl ho h1 h2
  exact (dot_sz g1 g2 g1 g2).mono (by decide) (by decide)
theorem fr_zero (x : Rat) : (x.num = 0 ∧ (x.den : Int) = 1) ↔ x = 0 := by
  constructor
  · rintro ⟨h, _⟩
    exact Rat.num_eq_zero.mp h
  · rintro rfl
    exact ⟨rfl, rfl⟩
theorem eqv_zero (a : P2) : PyData.eqv (pyD (p2D a)) (pyD (.tup [.tup [.int 0, .int 1], .tup [.int 0, .int 1]])) = decide (a = (0, 0)) := by
  have h1 := fr_zero a.1
  have h2 := fr_zero a.2
  rw [Bool.eq_iff_iff, decide_eq_true_iff]
  simp only [p2D, fr, pyD, pyDs, PyData.eqv, PyData.eqvAll, Bool.and_true, Bool.and_eq_true, beq_iff_eq]
  rw [h1, h2]
  constructor
  · rintro ⟨e1, e2⟩
    exact Prod.ext e1 e2
  · intro e
    exact ⟨congrArg Prod.fst e, congrArg Prod.snd e⟩
def R_on_side (ds : List D) (d : D) : Prop := ∃ l o rho one far, ds = [legD l, legD o, p2D one, p2D far] ∧ LegOk l ∧ LegOk o ∧ RhoOk rho ∧ one ∈ Mi.ring rho ∧ far ∈ Mi.ring rho ∧ d = p2D (Mi.sideQ l o one far)
section
variable {P : Program} {w : World} {K : PySem.W.Frag} {mg : Str → Option Value} {base : Heap}
theorem cal_on_side {f : Addr} {fd : FuncData} (F : FnP K "on_side" s_on_side f fd) (m : mg "on_side" = some (.ref f)) (c_over : Cal P w K mg base "over" 2 ["one", "other"] (spP K R_over)) (c_parting : Cal P w K mg base "parting" 4 ["leg", "other", "s", "t"] (spP K R_parting)) (c_lessened : Cal P w K mg base "lessened" 2 ["one", "other"] (spP K R_lessened)) (c_times : Cal P w K mg base "times" 2 ["one", "other"] (spP K R_times)) (c_dot : Cal P w K mg base "dot" 3 ["one", "other"] (spP K R_dot)) (c_added : Cal P w K mg base "added" 2 ["one", "other"] (spP K R_added)) (m_tuple : mg "tuple" = none) (m_zip : mg "zip" = none) (h_N : Tup2 K mg "NOUGHT" 0 1) : Cal P w K mg base "on_side" 5 ["leg", "other", "one", "far"] (spP K R_on_side) := by
  refine cal_of F m (F.bindsN fun _ _ _ _ _ _ us hl => match us, hl with | [_, _, _, _], _ => rfl) (okP F sc_on_side (fun ds d h => ?_) fun cdv A outer s H E hr M ds d hR => ?_)
  · obtain ⟨_, _, _, _, _, rfl, _⟩ := h
    rfl
  have nd := sc_on_side.nd
  obtain ⟨l, o, rho, one, far, rfl, hl, ho, hrho, h1, h2, rfl⟩ := hR
  obtain ⟨p1, p2⟩ := ring_sz hrho h1
  obtain ⟨q1, q2⟩ := ring_sz hrho h2
  obtain ⟨a1, a2⟩ := corner_sz hl ho hrho h1
  obtain ⟨b1, b2⟩ := corner_sz hl ho hrho h2
  obtain ⟨c1, c2⟩ := along_sz hl ho hrho h1 h2
  refine SD.nrm [some _, some _, some _, some _, none, none, none, none, none, none] rfl ?_
  refine sd_cons (s1_par 4 5 (k_parting (s := one.1) (t := one.2) c_parting hr (pad_cons (pd_var 0) (pad_cons (pd_var 1) (pad_cons (pd_ixT (pd_var 2) pd_int) (pad_cons (pd_ixT (pd_var 2) pd_int) pad_nil)))) ⟨hl, ho, _, _, _, _, p1, p2, by decide⟩) (k_parting (s := far.1) (t := far.2) c_parting hr (pad_cons (pd_var 0) (pad_cons (pd_var 1) (pad_cons (pd_ixT (pd_var 3) pd_int) (pad_cons (pd_ixT (pd_var 3) pd_int) pad_nil)))) ⟨hl, ho, _, _, _, _, q1, q2, by decide⟩) nd) ?_
  refine SD.nrm [some _, some _, some _, some _, some _, some _, none, none, none, none] rfl ?_
  refine sd_cons (s1_set 6 (d := p2D (Mi.along l o one far)) (PD.of (pd_tup (pad_cons (k_lessened (x := (Mi.gap l o far.1 far.2).1) (y := (Mi.gap l o one.1 one.2).1) c_lessened hr (pad_cons (pd_ixT (pd_var 5) pd_int) (pad_cons (pd_ixT (pd_var 4) pd_int) pad_nil)) ⟨_, _, _, _, b1, a1, by decide⟩) (pad_cons (k_lessened (x := (Mi.gap l o far.1 far.2).2) (y := (Mi.gap l o one.1 one.2).2) c_lessened hr (pad_cons (pd_ixT (pd_var 5) pd_int) (pad_cons (pd_ixT (pd_var 4) pd_int) pad_nil)) ⟨_, _, _, _, b2, a2, by decide⟩) pad_nil))) rfl) nd) ?_
  refine SD.nrm [some _, some _, some _, some _, some _, some _, some _, none, none, none] rfl ?_
  by_cases h0 : Mi.along l o one far = (0, 0)
  · unfold Mi.sideQ
    rw [if_pos h0]
    exact sd_stop (s1_ifT (((ptd_eqD hr (pd_var 6) (pd_tup (pad_cons (pd_T2 h_N) (pad_cons (pd_T2 h_N) pad_nil))) rfl rfl).of (eqv_zero _)).of (decide_eq_true h0)) (sd_last (s1_ret (pd_var 2))))
  have ap := Mi.dot_pos h0
  have ap0 : dotQ (Mi.along l o one far) (Mi.along l o one far) ≠ 0 := by grind
  have zs := share_sz hl ho hrho h1 h2 ap0
  have d1 := dot_sz a1 a2 c1 c2
  have d2 := dot_sz c1 c2 c1 c2
  have m1 : Sz 0 0 (((-1 : Int)) : Rat) := Sz.int (by decide)
  refine sd_cons (s1_ifF (((ptd_eqD hr (pd_var 6) (pd_tup (pad_cons (pd_T2 h_N) (pad_cons (pd_T2 h_N) pad_nil))) rfl rfl).of (eqv_zero _)).of (decide_eq_false h0)) sd_nil) ?_
  refine sd_cons (s1_set 7 (d := fr (Mi.share l o one far)) (k_over (x := ((-1 : Int) : Rat) * dotQ (Mi.gap l o one.1 one.2) (Mi.along l o one far)) (y := dotQ (Mi.along l o one far) (Mi.along l o one far)) c_over hr (pad_cons (k_times c_times hr (pad_cons (pd_frI (pd_neg pd_int)) (pad_cons (k_dot c_dot hr (pad_cons (pd_var 4) (pad_cons (pd_var 6) pad_nil)) ?_) pad_nil)) ?_) (pad_cons (k_dot c_dot hr (pad_cons (pd_var 6) (pad_cons (pd_var 6) pad_nil)) ?_) pad_nil)) ?_) nd) ?_
  · exact ⟨_, _, _, _, ⟨a1, a2, c1, c2⟩, by decide⟩
  · exact ⟨_, _, _, _, m1, d1, by decide⟩
  · exact ⟨_, _, _, _, ⟨c1, c2, c1, c2⟩, by decide⟩
  · exact ⟨ap0, _, _, _, _, m1.mul d1, d2, by decide⟩
  refine SD.nrm [some _, some _, some _, some _, some _, some _, some _, some _, none, none] rfl ?_
  unfold Mi.sideQ
  rw [if_neg h0]
  by_cases h3 : (Mi.share l o one far).num ≤ 0
  · rw [if_pos h3]
    exact sd_stop (s1_ifT ((ptd_le (pd_ixT (pd_var 7) pd_int) pd_int).of (decide_eq_true h3)) (sd_last (s1_ret (pd_var 2))))
  refine sd_cons (s1_ifF ((ptd_le (pd_ixT (pd_var 7) pd_int) pd_int).of (decide_eq_false h3)) sd_nil) ?_
  rw [if_neg h3]
  by_cases h4 : ((Mi.share l o one far).den : Int) ≤ (Mi.share l o one far).num
  · rw [if_pos h4]
    exact sd_stop (s1_ifT ((ptd_ge (pd_ixT (pd_var 7) pd_int) (pd_ixT (pd_var 7) pd_int)).of (decide_eq_true h4)) (sd_last (s1_ret (pd_var 3))))
  refine sd_cons (s1_ifF ((ptd_ge (pd_ixT (pd_var 7) pd_int) (pd_ixT (pd_var 7) pd_int)).of (decide_eq_false h4)) sd_nil) ?_
  rw [if_neg h4]
  refine sd_last (s1_ret (PD.of (pd_tupL m_tuple (pl_lc (ds := zipD [fr one.1, fr one.2] [fr far.1, fr far.2]) (own := [("part", 8), ("last", 9)]) (f := fun d => match d with | .tup [a, b] => some (fr (unfr a + Mi.share l o one far * (unfr b - unfr a))) | _ => none)
    (fun d => match d with | .tup [a, b] => [some (legD l), some (legD o), some (p2D one), some (p2D far), some (p2D (Mi.gap l o one.1 one.2)), some (p2D (Mi.gap l o far.1 far.2)), some (p2D (Mi.along l o one far)), some (fr (Mi.share l o one far)), some a, some b] | _ => [])
    (blkOk_by (N := N_on_side) (sc := defScope s_on_side) (by decide +kernel)) nd (id_zipT m_zip (pd_var 2) (pd_var 3)) (fun d hd s H0 C cl fp => ?_) (show 2 ≤ 1000 by decide)).pd) ?_))
  · rcases List.mem_cons.mp hd with rfl | hd
    · refine ⟨gdw_tup (gdws_cons (gdw_name 8 (by simp) nd) (gdws_cons (gdw_name 9 (by simp) nd) gdws_nil)), ⟨trivial, trivial, trivial⟩, ptsd_nil, ?_⟩
      refine (k_added (x := one.1) (y := Mi.share l o one far * (far.1 - one.1)) c_added hr (pad_cons (pd_var 8) (pad_cons (k_times (x := Mi.share l o one far) (y := far.1 - one.1) c_times hr (pad_cons (pd_var 7) (pad_cons (k_lessened (x := far.1) (y := one.1) c_lessened hr (pad_cons (pd_var 9) (pad_cons (pd_var 8) pad_nil)) ?_) pad_nil)) ?_) pad_nil)) ?_).of ?_
      · exact ⟨_, _, _, _, q1, p1, by decide⟩
      · exact ⟨_, _, _, _, zs, q1.sub p1, by decide⟩
      · exact ⟨_, _, _, _, p1, zs.mul (q1.sub p1), by decide⟩
      · rw [unfr_fr, unfr_fr]
    · have e := List.mem_singleton.mp hd
      subst e
      refine ⟨gdw_tup (gdws_cons (gdw_name 8 (by simp) nd) (gdws_cons (gdw_name 9 (by simp) nd) gdws_nil)), ⟨trivial, trivial, trivial⟩, ptsd_nil, ?_⟩
      refine (k_added (x := one.2) (y := Mi.share l o one far * (far.2 - one.2)) c_added hr (pad_cons (pd_var 8) (pad_cons (k_times (x := Mi.share l o one far) (y := far.2 - one.2) c_times hr (pad_cons (pd_var 7) (pad_cons (k_lessened (x := far.2) (y := one.2) c_lessened hr (pad_cons (pd_var 9) (pad_cons (pd_var 8) pad_nil)) ?_) pad_nil)) ?_) pad_nil)) ?_).of ?_
      · exact ⟨_, _, _, _, q2, p2, by decide⟩
      · exact ⟨_, _, _, _, zs, q2.sub p2, by decide⟩
      · exact ⟨_, _, _, _, p2, zs.mul (q2.sub p2), by decide⟩
      · rw [unfr_fr, unfr_fr]
  · show D.tup [fr (unfr (fr one.1) + Mi.share l o one far * (unfr (fr far.1) - unfr (fr one.1))), fr (unfr (fr one.2) + Mi.share l o one far * (unfr (fr far.2) - unfr (fr one.2)))] = _
    rw [unfr_fr, unfr_fr, unfr_fr, unfr_fr]
    rfl
end
end Wk
end
section
set_option Elab.async false
set_option linter.all false
set_option maxRecDepth 100000
set_option maxHeartbeats 4000000
namespace Wk
open PySem PySem.Spec PyProof.Rows L2 Fq
open Mi (Col Leg P2 pl dotQ sqAt)
section
variable {X : Cx} {M : Mu} {n : Nat} {env env' : DEnv} {cs : List D} {e : Expr} {sts : List Stmt} {pos : Pos} {d : D} {ds : List D} {o : OutM}
theorem SM.nrm (env' : DEnv) (q : env = env') (h : SM X M n sts env' cs o) : SM X M n sts env cs o := q ▸ h
theorem sd_own (n : Nat) {x : Str} {px : Pos} (h : PL X M e env ds) (hfl : Flats ds) (hN : X.N.Nodup) (hs : SM X M n sts (env.set n none) ds (.rt d)) (hln : Nat.blt n env.length = true := by rfl) (hi : X.N[n]? = some x := by rfl) (hx : Loc X.env.scope x := by first | exact Or.inl rfl | exact Or.inr rfl) (hsw : swapsWith e (some (.Name x px)) pos.line X.env = pure false := by rfl)
    (hf : X.fn x = true ∨ X.env.scope.names.lookup x = some .local := by first | exact .inl rfl | exact .inr rfl) : SD X M (.Assign [.Name x px] e pos :: sts) env (.rt d) := fun D σ H hE hO =>
  own_begin hfl h hE hN (Nat.le_of_ble_eq_true hln) hi hx hsw hf fun σ' H' p hOw => hs D σ' H' H p hOw hO
end
theorem flats_p2 : ∀ ps : List P2, Flats (ps.map p2D)
  | [] => trivial
  | _ :: r => ⟨⟨⟨trivial, trivial, trivial⟩, ⟨trivial, trivial, trivial⟩, trivial⟩, flats_p2 r⟩
def unp : D → P2
  | .tup [x, y] => (unfr x, unfr y)
  | _ => (0, 0)
theorem unp_p2 (p : P2) : unp (p2D p) = p := by
  show (unfr (fr p.1), unfr (fr p.2)) = p
  rw [unfr_fr, unfr_fr]
def rowD (r : Mi.Row) : D := .tup [fr r.1, fr r.2.1, fr r.2.2]
def accD : Option Mi.Row → D
  | none => .non
  | some r => rowD r
def R_nearest (ds : List D) (d : D) : Prop := ∃ l o rho, ds = [legD l, legD o, fr rho] ∧ LegOk l ∧ LegOk o ∧ RhoOk rho ∧ d = rowD (Mi.nearQ l o rho)
theorem cand_sz {l o : Leg} {rho : Rat} (hl : LegOk l) (ho : LegOk o) (hr : RhoOk rho) {p : P2} (h : p ∈ Mi.cands l o rho) : Sz 1013 1011 p.1 ∧ Sz 1013 1011 p.2 := by
  unfold Mi.cands at h
  rcases List.mem_append.mp h with h | h
  · rcases List.mem_append.mp h with h | h
    · obtain ⟨a, b⟩ := ring_sz hr h
      exact ⟨a.mono (by decide) (by decide), b.mono (by decide) (by decide)⟩
    · unfold Mi.sides at h
      simp only [List.mem_cons, List.not_mem_nil, or_false] at h
      rcases h with rfl | rfl | rfl | rfl | rfl | rfl <;> exact side_sz hl ho hr (by simp [Mi.ring]) (by simp [Mi.ring])
  · split at h
    · rename_i mm
      have e : p = Mi.met l o := by simpa using h
      obtain ⟨hw, _⟩ := Mi.meets_iff.mp mm
      subst e
      obtain ⟨w1, w2, w3⟩ := whole_nz hl ho
      exact ⟨((sz_nz w2).div (sz_nz w1) (cast_ne hw)).mono (by decide) (by decide), ((sz_nz w3).div (sz_nz w1) (cast_ne hw)).mono (by decide) (by decide)⟩
    · simp at h
theorem row_sz {l o : Leg} {rho : Rat} (hl : LegOk l) (ho : LegOk o) (hr : RhoOk rho) {p : P2} (h : p ∈ Mi.cands l o rho) : SzAll (Mi.rowL (Mi.rowOf l o p)) := by
  obtain ⟨a, b⟩ := cand_sz hl ho hr h
  intro x hx
  have hx2 : x ∈ [sqAt l o p, p.1, p.2] := hx
  simp only [List.mem_cons, List.not_mem_nil, or_false] at hx2
  rcases hx2 with rfl | rfl | rfl
  · exact (sqAt_sz hl ho a b).mono (by decide) (by decide)
  · exact a.mono (by decide) (by decide)
  · exact b.mono (by decide) (by decide)
theorem nearF_mem (l o : Leg) (ps : List P2) : (ps = [] ∧ Mi.nearF l o ps = none) ∨ ∃ p ∈ ps, Mi.nearF l o ps = some (Mi.rowOf l o p) := by
  cases ps with
  | nil => exact .inl ⟨rfl, rfl⟩
  | cons p ps =>
    obtain ⟨r, h1, h2, _, _⟩ := Mi.nearF_ok l o ps (Mi.rowOf l o p)
    refine .inr ?_
    have e : Mi.nearF l o (p :: ps) = some r := h1
    rcases h2 with z | ⟨q, hq, z⟩
    · exact ⟨p, List.mem_cons_self, by rw [e, z]⟩
    · exact ⟨q, List.mem_cons_of_mem _ hq, by rw [e, z]⟩
theorem nearF_snoc (l o : Leg) (ps : List P2) (p : P2) : Mi.nearF l o (ps ++ [p]) = Mi.step l o (Mi.nearF l o ps) p := by
  unfold Mi.nearF
  rw [List.foldl_append] <;> rfl
def rot (rho : Rat) : List D := [p2D (0, rho), p2D (1 - rho, 1), p2D (1, 1), p2D (1, 1 - rho), p2D (rho, 0), p2D (0, 0)]
def fSide (l o : Leg) (d : D) : Option D := match d with
  | .tup [a, b] => some (p2D (Mi.sideQ l o (unp a) (unp b)))
  | _ => none
theorem fSide_all (l o : Leg) (rho : Rat) : (zipD ((Mi.ring rho).map p2D) (rot rho)).filterMap (fSide l o) = (Mi.sides l o rho).map p2D := by
  show [p2D (Mi.sideQ l o (unp (p2D (0, 0))) (unp (p2D (0, rho)))), p2D (Mi.sideQ l o (unp (p2D (0, rho))) (unp (p2D (1 - rho, 1)))), p2D (Mi.sideQ l o (unp (p2D (1 - rho, 1))) (unp (p2D (1, 1)))), p2D (Mi.sideQ l o (unp (p2D (1, 1))) (unp (p2D (1, 1 - rho)))), p2D (Mi.sideQ l o (unp (p2D (1, 1 - rho))) (unp (p2D (rho, 0)))), p2D (Mi.sideQ l o (unp (p2D (rho, 0))) (unp (p2D (0, 0))))] = _
  simp only [unp_p2]
  rfl
theorem zip_ring {rho : Rat} {d : D} (h : d ∈ zipD ((Mi.ring rho).map p2D) (rot rho)) : ∃ one far, one ∈ Mi.ring rho ∧ far ∈ Mi.ring rho ∧ d = .tup [p2D one, p2D far] := by
  obtain ⟨k, hk⟩ := List.getElem?_of_mem h
  obtain ⟨x, y, h1, h2, rfl⟩ := zipD_get hk
  obtain ⟨one, ho, rfl⟩ := List.mem_map.mp (List.mem_of_getElem? h1)
  have h3 := List.mem_of_getElem? h2
  unfold rot at h3
  simp only [List.mem_cons, List.not_mem_nil, or_false] at h3
  rcases h3 with rfl | rfl | rfl | rfl | rfl | rfl <;> exact ⟨one, _, ho, by simp [Mi.ring], rfl⟩
section
variable {P : Program} {w : World} {K : PySem.W.Frag} {mg : Str → Option Value} {base : Heap}
theorem cal_nearest {f : Addr} {fd : FuncData} (F : FnP K "nearest" s_nearest f fd) (m : mg "nearest" = some (.ref f)) (c_ring_of : Cal P w K mg base "ring_of" 3 ["rho"] (spL K R_ring_of)) (c_crossing : Cal P w K mg base "crossing" 3 ["leg", "other"] (spP K R_crossing)) (c_is_within : Cal P w K mg base "is_within" 3 ["s", "t", "rho"] (spP K R_is_within)) (c_on_side : Cal P w K mg base "on_side" 5 ["leg", "other", "one", "far"] (spP K R_on_side)) (c_squared_at : Cal P w K mg base "squared_at" 5 ["leg", "other", "s", "t"] (spP K R_squared_at)) (c_by_parts : Cal P w K mg base "by_parts" 2 ["one", "other"] (spP K R_by_parts)) (m_zip : mg "zip" = none) : Cal P w K mg base "nearest" 6 ["leg", "other", "rho"] (spP K R_nearest) := by
  refine cal_of F m (F.bindsN fun _ _ _ _ _ _ us hl => match us, hl with | [_, _, _], _ => rfl) (okP F sc_nearest (fun ds d h => ?_) fun cdv A outer s H E hr M ds d hR => ?_)
  · obtain ⟨_, _, _, rfl, _⟩ := h
    rfl
  have nd := sc_nearest.nd
  obtain ⟨l, o, rho, rfl, hl, ho, hrho, rfl⟩ := hR
  refine SD.nrm [some _, some _, some _, none, none, none, none, none, none, none, none, none] rfl ?_
  refine sd_cons (s1_set 3 (pl_call (ys := (Mi.ring rho).map p2D) c_ring_of hr (pad_cons (pd_var 2) pad_nil) ⟨rho, rfl, hrho, rfl⟩).pd nd) ?_
  refine SD.nrm [some _, some _, some _, some _, none, none, none, none, none, none, none, none] rfl ?_
  refine sd_own 4 (ds := (Mi.ring rho ++ Mi.sides l o rho).map p2D) (PL.of (pl_cat (ds := (Mi.ring rho).map p2D) (ds2 := (zipD ((Mi.ring rho).map p2D) (rot rho)).filterMap (fSide l o)) (pd_var 3) (pl_lc (ds := zipD ((Mi.ring rho).map p2D) (rot rho)) (own := [("one", 10), ("far", 11)]) (f := fSide l o)
    (fun d => match d with | .tup [a, b] => [some (legD l), some (legD o), some (fr rho), some (.lst ((Mi.ring rho).map p2D)), none, none, none, none, none, none, some a, some b] | _ => [])
    (blkOk_by (N := N_nearest) (sc := defScope s_nearest) (by decide +kernel)) nd (id_zipL (ys := rot rho) m_zip (pd_var 3) (PL.of (pl_cat (ds := cutD ((Mi.ring rho).map p2D) (some 1) none) (ds2 := cutD ((Mi.ring rho).map p2D) none (some 1)) (pl_slL (pd_var 3) (pod_some pd_int) pod_none).pd (pl_slL (pd_var 3) pod_none (pod_some pd_int)).pd (show 6 ≤ 1000 by decide)) rfl).pd) (fun d hd s H0 C cl fp => ?_) (show 6 ≤ 1000 by decide)).pd ?_) ?_) (flats_p2 _) nd ?_
  · obtain ⟨one, far, h1, h2, rfl⟩ := zip_ring hd
    refine ⟨gdw_tup (gdws_cons (gdw_name 10 (by simp) nd) (gdws_cons (gdw_name 11 (by simp) nd) gdws_nil)), ⟨⟨trivial, trivial, trivial⟩, ⟨trivial, trivial, trivial⟩, trivial⟩, ptsd_nil, ?_⟩
    refine (pd_call c_on_side hr (pad_cons (pd_var 0) (pad_cons (pd_var 1) (pad_cons (pd_var 10) (pad_cons (pd_var 11) pad_nil)))) ⟨l, o, rho, one, far, rfl, hl, ho, hrho, h1, h2, rfl⟩).of ?_
    rw [unp_p2, unp_p2]
  · rw [fSide_all, List.length_map, List.length_map]
    show 6 + 6 ≤ 1000
    decide
  · rw [fSide_all, List.map_append]
  refine SM.nrm [some _, some _, some _, some _, none, none, none, none, none, none, none, none] rfl ?_
  refine sm_cons (sm_set 5 (fun M => pd_call c_crossing hr (pad_cons (pd_var 0) (pad_cons (pd_var 1) pad_nil)) ⟨l, o, rfl, hl, ho, rfl⟩) nd) ?_
  refine SM.nrm [some _, some _, some _, some _, none, some _, none, none, none, none, none, none] rfl ?_
  refine sm_cons (cs1 := (Mi.cands l o rho).map p2D) (env1 := [some (legD l), some (legD o), some (fr rho), some (.lst ((Mi.ring rho).map p2D)), none, none, none, none, none, none, none, none]) ?_ ?_
  · by_cases hw : Mi.wholeI l o = 0
    · rw [if_pos hw]
      have em : Mi.meets l o rho = false := by
        unfold Mi.meets
        rw [decide_eq_true hw] <;> rfl
      have ec : (Mi.cands l o rho).map p2D = (Mi.ring rho ++ Mi.sides l o rho).map p2D := by
        unfold Mi.cands
        rw [em, if_neg (by decide), List.append_nil]
      rw [ec]
      refine sm_if (k := false) (fun M => ptd_w (pwd_and (x := false) (y := false) ((ptd_notN (pd_var 5)).of (by rfl)) fun h => by cases h)) (fun h => by cases h) (fun _ => sm_nil.le ?_)
      exact ⟨.inr rfl, .inr rfl, .inr rfl, .inr rfl, .inr rfl, .inl rfl, .inr rfl, .inr rfl, .inr rfl, .inr rfl, .inr rfl, .inr rfl, trivial⟩
    · rw [if_neg hw]
      obtain ⟨w1, w2, w3⟩ := whole_nz hl ho
      have z1 := (sz_nz w2).div (sz_nz w1) (cast_ne hw)
      have z2 := (sz_nz w3).div (sz_nz w1) (cast_ne hw)
      have em : Mi.meets l o rho = Mi.isIn rho (Mi.met l o) := by
        unfold Mi.meets
        rw [decide_eq_false hw] <;> rfl
      refine sm_if (k := Mi.isIn rho (Mi.met l o)) (fun M => ptd_w ((pwd_and (x := true) (y := Mi.isIn rho (Mi.met l o)) ((ptd_notN (pd_var 5)).of (by rfl)) fun h => (pwd_and1 (ptd_val (pd_call c_is_within hr (pad_cons (pd_ixT (pd_var 5) pd_int) (pad_cons (pd_ixT (pd_var 5) pd_int) (pad_cons (pd_var 2) pad_nil))) ⟨Mi.met l o, rho, _, _, _, _, rfl, z1, z2, hrho, by decide, rfl⟩)))))) (fun h => ?_) (fun h => ?_)
      · have ec : (Mi.cands l o rho).map p2D = (Mi.ring rho ++ Mi.sides l o rho).map p2D ++ [p2D (Mi.met l o)] := by
          unfold Mi.cands
          rw [em, h, if_pos rfl, List.map_append] <;> rfl
        rw [ec]
        refine SM.le (sm_last (sm_app (fun M => pd_var 5) ?_)) ?_
        · rw [List.length_map]
          show 12 ≤ 1000
          decide
        · exact ⟨.inr rfl, .inr rfl, .inr rfl, .inr rfl, .inr rfl, .inl rfl, .inr rfl, .inr rfl, .inr rfl, .inr rfl, .inr rfl, .inr rfl, trivial⟩
      · have ec : (Mi.cands l o rho).map p2D = (Mi.ring rho ++ Mi.sides l o rho).map p2D := by
          unfold Mi.cands
          rw [em, h, if_neg (by decide), List.append_nil]
        rw [ec]
        exact sm_nil.le ⟨.inr rfl, .inr rfl, .inr rfl, .inr rfl, .inr rfl, .inl rfl, .inr rfl, .inr rfl, .inr rfl, .inr rfl, .inr rfl, .inr rfl, trivial⟩
  refine sm_freeze ?_
  refine SD.nrm [some (legD l), some (legD o), some _, some _, some (.lst ((Mi.cands l o rho).map p2D)), none, none, none, none, none, none, none] rfl ?_
  refine sd_cons (s1_set 6 pd_non nd) ?_
  refine SD.nrm [some (legD l), some (legD o), some _, some _, some (.lst ((Mi.cands l o rho).map p2D)), none, some _, none, none, none, none, none] rfl ?_
  refine sd_cons (s1_for (fun k => [some (legD l), some (legD o), none, none, none, none, some (accD (Mi.nearF l o ((Mi.cands l o rho).take k))), none, none, none, none, none]) (id_list (pd_var 4)) ⟨.inr rfl, .inr rfl, .inl rfl, .inl rfl, .inl rfl, .inr rfl, .inr rfl, .inr rfl, .inr rfl, .inr rfl, .inr rfl, .inr rfl, trivial⟩ (fun k d hd => ?_)) ?_
  · rw [List.getElem?_map] at hd
    obtain ⟨p, hp, rfl⟩ : ∃ p, (Mi.cands l o rho)[k]? = some p ∧ d = p2D p := by
      cases e : (Mi.cands l o rho)[k]? with
      | none => rw [e] at hd; cases hd
      | some p => rw [e] at hd; exact ⟨p, rfl, by simpa using hd.symm⟩
    have hpm := List.mem_of_getElem? hp
    obtain ⟨a1, a2⟩ := cand_sz hl ho hrho hpm
    have tk : (Mi.cands l o rho).take (k + 1) = (Mi.cands l o rho).take k ++ [p] := by rw [List.take_add_one, hp] <;> rfl
    refine ⟨_, [some (legD l), some (legD o), none, none, none, none, some (accD (Mi.nearF l o ((Mi.cands l o rho).take (k + 1)))), some (fr p.1), some (fr p.2), some (rowD (Mi.rowOf l o p)), none, none], gd_tup (gds_cons (gd_name 7 nd) (gds_cons (gd_name 8 nd) gds_nil)), ?_, ⟨.inr rfl, .inr rfl, .inr rfl, .inr rfl, .inr rfl, .inr rfl, .inr rfl, .inl rfl, .inl rfl, .inl rfl, .inr rfl, .inr rfl, trivial⟩⟩
    refine SD.nrm [some (legD l), some (legD o), none, none, none, none, some _, some _, some _, none, none, none] rfl ?_
    refine sd_cons (s1_set 9 (d := rowD (Mi.rowOf l o p)) (pd_tup (pad_cons (k_squared_at c_squared_at hr (pad_cons (pd_var 0) (pad_cons (pd_var 1) (pad_cons (pd_var 7) (pad_cons (pd_var 8) pad_nil)))) ⟨hl, ho, _, _, _, _, a1, a2, by decide⟩) (pad_cons (pd_var 7) (pad_cons (pd_var 8) pad_nil)))) nd) ?_
    refine SD.nrm [some (legD l), some (legD o), none, none, none, none, some _, some _, some _, some _, none, none] rfl ?_
    rw [tk, nearF_snoc]
    rcases nearF_mem l o ((Mi.cands l o rho).take k) with ⟨_, e⟩ | ⟨q, hq, e⟩
    · rw [e]
      exact sd_last (s1_ifT (ptd_w (pwd_or (x := true) (y := true) ((ptd_isN (pd_var 6)).of (by rfl)) fun h => by cases h)) (sd_last (s1_set 6 (pd_var 9) nd)))
    · rw [e]
      have hqm : q ∈ Mi.cands l o rho := List.mem_of_mem_take hq
      by_cases hb : Mi.byP (Mi.rowL (Mi.rowOf l o p)) (Mi.rowL (Mi.rowOf l o q)) < 0
      · rw [show Mi.step l o (some (Mi.rowOf l o q)) p = some (Mi.rowOf l o p) from if_pos hb]
        exact sd_last (s1_ifT (PTD.of (ptd_w (pwd_or (x := false) ((ptd_isN (pd_var 6)).of (by rfl)) fun _ => (pwd_or1 (ptd_lt (pd_call c_by_parts hr (pad_cons (pd_var 9) (pad_cons (pd_var 6) pad_nil)) ⟨Mi.rowL (Mi.rowOf l o p), Mi.rowL (Mi.rowOf l o q), rfl, row_sz hl ho hrho hpm, row_sz hl ho hrho hqm, rfl⟩) pd_int)))) (decide_eq_true hb)) (sd_last (s1_set 6 (pd_var 9) nd)))
      · rw [show Mi.step l o (some (Mi.rowOf l o q)) p = some (Mi.rowOf l o q) from if_neg hb]
        exact sd_last (s1_ifF (PTD.of (ptd_w (pwd_or (x := false) ((ptd_isN (pd_var 6)).of (by rfl)) fun _ => (pwd_or1 (ptd_lt (pd_call c_by_parts hr (pad_cons (pd_var 9) (pad_cons (pd_var 6) pad_nil)) ⟨Mi.rowL (Mi.rowOf l o p), Mi.rowL (Mi.rowOf l o q), rfl, row_sz hl ho hrho hpm, row_sz hl ho hrho hqm, rfl⟩) pd_int)))) (decide_eq_false hb)) sd_nil)
  rw [List.length_map, List.take_of_length_le (Nat.le_refl _)]
  refine sd_last (s1_ret ((pd_var 6).of ?_))
  rcases nearF_mem l o (Mi.cands l o rho) with ⟨e, _⟩ | ⟨q, hq, e⟩
  · exact absurd e (by unfold Mi.cands Mi.ring; simp)
  · unfold Mi.nearQ
    rw [e] <;> rfl
end
end Wk
end
section
set_option Elab.async false
set_option linter.all false
set_option maxRecDepth 100000
set_option maxHeartbeats 4000000
namespace PySem
open Sem (wp)
set_option maxHeartbeats 1000000 in
theorem meets_enumerate_newT {v : Value} {o : Obj} {H : Heap → Prop} (B : Begins v o H) :
    Meets (Builtin.«enumerate.__new__» ⟨[.type "enumerate", v], []⟩) (fun _ R s => H s.heap ∧
      R (.ok (.ret (.ref (s.heap.push o).objs.size))) { s with heap := (s.heap.push o).push { cls := .type "enumerate", data := .fields #[.none, .bool false, .ref s.heap.objs.size, rawInt 0, .none, .none] } }) :=
  .of_wp fun prog w A R s h => by
    obtain ⟨hp, g, d, tk, os⟩ := s; obtain ⟨h1, h⟩ := h
    have hsub := sub_enumerate
    have q1 : ∀ {A' : Around} {E : Value → Shared → Prop} {Q : Value → Shared → Prop}, Q (.ref hp.objs.size) ⟨hp.push o, g, d, tk, os⟩ → wpAny (model prog w) A' (pyIter v) Q E ⟨hp, g, d, tk, os⟩ :=
      fun q => B.iter prog w _ _ ⟨hp, g, d, tk, os⟩ _ h1 q
    wp_walk using q1
    refine wpAny_stack_any fun st => wpAny_pure ?_
    split
    · rename_i c _ _ _ _ _
      cases (c == Value.type "enumerate")
      · wp_walk using q1
        exact ⟨_, rfl, h⟩
      · wp_walk using q1
        exact ⟨_, rfl, h⟩
    · wp_walk using q1
      exact ⟨_, rfl, h⟩
section
variable {prog : Program} {w : World} {A : Around} {E : Value → Shared → Prop} {s : Shared}
theorem call_enumerate_tuple {l : Addr} {items : Array Value} {Q : Value → Shared → Prop} (hL : s.heap.IsTuple l items)
    (h : ∀ h', IsEnum h' (s.heap.objs.size + 1) s.heap.objs.size 0 .none → h'.IsTupleIter s.heap.objs.size l 0 → h'.objs.size = s.heap.objs.size + 2 →
      (∀ b o, s.heap.get? b = some o → h'.get? b = some o) → Q (.ref (s.heap.objs.size + 1)) { s with heap := h' }) :
    wpAny (model prog w) A (call (.type "enumerate") [.ref l]) Q E s := by
  refine callType_new F.called_enumerate (by decide) (F.typeCall_enumerate_1 _) (F.newCall_enumerate_1 _) (fun obj => F.args_object_init_2 obj _) F.entry_enumerate_new
    (meets_enumerate_newT (begins_tuple l items)) ⟨hL, ?_⟩
  have hz : (s.heap.push { cls := .type "tuple_iterator", data := .fields #[.ref l, .int 0 0] }).objs.size = s.heap.objs.size + 1 := Heap.size_push ..
  show _ ∧ _
  rw [hz]
  have he : IsEnum ((s.heap.push { cls := .type "tuple_iterator", data := .fields #[.ref l, .int 0 0] }).push
      { cls := .type "enumerate", data := .fields #[.none, .bool false, .ref s.heap.objs.size, rawInt 0, .none, .none] }) (s.heap.objs.size + 1) s.heap.objs.size 0 .none := by
    have := Heap.get?_push_size (s.heap.push { cls := .type "tuple_iterator", data := .fields #[.ref l, .int 0 0] })
      (o := { cls := .type "enumerate", data := .fields #[.none, .bool false, .ref s.heap.objs.size, rawInt 0, .none, .none] }) rfl
    rw [hz] at this; exact this
  refine ⟨⟨_, he, rfl⟩, h _ he ⟨_, Heap.get?_push_of_some _ (Heap.get?_push_size _ rfl), rfl, rfl⟩ (by rw [Heap.size_push, hz]) fun b o x => Heap.get?_push_of_some _ (Heap.get?_push_of_some _ x)⟩
end
end PySem
namespace L2
open PySem PySem.Spec PyProof.Rows
def IteT (K : PySem.W.Frag) (a : Addr) : It :=
  ⟨fun i H => ∃ (xs : List V) (x : V), SqT K H a xs ∧ xs[i]? = some x, fun i H v H' => ∃ T x, v = .ref T ∧ H T = none ∧ H' = upd H T (.tup [.int (i : Nat), x]) ∧ ∀ xs, SqT K H a xs → xs[i]? = some x, fun i H => ∃ xs : List V, SqT K H a xs ∧ xs.length ≤ i⟩
theorem turn_enumT {P : Program} {w : World} {K : PySem.W.Frag} {elts : List Expr} {kk : Nat} {tpos : Pos} (a e it : Addr) :
    Turn P w K (.Tuple elts kk tpos) (IteT K a) [e, it] e (fun i h => (∃ old, IsEnum h e it ((i : Nat) : Int) old) ∧ h.IsTupleIter it a i ∧ e ≠ it ∧ a ≠ it ∧ e ≠ a) where
  mem := by simp
  obj := fun i h st b hb => by
    obtain ⟨⟨old, he⟩, ⟨o, ho, hc, hd⟩, _⟩ := st
    have e' : b = e ∨ b = it := by simpa using hb
    rcases e' with z | z
    · rw [z]; exact ⟨_, he, fun v q => nomatch q⟩
    · rw [z]; exact ⟨o, ho, fun v q => by rw [hd] at q; cases q⟩
  keep := fun i h h' st k => let ⟨⟨old, he⟩, hi, hne⟩ := st; ⟨⟨old, k e (by simp) _ he⟩, hi.at fun o q => k it (by simp) o q, hne⟩
  item := by
    intro X hP hw hK hc i pins s σ H E I hf st hg
    subst hP hw hK
    obtain ⟨⟨old, he⟩, hit, hne, hai, hea⟩ := st
    obtain ⟨xs, x, hq, hx⟩ := hg
    obtain ⟨its, rv, p, hz⟩ := I.tuple hq
    obtain ⟨u, hu, ru⟩ := rv.get hx
    have hel : e < s.heap.objs.size := Heap.lt_size he
    have hil : it < s.heap.objs.size := by obtain ⟨_, q, _⟩ := hit; exact Heap.lt_size q
    have hlt : i < its.toArray.size := by
      have hu' : its.toArray[i]? = some u := by simpa using hu
      exact (Array.getElem?_eq_some_iff.mp hu').1
    refine wpAny_pyNext_enum_itemD (Draws.tuple (A := X.A.in1) (prog := X.prog) (w := X.w) (show X.A.in1.handled = none from I.ok.hd hc) it a hai its.toArray) he ⟨hit, p⟩ hlt hne (by simp [hne, hea]) fun x' h' tk hx' ho hit' hT hsz hk => ?_
    have ex : x' = u := by
      have hu' : its.toArray[i]? = some u := by simpa using hu
      have hx2 : its.toArray[i]? = some x' := hx'
      rw [hu'] at hx2
      exact (Option.some.inj hx2).symm
    subst ex
    refine ⟨_, rfl, wpAny_letOwnedTupleGo_enum (s := { s with heap := h', toks := tk + 1 }) ho fun h'' he' sb => ?_⟩
    have hT2 : h''.get? s.heap.objs.size = some { cls := .type "tuple", data := .seq #[.int i tk, x'] } := (sb.2 _ (Nat.ne_of_gt hel)).trans hT
    have new : ObjOk X.prog X.w (upd H s.heap.objs.size (.tup [.int (i : Nat), x])) h'' s.heap.objs.size (.tup [.int (i : Nat), x]) :=
      ⟨by show 2 ≤ sizeLine; decide, [.int i tk, x'], .cons ⟨_, rfl⟩ (.cons ru .nil), ⟨_, hT2, rfl, _, rfl⟩⟩
    have I1 : Inv X pins σ (upd H s.heap.objs.size (.tup [.int (i : Nat), x])) { s with heap := h'', toks := tk + 1 } :=
      I.turnedNew (ch := [e, it]) (fun b ob hb q => (sb.2 b (fun z => hb (by simp [z]))).trans (hk b ob (fun z => hb (by simp [z])) (fun z => hb (by simp [z])) q)) hf (Nat.le_refl _) new
    refine ⟨.ref s.heap.objs.size, _, I1, rfl, ⟨_, x, rfl, I.hok.fresh (Nat.le_refl _), rfl, fun ys hy => by rw [I.tuple_inj hy hq]; exact hx⟩, ⟨⟨x', ?_⟩, hit'.1.at fun o q => (sb.2 it (Ne.symm hne)).trans q, hne, hai, hea⟩, fun b hb => ?_⟩
    · have e1 : ((i + 1 : Nat) : Int) = (i : Int) + 1 := by omega
      rw [e1]; exact he'
    · have hb' : b < s.heap.objs.size := by
        have e' : b = e ∨ b = it := by simpa using hb
        rcases e' with z | z
        · rw [z]; exact hel
        · rw [z]; exact hil
      rw [upd_ne (Nat.ne_of_lt hb')]
      exact (hf b hb).1
  done := by
    intro X hP hw hK hc i pins s σ H E I hf st hg
    subst hP hw hK
    obtain ⟨⟨old, he⟩, hit, hne, hai, hea⟩ := st
    obtain ⟨xs, hq, hx⟩ := hg
    obtain ⟨its, rv, p, hz⟩ := I.tuple hq
    obtain ⟨f0, f1, f2, f3, f4, f5⟩ := hf it (by simp)
    have hl := rv.length
    have D0 : Draws X.prog X.w X.A.in1 it [it, a] i (fun k v => k < i ∧ its.toArray[k]? = some v) (fun k h => k = i ∧ h.IsTupleIter it a k ∧ h.IsTuple a its.toArray) :=
      ⟨fun _ _ st => let ⟨o, ho, _⟩ := st.2.1; ⟨o, ho⟩, fun _ _ _ st hk => ⟨st.1, st.2.1.at fun o e => hk it (by simp) o e, st.2.2.at fun o e => hk a (by simp) o e⟩, fun k s Q E hi st hQ => absurd hi (by have := st.1; omega), fun s Q E st hE => wpAny_nextOf_tuple_end (I.ok.hd hc) st.2.1 st.2.2 (by simp; omega) hE⟩
    exact wpAny_pyNext_enum_endD D0 he ⟨rfl, hit, p⟩ fun h' eb => ⟨rfl, I.turned (t' := s.toks) (fun b o hb q => eb b o hb q) f0 f1 f3 f4 f5⟩
  self := fun A i s Q E st h => let ⟨⟨_, he⟩, _⟩ := st; wpAny_pyIter_enum he h
def iEnumT (K : PySem.W.Frag) (ta : TA) : TI := fun σ H R => ta σ H fun vs H1 => ∃ a xs, vs = [.ref a] ∧ SqT K H1 a xs ∧ R (IteT K a) H1
theorem pi_enumT {X : Cx} {e : Expr} {ta : TA} {p pos tpos : Pos} {elts : List Expr} {kk : Nat} (hg : Gl X "enumerate") (hm : X.mg "enumerate" = none) (ha : PA X [e] ta) (hs : starEach [e] X.env = [(false, eval e X.env)] := by rfl) :
    PI X (.Tuple elts kk tpos) (.Call (.Name "enumerate" p) [e] [] pos) (iEnumT X.K ta) := by
  refine ⟨fun pins s σ H R I h => ?_⟩
  refine Call_ (ld_blt I hg hm boot_enumerate (PyProof.Rows.callWith_type1 (thn (ha.run pos pins s σ H _ I h) fun us s1 ⟨vs, H1, I1, r1, q1⟩ => ?_) hs rfl))
  obtain ⟨a, xs, ex, hq, q⟩ := q1
  subst ex
  cases r1 with
  | cons r rr =>
    cases rr
    cases r
    obtain ⟨its, rv, p', hz⟩ := I1.tuple hq
    have hal : a < s1.heap.objs.size := by
      obtain ⟨o, ho, _⟩ := p'
      exact Heap.lt_size ho
    refine call_enumerate_tuple (show s1.heap.IsTuple a its.toArray from p') fun h' he hit hsz hk => wpAny_pyIter_enum he ?_
    have I2 : Inv X pins σ H1 { s1 with heap := h' } := I1.kept (t' := s1.toks) hk
    refine ⟨s1.heap.objs.size + 1, [s1.heap.objs.size + 1, s1.heap.objs.size], _, _, H1, rfl, I2, turn_enumT a (s1.heap.objs.size + 1) s1.heap.objs.size, ⟨⟨.none, he⟩, hit, Nat.succ_ne_self _, Nat.ne_of_lt hal, Nat.ne_of_gt (Nat.lt_succ_of_lt hal)⟩, fun b hb => ?_, q⟩
    have e' : b = s1.heap.objs.size + 1 ∨ b = s1.heap.objs.size := by simpa using hb
    have hle : s1.heap.objs.size ≤ b := by
      rcases e' with z | z
      · rw [z]; exact Nat.le_add_right _ _
      · rw [z]; exact Nat.le_refl _
    exact I1.fpOk hle (I1.hok.fresh hle)
theorem walk_enumT {K : PySem.W.Frag} {a : Addr} {xs : List V} : Walk (IteT K a) xs.length (fun H => SqT K H a xs) (YPair (fun i => some (.int (i : Nat))) (fun i => xs[i]?)) := by
  refine ⟨fun i _ hi q => ⟨xs, xs[i], q, by simp [hi]⟩, fun _ q => ⟨xs, q, Nat.le_refl _⟩, fun i H v H' _ q y => ?_⟩
  obtain ⟨T, x, h1, h2, h3, h4⟩ := y
  exact ⟨T, .int (i : Nat), x, h1, h2, h3, rfl, h4 xs q⟩
end L2
namespace Wk
open PySem PySem.Spec PyProof.Rows L2 Fq
open Mi (Col Leg P2 pl dotQ sqAt)
def enumD (xs : List D) : List D := zipD (rngD 0 xs.length) xs
theorem enumD_len (xs : List D) : (enumD xs).length = xs.length := by unfold enumD; rw [zipD_len, rngD_len, Nat.min_self]
theorem enumD_get {xs : List D} {k : Nat} {d : D} (h : (enumD xs)[k]? = some d) : ∃ x, xs[k]? = some x ∧ d = .tup [.int k, x] := by
  obtain ⟨x, y, h1, h2, rfl⟩ := zipD_get h
  obtain ⟨_, rfl⟩ := rngD_get h1
  exact ⟨y, h2, by rw [Int.zero_add]⟩
section
variable {X : Cx} {M : Mu} {env : DEnv} {e : Expr} {pos p tpos : Pos} {elts : List Expr} {kk : Nat} {xs : List D}
theorem id_enumT (hm : X.mg "enumerate" = none) (ha : PD X M e env (.tup xs)) (hg : Gl X "enumerate" := by rfl) (hs : starEach [e] X.env = [(false, eval e X.env)] := by rfl) : IDt X M (.Tuple elts kk tpos) (.Call (.Name "enumerate" p) [e] [] pos) env (enumD xs) := fun σ H hE R q =>
  ⟨_, pi_enumT hg hm wa hs, pad_cons ha pad_nil hs σ H hE _ fun vs H1 e1 r => by
    obtain ⟨v, rfl, t, us, r1, r2, r3⟩ := reps1 r
    have w1 := hE.wd.same e1
    refine ⟨t, us, by rw [r1], r2, q _ H1 e1 ⟨_, _, by rw [enumD_len, ← r3.length]; exact walk_enumT (xs := us), fun H2 s2 => sqT_sm w1 s2 r2, fun k H2 x H3 d s2 hd y => ?_⟩⟩
    obtain ⟨T, v1, v2, rfl, nT, rfl, g1, g2⟩ := y
    obtain ⟨dx, q1, rfl⟩ := enumD_get hd
    obtain ⟨z1, h1, h2⟩ := (reps_sm w1 s2 r3).get q1
    have g1' : some (V.int (k : Nat)) = some v1 := g1
    have g2' : us[k]? = some v2 := g2
    rw [g2'] at h1
    cases h1
    cases g1'
    exact ⟨same_new nT, rep_pair s2.2 nT rfl h2⟩⟩
end
end Wk
end
section
set_option Elab.async false
set_option linter.all false
set_option maxRecDepth 100000
set_option maxHeartbeats 4000000
namespace Wk
open PySem PySem.Spec PyProof.Rows L2 Fq
open Mi (Col Leg P2 pl dotQ sqAt)
local macro_rules | `(tactic| walk_at "nz") => `(tactic| first | assumption | exact Nz.sn (by assumption) | exact Nz.sd (by assumption) | (apply Nz.mul <;> walk_at "nz") | (apply Nz.add <;> walk_at "nz") | (apply Nz.sub <;> walk_at "nz") | (apply Nz.neg <;> walk_at "nz") | exact (show Nz 20 _ by unfold Nz; decide))
local macro_rules | `(tactic| walk_at "mw") => `(tactic| (apply Nz.w; (· walk_at "nz"); (· walk_at "nz"); decide))
structure Fo where
  q : Rat
  i : Nat
  j : Nat
  s : Rat
  t : Rat
def foD : Option Fo → D
  | none => .non
  | some g => .tup [fr g.q, .int g.i, .int g.j, fr g.s, fr g.t]
def newF (l o : Leg) (rho : Rat) (i j : Nat) : Fo := ⟨(Mi.nearQ l o rho).1, i, j, (Mi.nearQ l o rho).2.1, (Mi.nearQ l o rho).2.2⟩
def takesF (n g : Fo) : Bool := decide (Mi.cmpQ n.q g.q < 0) || (decide (Mi.cmpQ n.q g.q = 0) && HT.lexLt [(n.i : Int), (n.j : Int)] [(g.i : Int), (g.j : Int)])
def stepF (n : Fo) : Option Fo → Option Fo
  | none => some n
  | some g => if takesF n g then some n else some g
def inF (ls : List Leg) (rho : Rat) (j : Nat) (o : Leg) (f : Option Fo) : Nat → Option Fo
  | 0 => f
  | k + 1 => match ls[k]? with
    | some l => stepF (newF l o rho k j) (inF ls rho j o f k)
    | none => inF ls rho j o f k
def outF (ls : List Leg) (rho : Rat) : Nat → Option Fo
  | 0 => none
  | k + 1 => match ls[k]? with
    | some o => inF ls rho k o (outF ls rho k) k
    | none => outF ls rho k
def LeastF (ls : List Leg) (rho : Rat) (W : Nat → Nat → Prop) (f : Option Fo) : Prop := match f with
  | none => ∀ i j l o, W i j → ls[i]? = some l → ls[j]? = some o → False
  | some g => (∃ i j l o, W i j ∧ ls[i]? = some l ∧ ls[j]? = some o ∧ g.q = (Mi.nearQ l o rho).1) ∧ ∀ i j l o, W i j → ls[i]? = some l → ls[j]? = some o → g.q ≤ (Mi.nearQ l o rho).1
theorem takesF_le {n g : Fo} : (takesF n g = true → n.q ≤ g.q) ∧ (takesF n g = false → g.q ≤ n.q) := by
  unfold takesF
  refine ⟨fun h => ?_, fun h => ?_⟩
  · rw [Bool.or_eq_true, Bool.and_eq_true, decide_eq_true_iff, decide_eq_true_iff] at h
    rcases h with h | ⟨h, _⟩
    · exact Rat.le_of_lt (Mi.cmp_neg.mp h)
    · rw [Mi.cmp_zero.mp h]
      exact Rat.le_refl
  · rw [Bool.or_eq_false_iff, decide_eq_false_iff_not] at h
    exact Rat.not_lt.mp fun z => h.1 (Mi.cmp_neg.mpr z)
theorem stepF_ok {ls : List Leg} {rho : Rat} {W W' : Nat → Nat → Prop} {f : Option Fo} {l o : Leg} {i j : Nat} (h : LeastF ls rho W f) (hl : ls[i]? = some l) (ho : ls[j]? = some o) (hW : ∀ a b, W' a b ↔ W a b ∨ (a = i ∧ b = j)) : LeastF ls rho W' (stepF (newF l o rho i j) f) := by
  have mine : ∀ a b x y, W' a b → ls[a]? = some x → ls[b]? = some y → W a b ∨ (x = l ∧ y = o) := fun a b x y w h1 h2 => by
    rcases (hW a b).mp w with w | ⟨rfl, rfl⟩
    · exact .inl w
    · rw [hl] at h1
      rw [ho] at h2
      cases h1
      cases h2
      exact .inr ⟨rfl, rfl⟩
  cases f with
  | none =>
    refine ⟨⟨i, j, l, o, (hW i j).mpr (.inr ⟨rfl, rfl⟩), hl, ho, rfl⟩, fun a b x y w h1 h2 => ?_⟩
    rcases mine a b x y w h1 h2 with w | ⟨rfl, rfl⟩
    · exact (h a b x y w h1 h2).elim
    · exact Rat.le_refl
  | some g =>
    obtain ⟨⟨a0, b0, l0, o0, w0, g1, g2, g3⟩, g4⟩ := h
    show LeastF ls rho W' (if takesF (newF l o rho i j) g then some (newF l o rho i j) else some g)
    cases ht : takesF (newF l o rho i j) g with
    | true =>
      have hle := takesF_le.1 ht
      refine ⟨⟨i, j, l, o, (hW i j).mpr (.inr ⟨rfl, rfl⟩), hl, ho, rfl⟩, fun a b x y w h1 h2 => ?_⟩
      rcases mine a b x y w h1 h2 with w | ⟨rfl, rfl⟩
      · exact Rat.le_trans hle (g4 a b x y w h1 h2)
      · exact Rat.le_refl
    | false =>
      have hle := takesF_le.2 ht
      refine ⟨⟨a0, b0, l0, o0, (hW a0 b0).mpr (.inl w0), g1, g2, g3⟩, fun a b x y w h1 h2 => ?_⟩
      rcases mine a b x y w h1 h2 with w | ⟨rfl, rfl⟩
      · exact g4 a b x y w h1 h2
      · exact hle
theorem LeastF.iff {ls : List Leg} {rho : Rat} {W W' : Nat → Nat → Prop} {f : Option Fo} (h : LeastF ls rho W f) (hW : ∀ a b, a < ls.length → b < ls.length → (W a b ↔ W' a b)) : LeastF ls rho W' f := by
  have lt : ∀ {a : Nat} {x : Leg}, ls[a]? = some x → a < ls.length := fun e => (List.getElem?_eq_some_iff.mp e).1
  cases f with
  | none => exact fun i j l o w h1 h2 => h i j l o ((hW i j (lt h1) (lt h2)).mpr w) h1 h2
  | some g =>
    obtain ⟨⟨a0, b0, l0, o0, w0, g1, g2, g3⟩, g4⟩ := h
    exact ⟨⟨a0, b0, l0, o0, (hW a0 b0 (lt g1) (lt g2)).mp w0, g1, g2, g3⟩, fun i j l o w h1 h2 => g4 i j l o ((hW i j (lt h1) (lt h2)).mpr w) h1 h2⟩
theorem inF_ok {ls : List Leg} {rho : Rat} {W : Nat → Nat → Prop} {f : Option Fo} {o : Leg} {j : Nat} (h : LeastF ls rho W f) (ho : ls[j]? = some o) : ∀ k, LeastF ls rho (fun a b => W a b ∨ (a < k ∧ b = j)) (inF ls rho j o f k)
  | 0 => h.iff fun a b _ _ => by simp
  | k + 1 => by
    have ih := inF_ok h ho k
    show LeastF ls rho _ (match ls[k]? with
      | some l => stepF (newF l o rho k j) (inF ls rho j o f k)
      | none => inF ls rho j o f k)
    cases e : ls[k]? with
    | some l =>
      refine stepF_ok ih e ho fun a b => ?_
      · constructor
        · rintro (w | ⟨w1, w2⟩)
          · exact .inl (.inl w)
          · rcases Nat.lt_or_ge a k with z | z
            · exact .inl (.inr ⟨z, w2⟩)
            · exact .inr ⟨by omega, w2⟩
        · rintro ((w | ⟨w1, w2⟩) | ⟨w1, w2⟩)
          · exact .inl w
          · exact .inr ⟨by omega, w2⟩
          · exact .inr ⟨by omega, w2⟩
    | none =>
      refine ih.iff fun a b ha _ => ?_
      · have := List.getElem?_eq_none_iff.mp e
        constructor
        · rintro (w | ⟨w1, w2⟩)
          · exact .inl w
          · exact .inr ⟨by omega, w2⟩
        · rintro (w | ⟨w1, w2⟩)
          · exact .inl w
          · exact .inr ⟨by omega, w2⟩
theorem outF_ok (ls : List Leg) (rho : Rat) : ∀ k, LeastF ls rho (fun a b => a < b ∧ b < k) (outF ls rho k)
  | 0 => fun i j l o w => by omega
  | k + 1 => by
    have ih := outF_ok ls rho k
    show LeastF ls rho _ (match ls[k]? with
      | some o => inF ls rho k o (outF ls rho k) k
      | none => outF ls rho k)
    cases e : ls[k]? with
    | some o =>
      refine (inF_ok ih e k).iff fun a b _ _ => ?_
      · constructor
        · rintro (w | w) <;> omega
        · intro w
          rcases Nat.lt_or_ge b k with z | z
          · exact .inl ⟨w.1, z⟩
          · exact .inr ⟨by omega, by omega⟩
    | none =>
      refine ih.iff fun a b _ hb => ?_
      · have := List.getElem?_eq_none_iff.mp e
        constructor
        · intro w; exact ⟨w.1, by omega⟩
        · intro w; exact ⟨w.1, by omega⟩
def apartF (R : Int) : Option Fo → Bool
  | none => true
  | some g => decide (0 ≤ Mi.cmpQ g.q ((R * R : Int) : Rat))
def Apart (ls : List Leg) (rho : Rat) (R : Int) : Prop := ∀ (i j : Nat) l o, i < j → ls[i]? = some l → ls[j]? = some o → ((R * R : Int) : Rat) ≤ (Mi.nearQ l o rho).1
theorem apartF_iff (ls : List Leg) (rho : Rat) (R : Int) : apartF R (outF ls rho ls.length) = true ↔ Apart ls rho R := by
  have h := outF_ok ls rho ls.length
  cases e : outF ls rho ls.length with
  | none =>
    rw [e] at h
    refine ⟨fun _ i j l o hij h1 h2 => (h i j l o ⟨hij, (List.getElem?_eq_some_iff.mp h2).1⟩ h1 h2).elim, fun _ => rfl⟩
  | some g =>
    rw [e] at h
    obtain ⟨⟨a0, b0, l0, o0, w0, g1, g2, g3⟩, g4⟩ := h
    show decide (0 ≤ Mi.cmpQ g.q ((R * R : Int) : Rat)) = true ↔ _
    rw [cmp_ge, decide_eq_true_iff]
    refine ⟨fun hr i j l o hij h1 h2 => Rat.le_trans hr (g4 i j l o ⟨hij, (List.getElem?_eq_some_iff.mp h2).1⟩ h1 h2), fun hA => ?_⟩
    rw [g3]
    exact hA a0 b0 l0 o0 w0.1 g1 g2
def LegsOk (ls : List Leg) : Prop := (∀ l ∈ ls, LegOk l) ∧ ls.length ≤ 100
def lsD (ls : List Leg) : D := .tup (ls.map legD)
def R_nearest_of (ds : List D) (d : D) : Prop := ∃ ls rho, ds = [lsD ls, fr rho] ∧ LegsOk ls ∧ RhoOk rho ∧ d = foD (outF ls rho ls.length)
def R_are_apart (ds : List D) (d : D) : Prop := ∃ ls rho R, ds = [lsD ls, fr rho, .int R] ∧ LegsOk ls ∧ RhoOk rho ∧ Nz 10 R ∧ d = .bl (apartF R (outF ls rho ls.length))
def R_is_flight_apart (ds : List D) (d : D) : Prop := ∃ (B : Bo) (T : Int) (ls : List Leg), ds = [boD B, .int T, lsD ls] ∧ BoOk B ∧ Tk B T ∧ LegsOk ls ∧ d = .bl (apartF B.R (outF ls (B.rho T) ls.length))
theorem nearQ_sz {l o : Leg} {rho : Rat} (hl : LegOk l) (ho : LegOk o) (hr : RhoOk rho) : Sz 20000 8900 (Mi.nearQ l o rho).1 := by
  obtain ⟨⟨p, hp, e⟩, _⟩ := Mi.nearQ_ok l o rho
  rw [e]
  exact row_sz hl ho hr hp _ List.mem_cons_self
def SzF (f : Option Fo) : Prop := ∀ g, f = some g → Sz 20000 8900 g.q
theorem least_sz {ls : List Leg} {rho : Rat} {W : Nat → Nat → Prop} {f : Option Fo} (h : LeastF ls rho W f) (hl : LegsOk ls) (hr : RhoOk rho) : SzF f := by
  intro g e
  subst e
  obtain ⟨⟨a0, b0, l0, o0, w0, g1, g2, g3⟩, g4⟩ := h
  rw [g3]
  exact nearQ_sz (hl.1 _ (List.mem_of_getElem? g1)) (hl.1 _ (List.mem_of_getElem? g2)) hr
theorem ls_get {ls : List Leg} {k : Nat} {d : D} (h : (ls.map legD)[k]? = some d) : ∃ l, ls[k]? = some l ∧ d = legD l := by
  rw [List.getElem?_map] at h
  cases e : ls[k]? with
  | none => rw [e] at h; cases h
  | some l => rw [e] at h; exact ⟨l, rfl, by simpa using h.symm⟩
theorem cut_pre {ds : List D} {j : Nat} (h : j ≤ ds.length) : cutD ds none (some (j : Int)) = ds.take j := by
  unfold cutD HT.sIx
  simp
  split
  · omega
  · congr 1
    omega
theorem rho_ok {B : Bo} {T : Int} (hB : BoOk B) (hT : Tk B T) : RhoOk (B.rho T) := by
  have hT0 : (0 : Rat) < (T : Rat) := by exact_mod_cast (show (0 : Int) < T by have := hT.1; omega)
  have e : B.rho T = (B.L : Rat) / (T : Rat) := Rat.divInt_eq_div ..
  have em : (B.L : Rat) / (T : Rat) * (T : Rat) = (B.L : Rat) := Rat.div_mul_cancel (Rat.ne_of_gt hT0)
  refine ⟨rho_sz hB hT, ?_, ?_⟩
  · rw [e]
    have h1 : (0 : Rat) ≤ (B.L : Rat) := by
      have h0 : 0 ≤ B.L := by
        have := hB.f1
        have := hB.c1
        unfold Bo.L
        omega
      exact_mod_cast h0
    refine Rat.le_of_mul_le_mul_right ?_ hT0
    rw [em, Rat.zero_mul]
    exact h1
  · rw [e]
    refine Rat.le_of_mul_le_mul_right ?_ hT0
    rw [em, Rat.one_mul]
    exact_mod_cast hT.2.1
section
variable {P : Program} {w : World} {K : PySem.W.Frag} {mg : Str → Option Value} {base : Heap}
theorem cal_nearest_of {f : Addr} {fd : FuncData} (F : FnP K "nearest_of" s_nearest_of f fd) (m : mg "nearest_of" = some (.ref f)) (c_nearest : Cal P w K mg base "nearest" 6 ["leg", "other", "rho"] (spP K R_nearest)) (c_compared : Cal P w K mg base "compared" 1 ["one", "other"] (spP K R_compared)) (m_enumerate : mg "enumerate" = none) : Cal P w K mg base "nearest_of" 7 ["legs", "rho"] (spP K R_nearest_of) := by
  refine cal_of F m (F.bindsN fun _ _ _ _ _ _ us hl => match us, hl with | [_, _], _ => rfl) (okP F sc_nearest_of (fun ds d h => ?_) fun cdv A outer s H E hr M ds d hR => ?_)
  · obtain ⟨_, _, rfl, _⟩ := h
    rfl
  have nd := sc_nearest_of.nd
  obtain ⟨ls, rho, rfl, hls, hrho, rfl⟩ := hR
  refine SD.nrm [some (lsD ls), some (fr rho), none, none, none, none, none, none, none, none, none] rfl ?_
  refine sd_cons (s1_set 2 pd_non nd) ?_
  refine SD.nrm [some (lsD ls), some (fr rho), some .non, none, none, none, none, none, none, none, none] rfl ?_
  refine sd_cons (s1_for (fun k => [some (lsD ls), some (fr rho), some (foD (outF ls rho k)), none, none, none, none, none, none, none, none]) (id_enumT m_enumerate (pd_var 0)) (Le.refl _) (fun j d hd => ?_)) ?_
  · obtain ⟨dx, hdx, rfl⟩ := enumD_get hd
    obtain ⟨o, hj, rfl⟩ := ls_get hdx
    have hjl : j < ls.length := (List.getElem?_eq_some_iff.mp hj).1
    have hoOk := hls.1 o (List.mem_of_getElem? hj)
    refine ⟨_, [some (lsD ls), some (fr rho), some (foD (outF ls rho (j + 1))), none, none, none, none, none, none, none, none], gd_tup (gds_cons (gd_name 3 nd) (gds_cons (gd_name 4 nd) gds_nil)), ?_, Le.refl _⟩
    refine SD.nrm [some (lsD ls), some (fr rho), some (foD (outF ls rho j)), some (.int j), some (legD o), none, none, none, none, none, none] rfl ?_
    have e1 : outF ls rho (j + 1) = inF ls rho j o (outF ls rho j) j := by
      show (match ls[j]? with
        | some o => inF ls rho j o (outF ls rho j) j
        | none => outF ls rho j) = _
      rw [hj]
    rw [e1]
    have ec : cutD (ls.map legD) none (some (j : Int)) = (ls.take j).map legD := by
      rw [cut_pre (by rw [List.length_map]; omega), List.map_take]
    refine SD.le (env1 := [some (lsD ls), some (fr rho), some (foD (inF ls rho j o (outF ls rho j) j)), some (.int j), some (legD o), none, none, none, none, none, none]) (sd_last ?_) ⟨.inr rfl, .inr rfl, .inr rfl, .inl rfl, .inl rfl, .inr rfl, .inr rfl, .inr rfl, .inr rfl, .inr rfl, .inr rfl, trivial⟩
    have en : (enumD ((ls.take j).map legD)).length = j := by
      rw [enumD_len, List.length_map, List.length_take]
      omega
    refine S1.le (s1_for (ds := enumD ((ls.take j).map legD)) (fun k => [some (lsD ls), some (fr rho), some (foD (inF ls rho j o (outF ls rho j) k)), some (.int j), some (legD o), none, none, none, none, none, none]) (id_enumT m_enumerate ((pd_slT (pd_var 0) pod_none (pod_some (pd_var 3))).of (congrArg D.tup ec))) (Le.refl _) (fun k d hd => ?_)) (by rw [en]; exact Le.refl _)
    obtain ⟨dx, hdx, rfl⟩ := enumD_get hd
    obtain ⟨l, hk, rfl⟩ := ls_get hdx
    have hkj : k < j := by
      have := (List.getElem?_eq_some_iff.mp hk).1
      rw [List.length_take] at this
      omega
    have hkl : ls[k]? = some l := by rw [List.getElem?_take_of_lt hkj] at hk; exact hk
    have hlOk := hls.1 l (List.mem_of_getElem? hkl)
    refine ⟨_, [some (lsD ls), some (fr rho), some (foD (inF ls rho j o (outF ls rho j) (k + 1))), some (.int j), some (legD o), none, none, none, none, none, none], gd_tup (gds_cons (gd_name 5 nd) (gds_cons (gd_name 6 nd) gds_nil)), ?_, Le.refl _⟩
    refine SD.nrm [some (lsD ls), some (fr rho), some (foD (inF ls rho j o (outF ls rho j) k)), some (.int j), some (legD o), some (.int k), some (legD l), none, none, none, none] rfl ?_
    have e2 : inF ls rho j o (outF ls rho j) (k + 1) = stepF (newF l o rho k j) (inF ls rho j o (outF ls rho j) k) := by
      show (match ls[k]? with
        | some l => stepF (newF l o rho k j) (inF ls rho j o (outF ls rho j) k)
        | none => inF ls rho j o (outF ls rho j) k) = _
      rw [hkl]
    rw [e2]
    have szf : SzF (inF ls rho j o (outF ls rho j) k) := least_sz (inF_ok (outF_ok ls rho j) hj k) hls hrho
    have szn := nearQ_sz hlOk hoOk hrho
    generalize hf : inF ls rho j o (outF ls rho j) k = fd0 at szf
    generalize hn : newF l o rho k j = nw
    refine sd_cons (s1_asg (pd_call c_nearest hr (pad_cons (pd_var 6) (pad_cons (pd_var 4) (pad_cons (pd_var 1) pad_nil))) ⟨l, o, rho, rfl, hlOk, hoOk, hrho, rfl⟩) (gd_tup (gds_cons (gd_name 7 nd) (gds_cons (gd_name 8 nd) (gds_cons (gd_name 9 nd) gds_nil))))) ?_
    refine SD.nrm [some (lsD ls), some (fr rho), some (foD fd0), some (.int j), some (legD o), some (.int k), some (legD l), some (fr (Mi.nearQ l o rho).1), some (fr (Mi.nearQ l o rho).2.1), some (fr (Mi.nearQ l o rho).2.2), none] rfl ?_
    have sn : Sz 20000 8900 nw.q := by rw [← hn]; exact szn
    have wk : ∀ (fx : Option Fo) (b : Bool), Le [some (lsD ls), some (fr rho), some (foD fx), some (.int j), some (legD o), some (.int k), some (legD l), some (fr (Mi.nearQ l o rho).1), some (fr (Mi.nearQ l o rho).2.1), some (fr (Mi.nearQ l o rho).2.2), some (.bl b)] [some (lsD ls), some (fr rho), some (foD fx), some (.int j), some (legD o), none, none, none, none, none, none] := fun fx b =>
      ⟨.inr rfl, .inr rfl, .inr rfl, .inr rfl, .inr rfl, .inl rfl, .inl rfl, .inl rfl, .inl rfl, .inl rfl, .inl rfl, trivial⟩
    subst hn
    cases fd0 with
    | none =>
      refine sd_cons (s1_set 10 ((pd_or (x := true) (y := true) ((pd_isN (pd_var 2)).of rfl) fun h => by cases h).of rfl) nd) ?_
      refine SD.nrm [some (lsD ls), some (fr rho), some (foD none), some (.int j), some (legD o), some (.int k), some (legD l), some (fr (Mi.nearQ l o rho).1), some (fr (Mi.nearQ l o rho).2.1), some (fr (Mi.nearQ l o rho).2.2), some (.bl true)] rfl ?_
      exact sd_last (s1_ifT (ptd_w (pwd_or (x := true) (y := true) (ptd_val (pd_var 10)) fun h => by cases h)) (SD.le (sd_last (s1_set 2 (d := foD (some (newF l o rho k j))) (pd_tup (pad_cons (pd_var 7) (pad_cons (pd_var 5) (pad_cons (pd_var 3) (pad_cons (pd_var 8) (pad_cons (pd_var 9) pad_nil)))))) nd)) (wk (some (newF l o rho k j)) true)))
    | some g =>
      have sg := szf g rfl
      have sc : SzC (newF l o rho k j).q g.q := ⟨_, _, _, _, sn, sg, by decide⟩
      refine sd_cons (s1_set 10 (d := .bl (decide (Mi.cmpQ (newF l o rho k j).q g.q < 0))) ((pd_or (x := false) ((pd_isN (pd_var 2)).of rfl) fun _ => (pd_one (pd_lt (k_compared (x := (newF l o rho k j).q) (y := g.q) c_compared hr (pad_cons (pd_var 7) (pad_cons (pd_ixT (pd_var 2) pd_int) pad_nil)) sc) pd_int))).of (by rw [Bool.false_or])) nd) ?_
      refine SD.nrm [some (lsD ls), some (fr rho), some (foD (some g)), some (.int j), some (legD o), some (.int k), some (legD l), some (fr (Mi.nearQ l o rho).1), some (fr (Mi.nearQ l o rho).2.1), some (fr (Mi.nearQ l o rho).2.2), some (.bl (decide (Mi.cmpQ (newF l o rho k j).q g.q < 0)))] rfl ?_
      refine sd_last (s1_if (k := takesF (newF l o rho k j) g) (ptd_w (pwd_or (x := decide (Mi.cmpQ (newF l o rho k j).q g.q < 0)) (ptd_val (pd_var 10)) fun _ => (pwd_or1 (ptd_w (pwd_and (x := decide (Mi.cmpQ (newF l o rho k j).q g.q = 0)) (ptd_eqI (k_compared (x := (newF l o rho k j).q) (y := g.q) c_compared hr (pad_cons (pd_var 7) (pad_cons (pd_ixT (pd_var 2) pd_int) pad_nil)) sc) pd_int) fun _ => (pwd_and1 (ptd_ltT (ns := [(k : Int), (j : Int)]) (ms := [(g.i : Int), (g.j : Int)]) hr (pd_tup (pad_cons (pd_var 5) (pad_cons (pd_var 3) pad_nil))) ((pd_slT (pd_var 2) (pod_some pd_int) (pod_some pd_int)).of rfl)))))))) (fun ht => ?_) (fun ht => ?_))
      · rw [show stepF (newF l o rho k j) (some g) = some (newF l o rho k j) from if_pos ht]
        exact SD.le (sd_last (s1_set 2 (d := foD (some (newF l o rho k j))) (pd_tup (pad_cons (pd_var 7) (pad_cons (pd_var 5) (pad_cons (pd_var 3) (pad_cons (pd_var 8) (pad_cons (pd_var 9) pad_nil)))))) nd)) (wk (some (newF l o rho k j)) _)
      · rw [show stepF (newF l o rho k j) (some g) = some g from if_neg (by rw [ht]; decide)]
        exact SD.le sd_nil (wk (some g) _)
  rw [enumD_len, List.length_map]
  exact sd_last (s1_ret (pd_var 2))
theorem cal_are_apart {f : Addr} {fd : FuncData} (F : FnP K "are_apart" s_are_apart f fd) (m : mg "are_apart" = some (.ref f)) (c_nearest_of : Cal P w K mg base "nearest_of" 7 ["legs", "rho"] (spP K R_nearest_of)) (c_compared : Cal P w K mg base "compared" 1 ["one", "other"] (spP K R_compared))  : Cal P w K mg base "are_apart" 8 ["legs", "rho", "r"] (spP K R_are_apart) := by
  refine cal_of F m (F.bindsN fun _ _ _ _ _ _ us hl => match us, hl with | [_, _, _], _ => rfl) (okP F sc_are_apart (fun ds d h => ?_) fun cdv A outer s H E hr M ds d hR => ?_)
  · obtain ⟨_, _, _, rfl, _⟩ := h
    rfl
  have nd := sc_are_apart.nd
  obtain ⟨ls, rho, R, rfl, hls, hrho, hR, rfl⟩ := hR
  refine sd_cons (s1_set 3 (pd_call c_nearest_of hr (pad_cons (pd_var 0) (pad_cons (pd_var 1) pad_nil)) ⟨ls, rho, rfl, hls, hrho, rfl⟩) nd) ?_
  have szf : SzF (outF ls rho ls.length) := least_sz (outF_ok ls rho ls.length) hls hrho
  generalize outF ls rho ls.length = f0 at szf
  refine SD.nrm [some (lsD ls), some (fr rho), some (.int R), some (foD f0)] rfl ?_
  cases f0 with
  | none => exact sd_last (s1_ret ((pd_or (x := true) (y := true) ((pd_isN (pd_var 3)).of rfl) fun h => by cases h).of rfl))
  | some g =>
    refine sd_last (s1_ret ((pd_or (x := false) ((pd_isN (pd_var 3)).of rfl) fun _ => (pd_one (pd_ge (k_compared (x := g.q) (y := ((R * R : Int) : Rat)) c_compared hr (pad_cons (pd_ixT (pd_var 3) pd_int) (pad_cons (pd_frI (pd_mulW (pd_var 2) (pd_var 2) ?_)) pad_nil)) ?_) pd_int))).of (by rw [Bool.false_or] <;> rfl)))
    · walk_at "mw"
    · exact ⟨_, _, _, _, szf g rfl, sz_nz (hR.mul hR), by decide⟩
theorem cal_is_flight_apart {f : Addr} {fd : FuncData} (F : FnP K "is_flight_apart" s_is_flight_apart f fd) (m : mg "is_flight_apart" = some (.ref f)) (c_are_apart : Cal P w K mg base "are_apart" 8 ["legs", "rho", "r"] (spP K R_are_apart)) (c_rho_of : Cal P w K mg base "rho_of" 2 ["bounds", "ticks"] (spP K R_rho_of)) (c_r_of : Cal P w K mg base "r_of" 1 ["bounds"] (spP K R_r_of))  : Cal P w K mg base "is_flight_apart" 9 ["bounds", "ticks", "legs"] (spP K R_is_flight_apart) := by
  refine cal_of F m (F.bindsN fun _ _ _ _ _ _ us hl => match us, hl with | [_, _, _], _ => rfl) (okP F sc_is_flight_apart (fun ds d h => ?_) fun cdv A outer s H E hr M ds d hR => ?_)
  · obtain ⟨_, _, _, rfl, _⟩ := h
    rfl
  have nd := sc_is_flight_apart.nd
  obtain ⟨B, T, ls, rfl, hB, hT, hls, rfl⟩ := hR
  exact sd_last (s1_ret (pd_call c_are_apart hr (pad_cons (pd_var 2) (pad_cons (pd_call c_rho_of hr (pad_cons (pd_var 0) (pad_cons (pd_var 1) pad_nil)) ⟨B, T, rfl, hB, hT, rfl⟩) (pad_cons (pd_call c_r_of hr (pad_cons (pd_var 0) pad_nil) ⟨B, rfl, hB, rfl⟩) pad_nil))) ⟨ls, B.rho T, B.R, rfl, hls, rho_ok hB hT, (nz_bo hB).2.2.1, rfl⟩))
end
end Wk
end
section
set_option Elab.async false
set_option linter.all false
set_option maxRecDepth 100000
set_option maxHeartbeats 4000000
namespace Wk
open PySem PySem.Spec PyProof.Rows L2 Fq
open Mi (Col Leg P2 pl dotQ sqAt)
local macro_rules | `(tactic| walk_at "nz") => `(tactic| first | assumption | exact Nz.sn (by assumption) | exact Nz.sd (by assumption) | (apply Nz.mul <;> walk_at "nz") | (apply Nz.add <;> walk_at "nz") | (apply Nz.sub <;> walk_at "nz") | (apply Nz.neg <;> walk_at "nz") | exact (show Nz 20 _ by unfold Nz; decide))
local macro_rules | `(tactic| walk_at "mw") => `(tactic| (apply Nz.w; (· walk_at "nz"); (· walk_at "nz"); decide))
section
variable {X : Cx} {M : Mu} {env env' env1 : DEnv} {a b c e : Expr} {es : List Expr} {pos p p2 : Pos} {d d1 d2 : D} {i j : Int} {body : List Stmt}
theorem s1_while (envs : Nat → DEnv) (m : Nat) (h0 : Le env (envs 0)) (turn : ∀ k, k < m → PTD X M c (envs k) true ∧ ∃ env2, SD X M body (envs k) (.nx env2) ∧ Le env2 (envs (k + 1))) (stop : PTD X M c (envs m) false)
    (hp : PassesOwn (model X.prog X.w) X.A X.env X.xe := by exact PassesOwn.never) : S1 X M (.While c body [] pos) env (.nx (envs m)) := fun D σ H hE hO =>
  ⟨_, ps_while hp wt wss, fun n σ' H' => ∃ k, k + n = m ∧ Same H H' ∧ En X.K M H' σ' (envs k), ⟨m, 0, by omega, Same.refl _, hE.le h0⟩, fun n σ' H' ⟨k, hk, s1, hE1⟩ => by
    rcases Nat.lt_or_ge k m with z | z
    · obtain ⟨ht, env2, hb, hl⟩ := turn k z
      refine ht σ' H' hE1 _ fun H2 e2 => ?_
      rw [if_pos rfl]
      refine ⟨fun σ3 H3 => Same H H3 ∧ En X.K M H3 σ3 (envs (k + 1)), fun σ3 H3 q => ⟨n - 1, by omega, k + 1, by omega, q.1, q.2⟩, ?_⟩
      exact hb _ σ' H2 (hE1.same e2) fun σ3 H3 e3 hE3 => ⟨s1.trans (e2.trans e3), hE3.le hl⟩
    · have ek : k = m := by omega
      subst ek
      refine stop σ' H' hE1 _ fun H2 e2 => ?_
      rw [if_neg (by decide)]
      exact hO σ' H2 (s1.trans e2) (hE1.same e2)⟩
theorem PWD.of {k k' : Bool} (h : PWD X M e env k) (q : k = k') : PWD X M e env k' := q ▸ h
theorem s1_inc (n : Nat) {x : Str} {px : Pos} (hv : env[n]? = some (some (.int i))) (h : PD X M e env (.int j)) (hN : X.N.Nodup) (hi : X.N[n]? = some x := by rfl) (hx : Loc X.env.scope x := by first | exact Or.inl rfl | exact Or.inr rfl)
    (hf : X.fn x = true ∨ X.env.scope.names.lookup x = some .local := by first | exact .inl rfl | exact .inr rfl) : S1 X M (.AugAssign (.Name x px) .Add e pos) env (.nx (env.set n (some (.int (i + j))))) := fun D σ H hE hO => by
  obtain ⟨v, h1, h2⟩ := hE.at_ n _ hv
  exact ⟨_, ps_aug (i := n) hN hi hx we ip_add hf, v, h1, h σ H hE _ fun v2 H1 e1 r1 => ⟨i, j, h2, r1, hO _ H1 e1 ((hE.same e1).set rfl)⟩⟩
theorem call_repr_bool : CallR X (.builtin "repr") (fun xs H Q => ∃ b : Bool, xs = [.bl b] ∧ Q (.str (if b then "True" else "False")) H) := by
  intro pins s σ H xs us Q I r h
  obtain ⟨b, rfl, q⟩ := h
  cases r with
  | cons r rr =>
    cases rr
    cases r
    exact PySem.P.repr_of_bool ⟨.str _, H, I.tok _, ⟨_, rfl⟩, q⟩
theorem pd_eqRepr {x y : Bool} {p1 p3 p4 : Pos} (hm : X.mg "repr" = none) (ha : PD X M a env (.bl x)) (hb : PD X M b env (.bl y)) (hg : Gl X "repr" := by rfl) (hs : starEach [a] X.env = (false, eval a X.env) :: starEach [] X.env := by rfl) (hs2 : starEach [b] X.env = (false, eval b X.env) :: starEach [] X.env := by rfl) :
    PD X M (.Compare (.Call (.Name "repr" p) [a] [] p1) [.Eq] [.Call (.Name "repr" p3) [b] [] p4] pos) env (.bl (x == y)) :=
  fun σ H hE Q q => ⟨_, pe_cmpR op_eq (pe_callB call_repr_bool hg hm (by decide +kernel) wa (by decide) (by decide) hs (by rfl)) (pe_callB call_repr_bool hg hm (by decide +kernel) wa (by decide) (by decide) hs2 (by rfl)) (nomark _),
    pad_cons ha pad_nil hs σ H hE _ fun vs H1 e1 r1 => by
      obtain ⟨v, rfl, q1⟩ := reps1 r1
      refine ⟨x, by rw [show v = .bl x from q1], ?_⟩
      refine pad_cons hb pad_nil hs2 σ H1 (hE.same e1) _ fun vs H2 e2 r2 => ?_
      obtain ⟨v2, rfl, q2⟩ := reps1 r2
      refine ⟨y, by rw [show v2 = .bl y from q2], rfl, ?_⟩
      have e : decide (V.str (if x then "True" else "False") = V.str (if y then "True" else "False")) = (x == y) := by
        cases x <;> cases y <;> decide
      rw [e]
      exact q _ H2 (e1.trans e2) rfl⟩
end
def eu : Nat → Nat → Nat → Nat × Nat
  | a, b, 0 => (a, b)
  | a, b, k + 1 => eu b (a % b) k
theorem eu_next : ∀ (k a b : Nat), eu a b (k + 1) = ((eu a b k).2, (eu a b k).1 % (eu a b k).2)
  | 0, _, _ => rfl
  | k + 1, a, b => by
    show eu b (a % b) (k + 1) = _
    rw [eu_next k b (a % b)] <;> rfl
theorem eu_end : ∀ (b a : Nat), ∃ m, (eu a b m).2 = 0 ∧ (eu a b m).1 = Nat.gcd a b ∧ ∀ k, k < m → 0 < (eu a b k).2 := by
  intro b
  induction b using Nat.strongRecOn with
  | _ b ih =>
    intro a
    rcases Nat.eq_zero_or_pos b with z | z
    · subst z
      exact ⟨0, rfl, (Nat.gcd_zero_right a).symm, fun k hk => absurd hk (Nat.not_lt_zero k)⟩
    · obtain ⟨m, h1, h2, h3⟩ := ih (a % b) (Nat.mod_lt a z) b
      refine ⟨m + 1, h1, ?_, fun k hk => ?_⟩
      · show (eu b (a % b) m).1 = _
        rw [h2, Nat.gcd_comm a b, Nat.gcd_rec b a, Nat.gcd_comm]
      · cases k with
        | zero => exact z
        | succ k => exact h3 k (by omega)
def R_l_is_below (ds : List D) (d : D) : Prop := ∃ (x y : Rat) (a b c e : Nat), ds = [fr x, fr y] ∧ Sz a b x ∧ Sz c e y ∧ a + b + c + e ≤ 100000 ∧ d = .bl (decide (x < y))
def R_l_alike (ds : List D) (d : D) : Prop := ∃ x y : Bool, ds = [.bl x, .bl y] ∧ d = .bl (x == y)
section
variable {P : Program} {w : World} {K : PySem.W.Frag} {mg : Str → Option Value} {base : Heap}
variable {X : Cx} {M : Mu} {env : DEnv} {a b c e : Expr} {es : List Expr} {pos p p2 p3 : Pos} {n : Nat} {i j : Int} {x y z : Rat} {a0 : Expr}
theorem k_l_over (C : Cal X.prog X.w X.K X.mg X.base "_law_over" 1 ["_law_n", "_law_d"] (spP X.K R_reduced)) (hr : Room n X.A) (ha : PAD X M (a0 :: es) env [.int i, .int j]) (h : j ≠ 0 ∧ Nz 9000 j) (hk : 1 ≤ n := by decide) (hg : Gl X "_law_over" := by rfl) (he : starEach (a0 :: es) X.env = (false, eval a0 X.env) :: starEach es X.env := by rfl) (hpl : (backTo pos (starEach es X.env)).any (·.1) = false := by rfl) : PD X M (.Call (.Name "_law_over" p) (a0 :: es) [] pos) env (fr (Rat.divInt i j)) :=
  pd_call C hr ha ⟨i, j, rfl, h.1, h.2, rfl⟩ hk hg (by decide) he hpl
theorem k_l_added (C : Cal X.prog X.w X.K X.mg X.base "_law_added" 2 ["_law_x", "_law_y"] (spP X.K R_added)) (hr : Room n X.A) (ha : PAD X M (a0 :: es) env [fr x, fr y]) (h : Sz2 x y) (hk : 2 ≤ n := by decide) (hg : Gl X "_law_added" := by rfl) (he : starEach (a0 :: es) X.env = (false, eval a0 X.env) :: starEach es X.env := by rfl) (hpl : (backTo pos (starEach es X.env)).any (·.1) = false := by rfl) : PD X M (.Call (.Name "_law_added" p) (a0 :: es) [] pos) env (fr (x + y)) :=
  pd_call C hr ha (let ⟨a, b, c, e, h1, h2, h3⟩ := h; ⟨x, y, a, b, c, e, rfl, h1, h2, h3, rfl⟩) hk hg (by decide) he hpl
theorem k_l_lessened (C : Cal X.prog X.w X.K X.mg X.base "_law_lessened" 2 ["_law_x", "_law_y"] (spP X.K R_lessened)) (hr : Room n X.A) (ha : PAD X M (a0 :: es) env [fr x, fr y]) (h : Sz2 x y) (hk : 2 ≤ n := by decide) (hg : Gl X "_law_lessened" := by rfl) (he : starEach (a0 :: es) X.env = (false, eval a0 X.env) :: starEach es X.env := by rfl) (hpl : (backTo pos (starEach es X.env)).any (·.1) = false := by rfl) : PD X M (.Call (.Name "_law_lessened" p) (a0 :: es) [] pos) env (fr (x - y)) :=
  pd_call C hr ha (let ⟨a, b, c, e, h1, h2, h3⟩ := h; ⟨x, y, a, b, c, e, rfl, h1, h2, h3, rfl⟩) hk hg (by decide) he hpl
theorem k_l_multiplied (C : Cal X.prog X.w X.K X.mg X.base "_law_multiplied" 2 ["_law_x", "_law_y"] (spP X.K R_times)) (hr : Room n X.A) (ha : PAD X M (a0 :: es) env [fr x, fr y]) (h : Sz2 x y) (hk : 2 ≤ n := by decide) (hg : Gl X "_law_multiplied" := by rfl) (he : starEach (a0 :: es) X.env = (false, eval a0 X.env) :: starEach es X.env := by rfl) (hpl : (backTo pos (starEach es X.env)).any (·.1) = false := by rfl) : PD X M (.Call (.Name "_law_multiplied" p) (a0 :: es) [] pos) env (fr (x * y)) :=
  pd_call C hr ha (let ⟨a, b, c, e, h1, h2, h3⟩ := h; ⟨x, y, a, b, c, e, rfl, h1, h2, h3, rfl⟩) hk hg (by decide) he hpl
theorem k_l_divided (C : Cal X.prog X.w X.K X.mg X.base "_law_divided" 2 ["_law_x", "_law_y"] (spP X.K R_over)) (hr : Room n X.A) (ha : PAD X M (a0 :: es) env [fr x, fr y]) (h : SzD x y) (hk : 2 ≤ n := by decide) (hg : Gl X "_law_divided" := by rfl) (he : starEach (a0 :: es) X.env = (false, eval a0 X.env) :: starEach es X.env := by rfl) (hpl : (backTo pos (starEach es X.env)).any (·.1) = false := by rfl) : PD X M (.Call (.Name "_law_divided" p) (a0 :: es) [] pos) env (fr (x / y)) :=
  pd_call C hr ha (let ⟨h0, a, b, c, e, h1, h2, h3⟩ := h; ⟨x, y, a, b, c, e, rfl, h0, h1, h2, h3, rfl⟩) hk hg (by decide) he hpl
theorem k_l_is_below (C : Cal X.prog X.w X.K X.mg X.base "_law_is_below" 1 ["_law_x", "_law_y"] (spP X.K R_l_is_below)) (hr : Room n X.A) (ha : PAD X M (a0 :: es) env [fr x, fr y]) (h : SzC x y) (hk : 1 ≤ n := by decide) (hg : Gl X "_law_is_below" := by rfl) (he : starEach (a0 :: es) X.env = (false, eval a0 X.env) :: starEach es X.env := by rfl) (hpl : (backTo pos (starEach es X.env)).any (·.1) = false := by rfl) : PD X M (.Call (.Name "_law_is_below" p) (a0 :: es) [] pos) env (.bl (decide (x < y))) :=
  pd_call C hr ha (let ⟨a, b, c, e, h1, h2, h3⟩ := h; ⟨x, y, a, b, c, e, rfl, h1, h2, h3, rfl⟩) hk hg (by decide) he hpl
end
section
variable {P : Program} {w : World} {K : PySem.W.Frag} {mg : Str → Option Value} {base : Heap}
theorem cal_l_alike {f : Addr} {fd : FuncData} (F : FnP K "_law_alike" s_l_alike f fd) (m : mg "_law_alike" = some (.ref f))  (m_repr : mg "repr" = none) : Cal P w K mg base "_law_alike" 1 ["_law_found", "_law_due"] (spP K R_l_alike) := by
  refine cal_of F m (F.bindsN fun _ _ _ _ _ _ us hl => match us, hl with | [_, _], _ => rfl) (okP F sc_l_alike (fun ds d h => ?_) fun cdv A outer s H E hr M ds d hR => ?_)
  · obtain ⟨_, _, rfl, _⟩ := h
    rfl
  have nd := sc_l_alike.nd
  obtain ⟨x, y, rfl, rfl⟩ := hR
  exact sd_last (s1_ret ((pd_and (x := x == y) (y := x == y) (pd_eqB (pd_var 0) (pd_var 1)) fun _ => (pd_one (pd_eqRepr m_repr (pd_var 0) (pd_var 1)))).of (by rw [Bool.and_self])))
theorem natAbs_if (i : Int) : (if i < 0 then -i else i) = (i.natAbs : Int) := by
  split <;> omega
theorem cal_l_over {f : Addr} {fd : FuncData} (F : FnP K "_law_over" s_l_over f fd) (m : mg "_law_over" = some (.ref f))  (m_abs : mg "abs" = none) (m_int : mg "int" = none) : Cal P w K mg base "_law_over" 1 ["_law_n", "_law_d"] (spP K R_reduced) := by
  refine cal_of F m (F.bindsN fun _ _ _ _ _ _ us hl => match us, hl with | [_, _], _ => rfl) (okP F sc_l_over (fun ds d h => ?_) fun cdv A outer s H E hr M ds d hR => ?_)
  · obtain ⟨n, k, rfl, _⟩ := h
    rfl
  have nd := sc_l_over.nd
  obtain ⟨n, k, rfl, k0, kz, rfl⟩ := hR
  have gz : Nz 9000 (sgn k (Nat.gcd n.natAbs k.natAbs)) := by
    have : Nat.gcd n.natAbs k.natAbs ≤ k.natAbs := Nat.gcd_le_right _ (by omega)
    unfold Nz sgn at *
    split <;> omega
  have g0 : sgn k (Nat.gcd n.natAbs k.natAbs) ≠ 0 := by
    have : 0 < Nat.gcd n.natAbs k.natAbs := Nat.gcd_pos_of_pos_right _ (by omega)
    unfold sgn
    split <;> omega
  refine sd_cons (s1_par 2 3 ((pd_abs m_abs (pd_var 0)).of (congrArg D.int (natAbs_if n))) ((pd_abs m_abs (pd_var 1)).of (congrArg D.int (natAbs_if k))) nd) ?_
  refine SD.nrm [some (.int n), some (.int k), some (.int n.natAbs), some (.int k.natAbs)] rfl ?_
  obtain ⟨t, t1, t2, t3⟩ := eu_end k.natAbs n.natAbs
  refine sd_cons (s1_while (fun q => [some (.int n), some (.int k), some (.int (eu n.natAbs k.natAbs q).1), some (.int (eu n.natAbs k.natAbs q).2)]) t (Le.refl _) (fun q hq => ⟨PTD.of (ptd_gt (pd_var 3) pd_int) (decide_eq_true (by have := t3 q hq; omega)), _, sd_last (s1_par 2 3 (d2 := .int ((eu n.natAbs k.natAbs (q + 1)).2 : Nat)) (pd_var 3) ((pd_modN (pd_int1 m_int (pd_var 2)) (pd_var 3) (by have := t3 q hq; omega)).of ?_) nd), ?_⟩) (PTD.of (ptd_gt (pd_var 3) pd_int) (decide_eq_false (by omega)))) ?_
  · rw [eu_next]
    show D.int (Int.fmod _ _) = D.int _
    rw [Int.fmod_eq_emod_of_nonneg _ (Int.natCast_nonneg _)] <;> rfl
  · rw [show (eu n.natAbs k.natAbs (q + 1)).1 = (eu n.natAbs k.natAbs q).2 by rw [eu_next]]
    exact Le.refl _
  refine SD.nrm [some (.int n), some (.int k), some (.int (Nat.gcd n.natAbs k.natAbs : Nat)), some (.int (0 : Nat))] (by show [_, _, some (D.int ((eu n.natAbs k.natAbs t).1 : Nat)), some (D.int ((eu n.natAbs k.natAbs t).2 : Nat))] = _; rw [t1, t2]) ?_
  refine sd_cons (s1_set 2 (pd_ifT (d := .int (sgn k (Nat.gcd n.natAbs k.natAbs))) (ptd_gt (pd_var 1) pd_int) (fun h => (pd_var 2).of ?_) (fun h => (pd_neg (pd_var 2)).of ?_)) nd) ?_
  · unfold sgn; rw [if_pos (of_decide_eq_true h)]
  · unfold sgn; rw [if_neg (of_decide_eq_false h)]
  refine sd_last (s1_ret ((pd_tup (pad_cons (pd_fdivNW (pd_int1 m_int (pd_var 0)) (pd_var 2) (cdiv_of gz g0 (by decide))) (pad_cons (pd_fdivNW (pd_int1 m_int (pd_var 1)) (pd_var 2) (cdiv_of gz g0 (by decide))) pad_nil))).of ?_))
  unfold fr
  rw [(parts n k0).1, (parts n k0).2]
theorem cal_l_added {f : Addr} {fd : FuncData} (F : FnP K "_law_added" s_l_added f fd) (m : mg "_law_added" = some (.ref f)) (c_l_over : Cal P w K mg base "_law_over" 1 ["_law_n", "_law_d"] (spP K R_reduced))  : Cal P w K mg base "_law_added" 2 ["_law_x", "_law_y"] (spP K R_added) := by
  refine cal_of F m (F.bindsN fun _ _ _ _ _ _ us hl => match us, hl with | [_, _], _ => rfl) (okP F sc_l_added (fun ds d h => ?_) fun cdv A outer s H E hr M ds d hR => ?_)
  · obtain ⟨_, _, _, _, _, _, rfl, _⟩ := h
    rfl
  have nd := sc_l_added.nd
  obtain ⟨x, y, a, b, c, e, rfl, hx, hy, ⟨h1, h2⟩, rfl⟩ := hR
  refine sd_last (s1_ret ((k_l_over c_l_over hr (pad_cons (pd_add (pd_mulW (pd_ixT (pd_var 0) pd_int) (pd_ixT (pd_var 1) pd_int) ?_) (pd_mulW (pd_ixT (pd_var 1) pd_int) (pd_ixT (pd_var 0) pd_int) ?_)) (pad_cons (pd_mulW (pd_ixT (pd_var 0) pd_int) (pd_ixT (pd_var 1) pd_int) ?_) pad_nil)) ?_).of (congrArg fr (add_eq x y))))
  · exact Nz.w (.sn hx) (.sd hy) (by omega)
  · exact Nz.w (.sn hy) (.sd hx) (by omega)
  · exact Nz.w (.sd hx) (.sd hy) (by omega)
  · exact ⟨den_nz, Nat.lt_of_lt_of_le (Nz.mul (.sd hx) (.sd hy)) (Nat.pow_le_pow_right (by omega) (by omega))⟩
theorem cal_l_lessened {f : Addr} {fd : FuncData} (F : FnP K "_law_lessened" s_l_lessened f fd) (m : mg "_law_lessened" = some (.ref f)) (c_l_over : Cal P w K mg base "_law_over" 1 ["_law_n", "_law_d"] (spP K R_reduced))  : Cal P w K mg base "_law_lessened" 2 ["_law_x", "_law_y"] (spP K R_lessened) := by
  refine cal_of F m (F.bindsN fun _ _ _ _ _ _ us hl => match us, hl with | [_, _], _ => rfl) (okP F sc_l_lessened (fun ds d h => ?_) fun cdv A outer s H E hr M ds d hR => ?_)
  · obtain ⟨_, _, _, _, _, _, rfl, _⟩ := h
    rfl
  have nd := sc_l_lessened.nd
  obtain ⟨x, y, a, b, c, e, rfl, hx, hy, ⟨h1, h2⟩, rfl⟩ := hR
  refine sd_last (s1_ret ((k_l_over c_l_over hr (pad_cons (pd_sub (pd_mulW (pd_ixT (pd_var 0) pd_int) (pd_ixT (pd_var 1) pd_int) ?_) (pd_mulW (pd_ixT (pd_var 1) pd_int) (pd_ixT (pd_var 0) pd_int) ?_)) (pad_cons (pd_mulW (pd_ixT (pd_var 0) pd_int) (pd_ixT (pd_var 1) pd_int) ?_) pad_nil)) ?_).of (congrArg fr (sub_eq x y))))
  · exact Nz.w (.sn hx) (.sd hy) (by omega)
  · exact Nz.w (.sn hy) (.sd hx) (by omega)
  · exact Nz.w (.sd hx) (.sd hy) (by omega)
  · exact ⟨den_nz, Nat.lt_of_lt_of_le (Nz.mul (.sd hx) (.sd hy)) (Nat.pow_le_pow_right (by omega) (by omega))⟩
theorem cal_l_multiplied {f : Addr} {fd : FuncData} (F : FnP K "_law_multiplied" s_l_multiplied f fd) (m : mg "_law_multiplied" = some (.ref f)) (c_l_over : Cal P w K mg base "_law_over" 1 ["_law_n", "_law_d"] (spP K R_reduced))  : Cal P w K mg base "_law_multiplied" 2 ["_law_x", "_law_y"] (spP K R_times) := by
  refine cal_of F m (F.bindsN fun _ _ _ _ _ _ us hl => match us, hl with | [_, _], _ => rfl) (okP F sc_l_multiplied (fun ds d h => ?_) fun cdv A outer s H E hr M ds d hR => ?_)
  · obtain ⟨_, _, _, _, _, _, rfl, _⟩ := h
    rfl
  have nd := sc_l_multiplied.nd
  obtain ⟨x, y, a, b, c, e, rfl, hx, hy, ⟨h1, h2⟩, rfl⟩ := hR
  refine sd_last (s1_ret ((k_l_over c_l_over hr (pad_cons (pd_mulW (pd_ixT (pd_var 0) pd_int) (pd_ixT (pd_var 1) pd_int) ?_) (pad_cons (pd_mulW (pd_ixT (pd_var 0) pd_int) (pd_ixT (pd_var 1) pd_int) ?_) pad_nil)) ?_).of (congrArg fr (mul_eq x y))))
  · exact Nz.w (.sn hx) (.sn hy) (by omega)
  · exact Nz.w (.sd hx) (.sd hy) (by omega)
  · exact ⟨den_nz, Nat.lt_of_lt_of_le (Nz.mul (.sd hx) (.sd hy)) (Nat.pow_le_pow_right (by omega) (by omega))⟩
theorem cal_l_divided {f : Addr} {fd : FuncData} (F : FnP K "_law_divided" s_l_divided f fd) (m : mg "_law_divided" = some (.ref f)) (c_l_over : Cal P w K mg base "_law_over" 1 ["_law_n", "_law_d"] (spP K R_reduced))  : Cal P w K mg base "_law_divided" 2 ["_law_x", "_law_y"] (spP K R_over) := by
  refine cal_of F m (F.bindsN fun _ _ _ _ _ _ us hl => match us, hl with | [_, _], _ => rfl) (okP F sc_l_divided (fun ds d h => ?_) fun cdv A outer s H E hr M ds d hR => ?_)
  · obtain ⟨_, _, _, _, _, _, rfl, _⟩ := h
    rfl
  have nd := sc_l_divided.nd
  obtain ⟨x, y, a, b, c, e, rfl, y0, hx, hy, ⟨h1, h2⟩, rfl⟩ := hR
  refine sd_last (s1_ret ((k_l_over c_l_over hr (pad_cons (pd_mulW (pd_ixT (pd_var 0) pd_int) (pd_ixT (pd_var 1) pd_int) ?_) (pad_cons (pd_mulW (pd_ixT (pd_var 0) pd_int) (pd_ixT (pd_var 1) pd_int) ?_) pad_nil)) ?_).of (congrArg fr (div_eq x y0))))
  · exact Nz.w (.sn hx) (.sd hy) (by omega)
  · exact Nz.w (.sd hx) (.sn hy) (by omega)
  · exact ⟨Int.mul_ne_zero (den_ne x) (fun e => y0 (Rat.num_eq_zero.mp e)), Nat.lt_of_lt_of_le (Nz.mul (.sd hx) (.sn hy)) (Nat.pow_le_pow_right (by omega) (by omega))⟩
theorem cal_l_reach {f : Addr} {fd : FuncData} (F : FnP K "_law_reach" s_l_reach f fd) (m : mg "_law_reach" = some (.ref f))   : Cal P w K mg base "_law_reach" 1 ["_law_bounds_here"] (spP K R_r_of) := by
  refine cal_of F m (F.bindsN fun _ _ _ _ _ _ us hl => match us, hl with | [_], _ => rfl) (okP F sc_l_reach (fun ds d h => ?_) fun cdv A outer s H E hr M ds d hR => ?_)
  · obtain ⟨_, rfl, _⟩ := h
    rfl
  obtain ⟨B, rfl, hB, rfl⟩ := hR
  refine sd_last (s1_ret (pd_add (pd_ixT (pd_var 0) pd_int) (pd_mulW pd_int (pd_ixT (pd_var 0) pd_int) ?_)))
  have := hB.w1
  have := hB.w2
  exact Nz.w (a := 20) (b := 10) (nz_small (by omega) (by omega)) (nz_small (by omega) (by omega)) (by decide)
theorem cal_l_lag {f : Addr} {fd : FuncData} (F : FnP K "_law_lag" s_l_lag f fd) (m : mg "_law_lag" = some (.ref f))   : Cal P w K mg base "_law_lag" 1 ["_law_bounds_here"] (spP K R_lag_of) := by
  refine cal_of F m (F.bindsN fun _ _ _ _ _ _ us hl => match us, hl with | [_], _ => rfl) (okP F sc_l_lag (fun ds d h => ?_) fun cdv A outer s H E hr M ds d hR => ?_)
  · obtain ⟨_, rfl, _⟩ := h
    rfl
  obtain ⟨B, rfl, hB, rfl⟩ := hR
  refine sd_last (s1_ret (pd_add (pd_ixT (pd_var 0) pd_int) (pd_mulW pd_int (pd_ixT (pd_var 0) pd_int) ?_)))
  have := hB.c1
  have := hB.c2
  exact Nz.w (a := 20) (b := 10) (nz_small (by omega) (by omega)) (nz_small (by omega) (by omega)) (by decide)
theorem cal_l_rho {f : Addr} {fd : FuncData} (F : FnP K "_law_rho" s_l_rho f fd) (m : mg "_law_rho" = some (.ref f)) (c_l_over : Cal P w K mg base "_law_over" 1 ["_law_n", "_law_d"] (spP K R_reduced)) (c_l_lag : Cal P w K mg base "_law_lag" 1 ["_law_bounds_here"] (spP K R_lag_of))  : Cal P w K mg base "_law_rho" 2 ["_law_bounds_here", "_law_ticks_here"] (spP K R_rho_of) := by
  refine cal_of F m (F.bindsN fun _ _ _ _ _ _ us hl => match us, hl with | [_, _], _ => rfl) (okP F sc_l_rho (fun ds d h => ?_) fun cdv A outer s H E hr M ds d hR => ?_)
  · obtain ⟨_, _, rfl, _⟩ := h
    rfl
  obtain ⟨B, T, rfl, hB, hT, rfl⟩ := hR
  refine sd_last (s1_ret (k_l_over c_l_over hr (pad_cons (pd_call c_l_lag hr (pad_cons (pd_var 0) pad_nil) ⟨B, rfl, hB, rfl⟩) (pad_cons (pd_var 1) pad_nil)) ?_))
  refine ⟨by have := hT.1; omega, Nat.lt_of_lt_of_le (nz_T hT) (Nat.pow_le_pow_right (by omega) (by omega))⟩
theorem cal_l_is_below {f : Addr} {fd : FuncData} (F : FnP K "_law_is_below" s_l_is_below f fd) (m : mg "_law_is_below" = some (.ref f))   : Cal P w K mg base "_law_is_below" 1 ["_law_x", "_law_y"] (spP K R_l_is_below) := by
  refine cal_of F m (F.bindsN fun _ _ _ _ _ _ us hl => match us, hl with | [_, _], _ => rfl) (okP F sc_l_is_below (fun ds d h => ?_) fun cdv A outer s H E hr M ds d hR => ?_)
  · obtain ⟨_, _, _, _, _, _, rfl, _⟩ := h
    rfl
  have nd := sc_l_is_below.nd
  obtain ⟨x, y, a, b, c, e, rfl, hx, hy, h1, rfl⟩ := hR
  refine sd_last (s1_ret ((pd_lt (pd_mulW (pd_ixT (pd_var 0) pd_int) (pd_ixT (pd_var 1) pd_int) ?_) (pd_mulW (pd_ixT (pd_var 1) pd_int) (pd_ixT (pd_var 0) pd_int) ?_)).of ?_))
  · exact Nz.w (.sn hx) (.sd hy) (by omega)
  · exact Nz.w (.sn hy) (.sd hx) (by omega)
  · exact congrArg D.bl (decide_eq_decide.mpr (compared x y))
end
def enLb (S W R L T : Int) : Bool := !decide (S * S < 2 * R * R) && (decide (0 ≤ (S * S + 2 * R * R) * T * T - L * L * (2 * W * W - S * S)) && decide (8 * S * S * R * R * T * T * T * T ≤ ((S * S + 2 * R * R) * T * T - L * L * (2 * W * W - S * S)) * ((S * S + 2 * R * R) * T * T - L * L * (2 * W * W - S * S))))
theorem enLb_iff (S W R L T : Int) : enLb S W R L T = true ↔ Enough.enL S W R L T := by
  unfold enLb Enough.enL
  rw [Bool.and_eq_true, Bool.and_eq_true, decide_eq_true_iff, decide_eq_true_iff, Bool.not_eq_true', decide_eq_false_iff_not]
def Bo.en (B : Bo) (T : Int) : Bool := enLb B.S B.way B.R B.L T
def R_l_is_enough (ds : List D) (d : D) : Prop := ∃ B T, ds = [boD B, .int T] ∧ BoOk B ∧ Tk B T ∧ d = .bl (B.en T)
theorem en_same {B : Bo} {T : Int} (hB : BoOk B) (hT : Tk B T) : enPb B.S B.way B.R (B.rho T).num (B.rho T).den = B.en T := by
  unfold Bo.en
  rw [Bool.eq_iff_iff, enPb_iff, enLb_iff]
  have hT0 : T ≠ 0 := by have := hT.1; omega
  refine Enough.enough_iff (by have := hB.S1; omega) hB.y1 (by have := (B.rho T).den_pos; omega) (by have := hT.1; omega) ?_
  have h1 : (B.rho T).num * T = B.L * (B.rho T).den := by
    have e : Rat.divInt (B.rho T).num (B.rho T).den = Rat.divInt B.L T := divInt_self' _
    exact (Rat.divInt_eq_divInt_iff (den_ne _) hT0).mp e
  exact h1
def feStep (B : Bo) (q : Int × Int) : Int × Int := if q.1 < q.2 then (if B.en ((q.1 + q.2).fdiv 2) then (q.1, (q.1 + q.2).fdiv 2) else ((q.1 + q.2).fdiv 2 + 1, q.2)) else q
def feS (B : Bo) (q : Int × Int) : Nat → Int × Int
  | 0 => q
  | k + 1 => feStep B (feS B q k)
def loB (B : Bo) : Int := if B.L > 1 then B.L else 1
def feL (B : Bo) (most : Int) : Option Int := if most < loB B then none else if B.en most then some (feS B (loB B, most) 64).1 else none
def optD : Option Int → D
  | none => .non
  | some i => .int i
def R_l_first_enough (ds : List D) (d : D) : Prop := ∃ B most, ds = [boD B, .int most] ∧ BoOk B ∧ (1 ≤ most ∧ most < 2 ^ 42) ∧ d = optD (feL B most)
theorem feS_ok {B : Bo} {lo hi : Int} (h : lo ≤ hi) : ∀ k, lo ≤ (feS B (lo, hi) k).1 ∧ (feS B (lo, hi) k).1 ≤ (feS B (lo, hi) k).2 ∧ (feS B (lo, hi) k).2 ≤ hi
  | 0 => ⟨Int.le_refl _, h, Int.le_refl _⟩
  | k + 1 => by
    have ih := feS_ok (B := B) h k
    show lo ≤ (feStep B (feS B (lo, hi) k)).1 ∧ (feStep B (feS B (lo, hi) k)).1 ≤ (feStep B (feS B (lo, hi) k)).2 ∧ (feStep B (feS B (lo, hi) k)).2 ≤ hi
    generalize feS B (lo, hi) k = q at ih
    unfold feStep
    have e : (q.1 + q.2).fdiv 2 = (q.1 + q.2) / 2 := by rw [Int.fdiv_eq_ediv_of_nonneg _ (by decide)]
    split
    · rw [e]
      split
      · exact ⟨by simp only; omega, by simp only; omega, by simp only; omega⟩
      · exact ⟨by simp only; omega, by simp only; omega, by simp only; omega⟩
    · exact ih
theorem feL_ok {B : Bo} {most T : Int} (h : feL B most = some T) : 1 ≤ T ∧ B.L ≤ T ∧ T ≤ most := by
  unfold feL at h
  split at h
  · cases h
  · split at h
    · rename_i h1 h2
      have := feS_ok (B := B) (lo := loB B) (hi := most) (by omega) 64
      have e : (feS B (loB B, most) 64).1 = T := Option.some.inj h
      have hl : 1 ≤ loB B ∧ B.L ≤ loB B := by unfold loB; split <;> omega
      omega
    · cases h
section
variable {P : Program} {w : World} {K : PySem.W.Frag} {mg : Str → Option Value} {base : Heap}
theorem cal_l_is_enough {f : Addr} {fd : FuncData} (F : FnP K "_law_is_enough" s_l_is_enough f fd) (m : mg "_law_is_enough" = some (.ref f)) (c_l_reach : Cal P w K mg base "_law_reach" 1 ["_law_bounds_here"] (spP K R_r_of)) (c_l_lag : Cal P w K mg base "_law_lag" 1 ["_law_bounds_here"] (spP K R_lag_of))  : Cal P w K mg base "_law_is_enough" 2 ["_law_bounds_here", "_law_ticks_here"] (spP K R_l_is_enough) := by
  refine cal_of F m (F.bindsN fun _ _ _ _ _ _ us hl => match us, hl with | [_, _], _ => rfl) (okP F sc_l_is_enough (fun ds d h => ?_) fun cdv A outer s H E hr M ds d hR => ?_)
  · obtain ⟨_, _, rfl, _⟩ := h
    rfl
  have nd := sc_l_is_enough.nd
  obtain ⟨B, T, rfl, hB, hT, rfl⟩ := hR
  obtain ⟨z1, z2, z3, z4⟩ := nz_bo hB
  have zt := nz_T hT
  refine sd_cons (s1_asg (pd_tup (pad_cons (pd_ixT (pd_var 0) pd_int) (pad_cons (pd_call c_l_reach hr (pad_cons (pd_var 0) pad_nil) ⟨B, rfl, hB, rfl⟩) (pad_cons (pd_ixT (pd_var 0) pd_int) (pad_cons (pd_call c_l_lag hr (pad_cons (pd_var 0) pad_nil) ⟨B, rfl, hB, rfl⟩) pad_nil))))) (gd_tup (gds_cons (gd_name 2 nd) (gds_cons (gd_name 3 nd) (gds_cons (gd_name 4 nd) (gds_cons (gd_name 5 nd) gds_nil)))))) ?_
  refine SD.nrm [some (boD B), some (.int T), some (.int B.S), some (.int B.R), some (.int B.way), some (.int B.L), none] rfl ?_
  by_cases hc : B.S * B.S < 2 * B.R * B.R
  · have e : B.en T = false := by unfold Bo.en enLb; rw [decide_eq_true hc] <;> rfl
    rw [e]
    refine sd_stop (s1_ifT (PTD.of (ptd_lt (pd_mulW (pd_var 2) (pd_var 2) ?_) (pd_mulW (pd_mulW pd_int (pd_var 3) ?_) (pd_var 3) ?_)) (decide_eq_true hc)) (sd_last (s1_ret pd_bl)))
    iterate 3 (· walk_at "mw")
  · have e : B.en T = (decide (0 ≤ (B.S * B.S + 2 * B.R * B.R) * T * T - B.L * B.L * (2 * B.way * B.way - B.S * B.S)) && decide (8 * B.S * B.S * B.R * B.R * T * T * T * T ≤ ((B.S * B.S + 2 * B.R * B.R) * T * T - B.L * B.L * (2 * B.way * B.way - B.S * B.S)) * ((B.S * B.S + 2 * B.R * B.R) * T * T - B.L * B.L * (2 * B.way * B.way - B.S * B.S)))) := by
      unfold Bo.en enLb; rw [decide_eq_false hc] <;> rfl
    rw [e]
    refine sd_cons (s1_ifF (PTD.of (ptd_lt (pd_mulW (pd_var 2) (pd_var 2) ?_) (pd_mulW (pd_mulW pd_int (pd_var 3) ?_) (pd_var 3) ?_)) (decide_eq_false hc)) sd_nil) ?_
    iterate 3 (· walk_at "mw")
    refine sd_cons (s1_set 6 (pd_mulW (pd_mulW (pd_add (pd_mulW (pd_var 2) (pd_var 2) ?_) (pd_mulW (pd_mulW pd_int (pd_var 3) ?_) (pd_var 3) ?_)) (pd_var 1) ?_) (pd_var 1) ?_) nd) ?_
    iterate 5 (· walk_at "mw")
    refine sd_cons (s1_set 6 (pd_sub (pd_var 6) (pd_mulW (pd_mulW (pd_var 5) (pd_var 5) ?_) (pd_sub (pd_mulW (pd_mulW pd_int (pd_var 4) ?_) (pd_var 4) ?_) (pd_mulW (pd_var 2) (pd_var 2) ?_)) ?_)) nd) ?_
    iterate 5 (· walk_at "mw")
    refine sd_last (s1_ret (pd_and (pd_ge (pd_var 6) pd_int) fun _ => (pd_one (pd_ge (pd_mulW (pd_var 6) (pd_var 6) ?_) (pd_mulW (pd_mulW (pd_mulW (pd_mulW (pd_mulW (pd_mulW (pd_mulW (pd_mulW pd_int (pd_var 2) ?_) (pd_var 2) ?_) (pd_var 3) ?_) (pd_var 3) ?_) (pd_var 1) ?_) (pd_var 1) ?_) (pd_var 1) ?_) (pd_var 1) ?_)))))
    iterate 9 (· walk_at "mw")
theorem cal_l_first_enough {f : Addr} {fd : FuncData} (F : FnP K "_law_first_enough" s_l_first_enough f fd) (m : mg "_law_first_enough" = some (.ref f)) (c_l_lag : Cal P w K mg base "_law_lag" 1 ["_law_bounds_here"] (spP K R_lag_of)) (c_l_is_enough : Cal P w K mg base "_law_is_enough" 2 ["_law_bounds_here", "_law_ticks_here"] (spP K R_l_is_enough)) (m_range : mg "range" = none) (m_max : mg "max" = none) : Cal P w K mg base "_law_first_enough" 3 ["_law_bounds_here", "_law_most"] (spP K R_l_first_enough) := by
  refine cal_of F m (F.bindsN fun _ _ _ _ _ _ us hl => match us, hl with | [_, _], _ => rfl) (okP F sc_l_first_enough (fun ds d h => ?_) fun cdv A outer s H E hr M ds d hR => ?_)
  · obtain ⟨_, _, rfl, _⟩ := h
    rfl
  have nd := sc_l_first_enough.nd
  obtain ⟨B, most, rfl, hB, hm, rfl⟩ := hR
  refine sd_cons (s1_par 2 3 (d1 := .int (loB B)) (pd_max2 rfl m_max pd_int (pd_call c_l_lag hr (pad_cons (pd_var 0) pad_nil) ⟨B, rfl, hB, rfl⟩)) (pd_var 1) nd) ?_
  refine SD.nrm [some (boD B), some (.int most), some (.int (loB B)), some (.int most), none, none] rfl ?_
  have hl : 1 ≤ loB B ∧ B.L ≤ loB B := by unfold loB; split <;> omega
  unfold feL
  by_cases h1 : most < loB B
  · rw [if_pos h1]
    exact sd_stop (s1_ifT (ptd_w (PWD.of (pwd_or (x := true) (y := true) (PTD.of (ptd_gt (pd_var 2) (pd_var 3)) (decide_eq_true h1)) fun h => by cases h) rfl)) (sd_last (s1_ret pd_non)))
  · rw [if_neg h1]
    have hT : Tk B most := ⟨by omega, by omega, by omega⟩
    cases h2 : B.en most with
    | false =>
      rw [if_neg (by decide)]
      exact sd_stop (s1_ifT (ptd_w (PWD.of (pwd_or (x := false) (y := true) (PTD.of (ptd_gt (pd_var 2) (pd_var 3)) (decide_eq_false h1)) fun _ => (pwd_or1 (PTD.of (ptd_not (ptd_val (pd_call c_l_is_enough hr (pad_cons (pd_var 0) (pad_cons (pd_var 3) pad_nil)) ⟨B, most, rfl, hB, hT, rfl⟩))) (by rw [h2] <;> rfl)))) rfl)) (sd_last (s1_ret pd_non)))
    | true =>
      rw [if_pos rfl]
      refine sd_cons (s1_ifF (ptd_w (PWD.of (pwd_or (x := false) (y := false) (PTD.of (ptd_gt (pd_var 2) (pd_var 3)) (decide_eq_false h1)) fun _ => (pwd_or1 (PTD.of (ptd_not (ptd_val (pd_call c_l_is_enough hr (pad_cons (pd_var 0) (pad_cons (pd_var 3) pad_nil)) ⟨B, most, rfl, hB, hT, rfl⟩))) (by rw [h2] <;> rfl)))) rfl)) sd_nil) ?_
      refine sd_cons (s1_for (fun k => [some (boD B), some (.int most), some (.int (feS B (loB B, most) k).1), some (.int (feS B (loB B, most) k).2), none, none]) (id_range1 m_range pd_int) (Le.refl _) (fun k d hd => ?_)) ?_
      · obtain ⟨_, rfl⟩ := rngD_get hd
        obtain ⟨i1, i2, i3⟩ := feS_ok (B := B) (lo := loB B) (hi := most) (by omega) k
        have e1 : feS B (loB B, most) (k + 1) = feStep B (feS B (loB B, most) k) := rfl
        rw [e1]
        generalize feS B (loB B, most) k = q at i1 i2 i3
        have em : (q.1 + q.2).fdiv 2 = (q.1 + q.2) / 2 := by rw [Int.fdiv_eq_ediv_of_nonneg _ (by decide)]
        refine ⟨_, [some (boD B), some (.int most), some (.int (feStep B q).1), some (.int (feStep B q).2), none, none], gd_name 4 nd, ?_, Le.refl _⟩
        refine SD.nrm [some (boD B), some (.int most), some (.int q.1), some (.int q.2), some (.int (0 + (k : Int))), none] rfl ?_
        refine sd_cons (s1_set 5 (pd_fdivNW (pd_add (pd_var 2) (pd_var 3)) pd_int (by constructor <;> decide +kernel)) nd) ?_
        refine SD.nrm [some (boD B), some (.int most), some (.int q.1), some (.int q.2), some (.int (0 + (k : Int))), some (.int ((q.1 + q.2).fdiv 2))] rfl ?_
        have wk : ∀ a b : Int, Le [some (boD B), some (.int most), some (.int a), some (.int b), some (.int (0 + (k : Int))), some (.int ((q.1 + q.2).fdiv 2))] [some (boD B), some (.int most), some (.int a), some (.int b), none, none] := fun a b => ⟨.inr rfl, .inr rfl, .inr rfl, .inr rfl, .inl rfl, .inl rfl, trivial⟩
        by_cases hq : q.1 < q.2
        · have hTm : Tk B ((q.1 + q.2).fdiv 2) := ⟨by omega, by omega, by omega⟩
          cases he : B.en ((q.1 + q.2).fdiv 2) with
          | true =>
            have es : feStep B q = (q.1, (q.1 + q.2).fdiv 2) := by unfold feStep; rw [if_pos hq, if_pos he]
            rw [es]
            exact SD.le (sd_last (s1_ifT (ptd_w (PWD.of (pwd_and (x := true) (y := true) (PTD.of (ptd_lt (pd_var 2) (pd_var 3)) (decide_eq_true hq)) fun _ => (pwd_and1 (PTD.of (ptd_val (pd_call c_l_is_enough hr (pad_cons (pd_var 0) (pad_cons (pd_var 5) pad_nil)) ⟨B, _, rfl, hB, hTm, rfl⟩)) he))) rfl)) (sd_last (s1_set 3 (pd_var 5) nd)))) (wk _ _)
          | false =>
            have es : feStep B q = ((q.1 + q.2).fdiv 2 + 1, q.2) := by unfold feStep; rw [if_pos hq, if_neg (by rw [he]; decide)]
            rw [es]
            exact SD.le (sd_last (s1_ifF (ptd_w (PWD.of (pwd_and (x := true) (y := false) (PTD.of (ptd_lt (pd_var 2) (pd_var 3)) (decide_eq_true hq)) fun _ => (pwd_and1 (PTD.of (ptd_val (pd_call c_l_is_enough hr (pad_cons (pd_var 0) (pad_cons (pd_var 5) pad_nil)) ⟨B, _, rfl, hB, hTm, rfl⟩)) he))) rfl)) (sd_last (s1_ifT (PTD.of (ptd_lt (pd_var 2) (pd_var 3)) (decide_eq_true hq)) (sd_last (s1_set 2 (pd_add (pd_var 5) pd_int) nd)))))) (wk _ _)
        · have es : feStep B q = q := by unfold feStep; rw [if_neg hq]
          rw [es]
          exact SD.le (sd_last (s1_ifF (ptd_w (PWD.of (pwd_and (x := false) (y := false) (PTD.of (ptd_lt (pd_var 2) (pd_var 3)) (decide_eq_false hq)) fun h => by cases h) rfl)) (sd_last (s1_ifF (PTD.of (ptd_lt (pd_var 2) (pd_var 3)) (decide_eq_false hq)) sd_nil)))) (wk _ _)
      exact sd_last (s1_ret (pd_var 2))
end
end Wk
end
section
set_option Elab.async false
set_option linter.all false
set_option maxRecDepth 100000
set_option maxHeartbeats 4000000
namespace Wk
open PySem PySem.Spec PyProof.Rows L2 Fq
open Mi (Col Leg P2 pl dotQ sqAt)
local macro_rules | `(tactic| walk_at "nz") => `(tactic| first | assumption | exact Nz.sn (by assumption) | exact Nz.sd (by assumption) | (apply Nz.mul <;> walk_at "nz") | (apply Nz.add <;> walk_at "nz") | (apply Nz.sub <;> walk_at "nz") | (apply Nz.neg <;> walk_at "nz") | exact (show Nz 20 _ by unfold Nz; decide))
local macro_rules | `(tactic| walk_at "mw") => `(tactic| (apply Nz.w; (· walk_at "nz"); (· walk_at "nz"); decide))
section
variable {K : PySem.W.Frag} {M : Mu} {H0 H H' : Hp} {σ : L2.St} {env env' : DEnv} {n : Nat} {p : Addr} {cs cs' : List D}
def del (H : Hp) (p : Addr) : Hp := fun a => if a = p then none else H a
theorem del_ne {a : Addr} (h : a ≠ p) : del H p a = H a := if_neg h
theorem del_at : del H p p = none := if_pos rfl
theorem Ow.notM (h : Ow K M H0 H σ env n p cs) : ¬ M p := h.w0.notM h.np
def Kp (p : Addr) (H H' : Hp) : Prop := ∀ a o, a ≠ p → H a = some o → H' a = some o
theorem Kp.trans {H2 : Hp} (h : Kp p H H') (g : Kp p H' H2) : Kp p H H2 := fun a o n e => g a o n (h a o n e)
theorem kp_of (h : Same H H') : Kp p H H' := fun a o _ e => h a o e
theorem Kp.refl : Kp p H H := fun _ _ _ e => e
theorem same_del : Same (del H p) H' ↔ Kp p H H' := by
  constructor
  · intro h a o n e
    exact h a o (by rw [del_ne n]; exact e)
  · intro h a o e
    by_cases z : a = p
    · subst z
      rw [del_at] at e
      cases e
    · rw [del_ne z] at e
      exact h a o z e
theorem Ow.cut (h : Ow K M H0 H σ env n p cs) : Ow K M (del H p) H σ env n p cs :=
  ⟨same_del.mpr Kp.refl, fun a m => let ⟨xs, e⟩ := h.w0 a m; ⟨xs, by rw [del_ne (fun z => h.notM (by rw [← z]; exact m))]; exact h.s0 a _ e⟩, del_at, h.en, h.at_, h.ls⟩
theorem Ow.back {σ' : L2.St} {H1 : Hp} (h0 : Same H0 H1) (w0 : Wd M H0) (np : H0 p = none) (h : Ow K M (del H1 p) H' σ' env' n p cs') : Ow K M H0 H' σ' env' n p cs' :=
  ⟨fun a o e => same_del.mp h.s0 a o (ne_of_none e np) (h0 a o e), w0, np, h.en, h.at_, h.ls⟩
theorem kp_sm (w : Wd (Add M p) H) (h : Kp p H H') (e : ∃ xs, H' p = some (.lst xs)) : Sm (Add M p) H H' :=
  ⟨fun a o n q => h a o (fun z => n (.inr z)) q, fun a ma => by
    by_cases z : a = p
    · subst z; exact e
    · obtain ⟨xs, q⟩ := w a ma
      exact ⟨xs, h a _ z q⟩⟩
end
section
variable {X : Cx} {M : Mu} {n : Nat} {env env1 env' : DEnv} {cs cs1 : List D} {a b c e tg iter : Expr} {st : Stmt} {sts body els : List Stmt} {pos p2 p3 : Pos} {d : D} {ds ys : List D} {o : OutM}
def SML (X : Cx) (M : Mu) (n : Nat) (sts : List Stmt) (env : DEnv) (cs ys : List D) : Prop := ∀ D σ H H0 p, Ow X.K M H0 H σ env n p cs → (∀ p' ws H', H0 p' = none → Same H0 H' → H' p' = some (.lst ws) → Reps X.K M H' ys ws → D.rt (.ref p') H') → Wss X sts D σ H
theorem SML.nrm (env' : DEnv) (q : env = env') (h : SML X M n sts env' cs ys) : SML X M n sts env cs ys := q ▸ h
theorem RL.nrm (env' : DEnv) (q : env = env') (h : RL X M sts env' ys) : RL X M sts env ys := q ▸ h
theorem sml_cons (h1 : SM1 X M n st env cs (.nx env1 cs1)) (h2 : SML X M n sts env1 cs1 ys) : SML X M n (st :: sts) env cs ys := fun D σ H H0 p hO k =>
  ⟨_, pss_cons ws wss, h1 { D with nx := Wss X sts D } σ H H0 p hO fun σ' H' hO' => h2 D σ' H' H0 p hO' k⟩
theorem sml_freeze (h : RL X M sts (env.set n (some (.lst cs))) ys) : SML X M n sts env cs ys := fun D σ H H0 p hO k => h D σ H hO.freeze fun p' ws H1 np e1 h1 r1 => k p' ws H1 (hO.s0.free np) (hO.s0.trans e1) h1 r1
theorem sml_ret {x : Str} (hi : X.N[n]? = some x := by rfl) (hv : Vis X.env.scope x := by first | exact Or.inl rfl | exact Or.inr (Or.inl rfl) | exact Or.inr (Or.inr rfl)) (hd : (x == ("__debug__" : Str)) = false := by decide) (hcd : (x == ("__classdict__" : Str)) = false := by decide) :
    SML X M n [.Return (some (.Name x p2)) pos] env cs cs := fun D σ H H0 p hO k => sm_retL hi hv hd hcd D σ H H0 p hO k
theorem rl_own (n : Nat) {x : Str} {px : Pos} (h : PL X M e env ds) (hfl : Flats ds) (hN : X.N.Nodup) (hs : SML X M n sts (env.set n none) ds ys) (hln : Nat.blt n env.length = true := by rfl) (hi : X.N[n]? = some x := by rfl) (hx : Loc X.env.scope x := by first | exact Or.inl rfl | exact Or.inr rfl) (hsw : swapsWith e (some (.Name x px)) pos.line X.env = pure false := by rfl)
    (hf : X.fn x = true ∨ X.env.scope.names.lookup x = some .local := by first | exact .inl rfl | exact .inr rfl) : RL X M (.Assign [.Name x px] e pos :: sts) env ys := fun D σ H hE hO =>
  own_begin hfl h hE hN (Nat.le_of_ble_eq_true hln) hi hx hsw hf fun σ' H' p hOw => hs D σ' H' H p hOw hO
theorem SM1.le (h : SM1 X M n st env cs (.nx env1 cs1)) (l : Le env1 env') : SM1 X M n st env cs (.nx env' cs1) := fun D σ H H0 p hO k => h D σ H H0 p hO fun σ' H' hO' => k σ' H' (hO'.le l)
theorem sm_for (envs : Nat → DEnv) (css : Nat → List D) {vs : List Nat} (hn : n ∉ vs) (hi : ∀ M, IDt X M tg iter env ds) (h0 : Le env (envs 0)) (turn : ∀ (k : Nat) d, ds[k]? = some d → ∃ env1 env2, (∀ M, GDw X M vs tg d (envs k) env1) ∧ SM X M n body env1 (css k) (.nx env2 (css (k + 1))) ∧ Le env2 (envs (k + 1)))
    (hp : PassesOwn (model X.prog X.w) X.A X.env X.xe := by exact PassesOwn.never) (hc : X.calm = true := by rfl) (hs : ∀ x, foldedSetIterable iter X.env x = pure x := by intro _; rfl) : SM1 X M n (.For tg iter body [] pos) env (css 0) (.nx (envs ds.length) (css ds.length)) := fun D σ H H0 p hO k =>
  ⟨_, ps_for hp hc wi wg wss hs, hi _ σ H hO.en _ fun J H1 e1 ⟨G, Y, W, hG, hY⟩ => for_it W (fun k σ' H' => Kp p H1 H' ∧ Ow X.K M H0 H' σ' (envs k) n p (css k)) ⟨Kp.refl, (hO.same e1).le h0⟩
    (fun k σ' H' _ q => hG H' (kp_sm (hO.same e1).en.wd q.1 ⟨_, q.2.ls.choose_spec.1⟩)) (fun k x σ' H2 H3 hk q y => by
      obtain ⟨d, hd⟩ : ∃ d, ds[k]? = some d := ⟨ds[k], List.getElem?_eq_getElem hk⟩
      obtain ⟨s23, r⟩ := hY k H2 x H3 d (kp_sm (hO.same e1).en.wd q.1 ⟨_, q.2.ls.choose_spec.1⟩) hd y
      obtain ⟨env1, env2, g, bd, l⟩ := turn k d hd
      have hO3 := q.2.same s23
      refine g _ σ' H3 x hO3.en r _ fun σ2 hE2 hw => ?_
      have at2 : σ2[n]? = some (some (.ref p)) := by
        have h1 : (L2.wipe σ2 vs)[n]? = (L2.wipe σ' vs)[n]? := by rw [hw]
        rw [L2.wipe_out hn, L2.wipe_out hn] at h1
        rw [h1]
        exact hO3.at_
      have hO4 : Ow X.K M H0 H3 σ2 env1 n p (css k) := ⟨hO3.s0, hO3.w0, hO3.np, hE2, at2, hO3.ls⟩
      refine bd _ σ2 H3 (del H3 p) p hO4.cut fun σ3 H4 hO5 => ?_
      exact ⟨(q.1.trans (kp_of s23)).trans (same_del.mp hO5.s0), (Ow.back hO3.s0 hO3.w0 hO3.np hO5).le l⟩) fun σ' H' q => k σ' H' q.2⟩
end
section
variable {X : Cx} {M : Mu} {env : DEnv} {a e tg iter : Expr} {es : List Expr} {pos p : Pos} {d : D} {ds : List D} {kk : Nat}
theorem id_tupD (h : PAD X M es env ds) (hl : ds.length ≤ 1000 := by simp) : IDt X M tg (.Tuple es kk pos) env ds := id_tup (pd_tup h hl)
end
def sqI (a b : Col) : Int := (a.1 - b.1) * (a.1 - b.1) + (a.2 - b.2) * (a.2 - b.2)
def ColOk (c : Col) : Prop := Nz 15 c.1 ∧ Nz 15 c.2
def R_l_squared (ds : List D) (d : D) : Prop := ∃ a b, ds = [colD a, colD b] ∧ ColOk a ∧ ColOk b ∧ d = .int (sqI a b)
def ld (S : Int) : Nat → Int
  | 0 => 0
  | k + 1 => if 2 * ld S k * ld S k < S * S then ld S k + 1 else ld S k
def diag (S : Int) : Int := ld S (2 * S + 2).toNat
def SOk (S : Int) : Prop := 1 ≤ S ∧ S ≤ 100
def R_l_least_diagonal (ds : List D) (d : D) : Prop := ∃ S, ds = [.int S] ∧ SOk S ∧ d = .int (diag S)
theorem ld_ok (S : Int) : ∀ k, 0 ≤ ld S k ∧ ld S k ≤ k
  | 0 => ⟨Int.le_refl _, Int.le_refl _⟩
  | k + 1 => by
    have ih := ld_ok S k
    show 0 ≤ (if 2 * ld S k * ld S k < S * S then ld S k + 1 else ld S k) ∧ (if 2 * ld S k * ld S k < S * S then ld S k + 1 else ld S k) ≤ _
    split <;> omega
def neg2 (c : Col) : Col := (-c.1, -c.2)
def offA (S : Int) : List Col := [(S, 0), (0, S), (diag S, diag S), (diag S, -diag S), (S, 1), (1, S)] ++ [(S + 1, -1), (2 * S, 0), (0, 2 * S), (S, S)]
def offB (S : Int) : List Col := offA S ++ (if S - S.fdiv 5 * 5 = 0 then [((3 * S).fdiv 5, (4 * S).fdiv 5)] else [])
def offL (S : Int) : List Col := offB S ++ (offB S).map neg2
def R_l_offsets (ds ys : List D) : Prop := ∃ S, ds = [.int S] ∧ SOk S ∧ ys = (offL S).map colD
def SmC (c : Col) : Prop := (-1000 ≤ c.1 ∧ c.1 ≤ 1000) ∧ -1000 ≤ c.2 ∧ c.2 ≤ 1000
theorem offB_ok {S : Int} (h : SOk S) : ∀ c ∈ offB S, SmC c := by
  intro c hc
  obtain ⟨h1, h2⟩ := h
  have hd := ld_ok S (2 * S + 2).toNat
  have hd1 : 0 ≤ diag S := hd.1
  have hd2 : diag S ≤ (2 * S + 2).toNat := hd.2
  unfold offB offA at hc
  rw [List.mem_append, List.mem_append] at hc
  unfold SmC
  rcases hc with (hc | hc) | hc
  · simp only [List.mem_cons, List.not_mem_nil, or_false] at hc
    rcases hc with rfl | rfl | rfl | rfl | rfl | rfl <;> simp only <;> omega
  · simp only [List.mem_cons, List.not_mem_nil, or_false] at hc
    rcases hc with rfl | rfl | rfl | rfl <;> simp only <;> omega
  · split at hc
    · simp only [List.mem_cons, List.not_mem_nil, or_false] at hc
      subst hc
      simp only [Int.fdiv_eq_ediv_of_nonneg _ (show (0 : Int) ≤ 5 by decide)]
      omega
    · simp at hc
theorem offL_ok {S : Int} (h : SOk S) : ∀ c ∈ offL S, SmC c := by
  intro c hc
  unfold offL at hc
  rcases List.mem_append.mp hc with hc | hc
  · exact offB_ok h c hc
  · obtain ⟨x, hx, rfl⟩ := List.mem_map.mp hc
    have := offB_ok h x hx
    unfold SmC neg2 at *
    simp only
    omega
theorem offB_len (S : Int) : (offB S).length ≤ 11 ∧ 1 ≤ (offB S).length := by
  unfold offB offA
  split <;> simp
theorem flats_col : ∀ cs : List Col, Flats (cs.map colD)
  | [] => trivial
  | _ :: r => ⟨⟨trivial, trivial, trivial⟩, flats_col r⟩
def fNeg (d : D) : Option D := match d with
  | .tup [.int x, .int y] => some (colD (-x, -y))
  | _ => none
theorem fNeg_all : ∀ cs : List Col, (cs.map colD).filterMap fNeg = (cs.map neg2).map colD
  | [] => rfl
  | c :: cs => by
    rw [List.map_cons, List.map_cons, List.map_cons, List.filterMap_cons]
    show colD (neg2 c) :: _ = _
    rw [fNeg_all cs]
section
variable {P : Program} {w : World} {K : PySem.W.Frag} {mg : Str → Option Value} {base : Heap}
theorem cal_l_squared {f : Addr} {fd : FuncData} (F : FnP K "_law_squared" s_l_squared f fd) (m : mg "_law_squared" = some (.ref f))   : Cal P w K mg base "_law_squared" 1 ["_law_one", "_law_other"] (spP K R_l_squared) := by
  refine cal_of F m (F.bindsN fun _ _ _ _ _ _ us hl => match us, hl with | [_, _], _ => rfl) (okP F sc_l_squared (fun ds d h => ?_) fun cdv A outer s H E hr M ds d hR => ?_)
  · obtain ⟨_, _, rfl, _⟩ := h
    rfl
  have nd := sc_l_squared.nd
  obtain ⟨x, y, rfl, ⟨a1, a2⟩, ⟨b1, b2⟩, rfl⟩ := hR
  refine sd_last (s1_ret (pd_add (pd_mulW (pd_sub (pd_ixT (pd_var 0) pd_int) (pd_ixT (pd_var 1) pd_int)) (pd_sub (pd_ixT (pd_var 0) pd_int) (pd_ixT (pd_var 1) pd_int)) ?_) (pd_mulW (pd_sub (pd_ixT (pd_var 0) pd_int) (pd_ixT (pd_var 1) pd_int)) (pd_sub (pd_ixT (pd_var 0) pd_int) (pd_ixT (pd_var 1) pd_int)) ?_)))
  · walk_at "mw"
  · walk_at "mw"
theorem cal_l_least_diagonal {f : Addr} {fd : FuncData} (F : FnP K "_law_least_diagonal" s_l_least_diagonal f fd) (m : mg "_law_least_diagonal" = some (.ref f))  (m_range : mg "range" = none) : Cal P w K mg base "_law_least_diagonal" 1 ["_law_spacing"] (spP K R_l_least_diagonal) := by
  refine cal_of F m (F.bindsN fun _ _ _ _ _ _ us hl => match us, hl with | [_], _ => rfl) (okP F sc_l_least_diagonal (fun ds d h => ?_) fun cdv A outer s H E hr M ds d hR => ?_)
  · obtain ⟨_, rfl, _⟩ := h
    rfl
  have nd := sc_l_least_diagonal.nd
  obtain ⟨S, rfl, ⟨h1, h2⟩, rfl⟩ := hR
  have zS : Nz 10 S := nz_small (by omega) (by omega)
  refine sd_cons (s1_set 1 pd_int nd) ?_
  refine SD.nrm [some (.int S), some (.int 0), none] rfl ?_
  refine sd_cons (s1_for (fun k => [some (.int S), some (.int (ld S k)), none]) (id_range1 (i := 2 * S + 2) m_range (pd_add (pd_mulW pd_int (pd_var 0) ?_) pd_int)) (Le.refl _) (fun k d hd => ?_)) ?_
  · walk_at "mw"
  · obtain ⟨hk, rfl⟩ := rngD_get hd
    refine ⟨_, [some (.int S), some (.int (ld S (k + 1))), none], gd_name 2 nd, ?_, Le.refl _⟩
    refine SD.nrm [some (.int S), some (.int (ld S k)), some (.int (0 + (k : Int)))] rfl ?_
    have := ld_ok S k
    have zl : Nz 10 (ld S k) := nz_small (by omega) (by omega)
    have wk : ∀ i : Int, Le [some (.int S), some (.int i), some (.int (0 + (k : Int)))] [some (.int S), some (.int i), none] := fun i => ⟨.inr rfl, .inr rfl, .inl rfl, trivial⟩
    by_cases hc : 2 * ld S k * ld S k < S * S
    · rw [show ld S (k + 1) = ld S k + 1 from if_pos hc]
      refine SD.le (sd_last (s1_ifT (PTD.of (ptd_lt (pd_mulW (pd_mulW pd_int (pd_var 1) ?_) (pd_var 1) ?_) (pd_mulW (pd_var 0) (pd_var 0) ?_)) (decide_eq_true hc)) (sd_last (s1_inc 1 rfl pd_int nd)))) (wk _)
      iterate 3 (· walk_at "mw")
    · rw [show ld S (k + 1) = ld S k from if_neg hc]
      refine SD.le (sd_last (s1_ifF (PTD.of (ptd_lt (pd_mulW (pd_mulW pd_int (pd_var 1) ?_) (pd_var 1) ?_) (pd_mulW (pd_var 0) (pd_var 0) ?_)) (decide_eq_false hc)) sd_nil)) (wk _)
      iterate 3 (· walk_at "mw")
  rw [rngD_len]
  exact sd_last (s1_ret (pd_var 1))
theorem cdiv5 : CDivNW 0 5 := by constructor <;> decide +kernel
theorem cal_l_offsets {f : Addr} {fd : FuncData} (F : FnP K "_law_offsets" s_l_offsets f fd) (m : mg "_law_offsets" = some (.ref f)) (c_l_least_diagonal : Cal P w K mg base "_law_least_diagonal" 1 ["_law_spacing"] (spP K R_l_least_diagonal))  : Cal P w K mg base "_law_offsets" 2 ["_law_spacing"] (spL K R_l_offsets) := by
  refine cal_of F m (F.bindsN fun _ _ _ _ _ _ us hl => match us, hl with | [_], _ => rfl) (okL' F sc_l_offsets (fun ds d h => ?_) fun cdv A outer s H E hr M ds d hR => ?_)
  · obtain ⟨_, rfl, _⟩ := h
    rfl
  have nd := sc_l_offsets.nd
  obtain ⟨S, rfl, hS, rfl⟩ := hR
  have zS : Nz 10 S := nz_small (by have := hS.1; omega) (by have := hS.2; omega)
  refine rl_cons (s1_set 1 (pd_call c_l_least_diagonal hr (pad_cons (pd_var 0) pad_nil) ⟨S, rfl, hS, rfl⟩) nd) ?_
  refine RL.nrm [some (.int S), some (.int (diag S)), none, none, none] rfl ?_
  refine rl_cons (s1_set 2 (d := .lst ([((S, 0) : Col), (0, S), (diag S, diag S), (diag S, -diag S), (S, 1), (1, S)].map colD)) (pl_lst (pad_cons (pd_tup (pad_cons (pd_var 0) (pad_cons pd_int pad_nil))) (pad_cons (pd_tup (pad_cons pd_int (pad_cons (pd_var 0) pad_nil))) (pad_cons (pd_tup (pad_cons (pd_var 1) (pad_cons (pd_var 1) pad_nil))) (pad_cons (pd_tup (pad_cons (pd_var 1) (pad_cons (pd_neg (pd_var 1)) pad_nil))) (pad_cons (pd_tup (pad_cons (pd_var 0) (pad_cons pd_int pad_nil))) (pad_cons (pd_tup (pad_cons pd_int (pad_cons (pd_var 0) pad_nil))) pad_nil)))))) (by simp)).pd nd) ?_
  refine RL.nrm [some (.int S), some (.int (diag S)), some (.lst ([((S, 0) : Col), (0, S), (diag S, diag S), (diag S, -diag S), (S, 1), (1, S)].map colD)), none, none] rfl ?_
  refine rl_own 2 (ds := (offA S).map colD) (PL.of (pl_cat (ds := [((S, 0) : Col), (0, S), (diag S, diag S), (diag S, -diag S), (S, 1), (1, S)].map colD) (ds2 := [((S + 1, -1) : Col), (2 * S, 0), (0, 2 * S), (S, S)].map colD) (pd_var 2) (pl_lst (pad_cons (pd_tup (pad_cons (pd_add (pd_var 0) pd_int) (pad_cons (pd_neg pd_int) pad_nil))) (pad_cons (pd_tup (pad_cons (pd_mulW pd_int (pd_var 0) ?_) (pad_cons pd_int pad_nil))) (pad_cons (pd_tup (pad_cons pd_int (pad_cons (pd_mulW pd_int (pd_var 0) ?_) pad_nil))) (pad_cons (pd_tup (pad_cons (pd_var 0) (pad_cons (pd_var 0) pad_nil))) pad_nil)))) (by simp)).pd (by simp)) ?_) (flats_col _) nd ?_
  · walk_at "mw"
  · walk_at "mw"
  · unfold offA
    rw [List.map_append]
  refine SML.nrm [some (.int S), some (.int (diag S)), none, none, none] rfl ?_
  refine sml_cons (cs1 := (offB S).map colD) (env1 := [some (.int S), some (.int (diag S)), none, none, none]) (sm_if (k := decide (S - S.fdiv 5 * 5 = 0)) (fun M => ptd_eqI (pd_sub (pd_var 0) (pd_mulW (pd_fdivNW (pd_var 0) pd_int ⟨cdiv5.1, cdiv5.2⟩) pd_int ?_)) pd_int) (fun h => ?_) (fun h => ?_)) ?_
  · have e : S.fdiv 5 = S / 5 := Int.fdiv_eq_ediv_of_nonneg _ (by decide)
    rw [e]
    have := hS.1
    have := hS.2
    exact Nz.w (a := 10) (b := 20) (nz_small (by omega) (by omega)) (nz_small (by omega) (by omega)) (by decide)
  · have hq := of_decide_eq_true h
    have e : (offB S).map colD = (offA S).map colD ++ [colD ((3 * S).fdiv 5, (4 * S).fdiv 5)] := by
      unfold offB
      rw [if_pos hq, List.map_append] <;> rfl
    rw [e]
    refine sm_last (sm_app (fun M => pd_tup (pad_cons (pd_fdivNW (pd_mulW pd_int (pd_var 0) ?_) pd_int ⟨cdiv5.1, cdiv5.2⟩) (pad_cons (pd_fdivNW (pd_mulW pd_int (pd_var 0) ?_) pd_int ⟨cdiv5.1, cdiv5.2⟩) pad_nil))) (by unfold offA; simp))
    · walk_at "mw"
    · walk_at "mw"
  · have hq := of_decide_eq_false h
    have e : offB S = offA S := by
      unfold offB
      rw [if_neg hq, List.append_nil]
    rw [e]
    exact sm_nil
  refine sml_freeze (RL.nrm [some (.int S), some (.int (diag S)), some (.lst ((offB S).map colD)), none, none] rfl ?_)
  have hl := offB_len S
  refine rl_ret (PL.of (pl_cat (ds := (offB S).map colD) (ds2 := ((offB S).map colD).filterMap fNeg) (pd_var 2) (pl_lc (ds := (offB S).map colD) (own := [("_law_x", 3), ("_law_y", 4)]) (f := fNeg)
    (fun d => match d with | .tup [x, y] => [some (.int S), some (.int (diag S)), some (.lst ((offB S).map colD)), some x, some y] | _ => [])
    (blkOk_by (N := N_l_offsets) (sc := defScope s_l_offsets) (by decide +kernel)) nd (id_list (pd_var 2)) (fun d hd s H0 C cl fp => ?_) (by rw [List.length_map]; omega)).pd (by rw [fNeg_all]; simp only [List.length_map]; omega)) (by unfold offL; rw [fNeg_all, List.map_append]))
  obtain ⟨c, hc, rfl⟩ := List.mem_map.mp hd
  exact ⟨gdw_tup (gdws_cons (gdw_name 3 (by simp) nd) (gdws_cons (gdw_name 4 (by simp) nd) gdws_nil)), ⟨trivial, trivial, trivial⟩, ptsd_nil, pd_tup (pad_cons (pd_neg (pd_var 3)) (pad_cons (pd_neg (pd_var 4)) pad_nil))⟩
end
end Wk
end
section
set_option Elab.async false
set_option linter.all false
set_option maxRecDepth 100000
set_option maxHeartbeats 4000000
namespace Wk
open PySem PySem.Spec PyProof.Rows L2 Fq
open Mi (Col Leg P2 pl dotQ sqAt)
local macro_rules | `(tactic| walk_at "nz") => `(tactic| first | assumption | exact Nz.sn (by assumption) | exact Nz.sd (by assumption) | (apply Nz.mul <;> walk_at "nz") | (apply Nz.add <;> walk_at "nz") | (apply Nz.sub <;> walk_at "nz") | (apply Nz.neg <;> walk_at "nz") | exact (show Nz 20 _ by unfold Nz; decide))
local macro_rules | `(tactic| walk_at "mw") => `(tactic| (apply Nz.w; (· walk_at "nz"); (· walk_at "nz"); decide))
def SqD (d : D) (ds : List D) : Prop := d = .tup ds ∨ d = .lst ds
section
variable {X : Cx} {M : Mu} {env env1 env' : DEnv} {a b e : Expr} {pos p p2 : Pos} {d d0 d1 d2 : D} {ds cs : List D} {i : Int} {n : Nat} {sts : List Stmt} {o : OutM}
theorem pd_lenS (hq : SqD d0 ds) (hm : X.mg "len" = none) (ha : PD X M a env d0) (hg : Gl X "len" := by rfl) (hs : starEach [a] X.env = (false, eval a X.env) :: starEach [] X.env := by rfl) : PD X M (.Call (.Name "len" p) [a] [] pos) env (.int (ds.length : Int)) := by
  rcases hq with rfl | rfl
  · exact pd_lenT hm ha hg hs
  · exact pd_lenL hm ha hg hs
theorem pd_ixS (hq : SqD d0 ds) (ha : PD X M a env d0) (hb : PD X M b env (.int i)) (h : L2.atI ds i = some d) (hs : PlainIx b := by exact fun _ _ => rfl) : PD X M (.Subscript a b pos) env d := by
  rcases hq with rfl | rfl
  · exact pd_ixT ha hb h hs
  · exact pd_ixL ha hb h hs
theorem ow_new {K : PySem.W.Frag} {σ : L2.St} {H H1 : Hp} {q : Addr} {vs : List V} (hfl : Flats ds) (hE : En K M H σ env) (hln : n < env.length) (np : H q = none) (e1 : Same H H1) (h1 : H1 q = some (.lst vs)) (r1 : Reps K M H1 ds vs) : Ow K M H H1 (σ.set n (some (.ref q))) (env.set n none) n q ds :=
  ⟨e1, hE.wd, np, by
    have wA : Wd (Add M q) H1 := fun a ma => by
      rcases ma with m | rfl
      · exact (hE.wd.same e1) a m
      · exact ⟨vs, h1⟩
    refine ⟨wA, by rw [List.length_set, List.length_set]; exact hE.len, fun i d z => ?_⟩
    by_cases e : n = i
    · subst e
      rw [List.getElem?_set_self hln] at z
      cases z
    · rw [List.getElem?_set_ne e] at z
      obtain ⟨v, g1, g2⟩ := hE.at_ i d z
      exact ⟨v, by rw [List.getElem?_set_ne e]; exact g1, rep_keep e1 (rep_add np g2)⟩, by rw [List.getElem?_set_self (by rw [hE.len]; exact hln)], vs, h1, reps_flat hfl r1⟩
theorem sm_setF (j : Nat) {x : Str} {px : Pos} (h : PD X M e (env.set n (some (.lst cs))) d) (hf0 : Flat d) (hN : X.N.Nodup) (hj : n ≠ j := by decide) (hi : X.N[j]? = some x := by rfl) (hx : Loc X.env.scope x := by first | exact Or.inl rfl | exact Or.inr rfl) (hs : swapsWith e (some (.Name x px)) pos.line X.env = pure false := by rfl)
    (hf : X.fn x = true ∨ X.env.scope.names.lookup x = some .local := by first | exact .inl rfl | exact .inr rfl) : SM1 X M n (.Assign [.Name x px] e pos) env cs (.nx (env.set j (some d)) cs) := fun D σ H H0 p hO k =>
  ⟨_, ps_set (i := j) hN hi hx we hs hf, h σ H hO.freeze _ fun v H1 e1 r1 => k _ H1 ((hO.same e1).set (rep_flat hf0 r1) hj)⟩
theorem sd_ownPar (n m : Nat) {x y : Str} {px py pt : Pos} {kt k2 : Nat} {pt2 : Pos} (ha : PL X M a env ds) (hb : PD X M b env d2) (hfl : Flats ds) (hf2 : Flat d2) (hN : X.N.Nodup) (hs : SM X M n sts ((env.set n none).set m (some d2)) ds (.rt d)) (hln : Nat.blt n env.length = true := by rfl) (hi : X.N[n]? = some x := by rfl) (hj : X.N[m]? = some y := by rfl) (hij : n ≠ m := by decide) (hx : X.env.scope.names.lookup x = some .local := by rfl) (hy : X.env.scope.names.lookup y = some .local := by rfl)
    (hw : swappedStores [.Tuple [.Name x px, .Name y py] kt pt] (.Tuple [a, b] k2 pt2) X.env = pure (some [x, y]) := by rfl) (hsw : swapsWithSole [.Tuple [.Name x px, .Name y py] kt pt] (.Tuple [a, b] k2 pt2) pos.line X.env = pure false := by rfl) (hc : X.calm = true := by rfl)
    (s0 : starEach [a, b] X.env = (false, eval a X.env) :: starEach [b] X.env := by rfl) (s1 : starEach [b] X.env = (false, eval b X.env) :: starEach [] X.env := by rfl) :
    SD X M (.Assign [.Tuple [.Name x px, .Name y py] kt pt] (.Tuple [a, b] k2 pt2) pos :: sts) env (.rt d) := fun D σ H hE hO =>
  ⟨_, pss_cons (ps_par (i := n) (j := m) hc hN hi hj hij hx hy (pa_cons we (pa_cons we pa_nil s1) s0) hw hsw) wss, ha σ H hE _ fun p vs H1 np e1 h1 r1 => hb σ H1 (hE.same e1) _ fun v2 H2 e2 r2 => by
    exact ⟨_, _, rfl, hs D _ H2 H p (((ow_new hfl hE (Nat.le_of_ble_eq_true hln) np e1 h1 r1).same e2).set (rep_flat hf2 r2) hij) hO⟩⟩
end
theorem ixN_nat {n j : Nat} (hj : j < n) : L2.ixN n (j : Int) = some j := by
  unfold L2.ixN
  rw [if_pos (by omega), if_pos (by omega)]
  simp
theorem swapL_at {cs : List Leg} {i j : Nat} {l o : Leg} (hi : cs[i]? = some l) (hj : cs[j]? = some o) : Mi.swapL cs i j = (cs.set i (l.1, o.2)).set j (o.1, l.2) := by
  unfold Mi.swapL
  rw [hi, hj]
section
variable {X : Cx} {M : Mu} {env env1 env' : DEnv} {a b e rhs : Expr} {pos p p2 : Pos} {d d0 d1 d2 : D} {ds cs : List D} {n : Nat} {sts : List Stmt} {o : OutM}
theorem sm_pairSet {x y1 y2 : Str} {px1 px2 py1 py2 ps1 ps2 pt : Pos} {kt : Nat} (n1 n2 : Nat) {i j : Nat} (h : PD X M rhs (env.set n (some (.lst cs))) (.tup [d1, d2])) (f1 : Flat d1) (f2 : Flat d2) (hi : env[n1]? = some (some (.int i))) (hj : env[n2]? = some (some (.int j))) (hil : i < cs.length) (hjl : j < cs.length)
    (hx : X.N[n]? = some x := by rfl) (hy1 : X.N[n1]? = some y1 := by rfl) (hy2 : X.N[n2]? = some y2 := by rfl) (vx : Vis X.env.scope x := by exact Or.inl rfl) (v1 : Vis X.env.scope y1 := by exact Or.inl rfl) (v2 : Vis X.env.scope y2 := by exact Or.inl rfl)
    (hd : (x == ("__debug__" : Str)) = false := by decide) (hcd : (x == ("__classdict__" : Str)) = false := by decide) (hd1 : (y1 == ("__debug__" : Str)) = false := by decide) (hcd1 : (y1 == ("__classdict__" : Str)) = false := by decide) (hd2 : (y2 == ("__debug__" : Str)) = false := by decide) (hcd2 : (y2 == ("__classdict__" : Str)) = false := by decide)
    (ha1 : ∀ v, assign (.Subscript (.Name x px1) (.Name y1 py1) ps1) X.env v = (do
      let ov ← holding [v] (eval (.Name x px1) X.env)
      let iv ← holding [v, ov] (eval (.Name y1 py1) X.env)
      standAt ps1
      holding [v, ov, iv] (setItem ov iv v)
      release [v, ov, iv] []) := by intro _; rfl)
    (ha2 : ∀ v, assign (.Subscript (.Name x px2) (.Name y2 py2) ps2) X.env v = (do
      let ov ← holding [v] (eval (.Name x px2) X.env)
      let iv ← holding [v, ov] (eval (.Name y2 py2) X.env)
      standAt ps2
      holding [v, ov, iv] (setItem ov iv v)
      release [v, ov, iv] []) := by intro _; rfl)
    (hs1 : (assignEach [.Subscript (.Name x px1) (.Name y1 py1) ps1, .Subscript (.Name x px2) (.Name y2 py2) ps2] X.env).map (·.2) = assign (.Subscript (.Name x px1) (.Name y1 py1) ps1) X.env :: (assignEach [.Subscript (.Name x px2) (.Name y2 py2) ps2] X.env).map (·.2) := by rfl)
    (hs2 : (assignEach [.Subscript (.Name x px2) (.Name y2 py2) ps2] X.env).map (·.2) = assign (.Subscript (.Name x px2) (.Name y2 py2) ps2) X.env :: (assignEach [] X.env).map (·.2) := by rfl)
    (hc : X.calm = true := by rfl) (hn : (assignEach [.Subscript (.Name x px1) (.Name y1 py1) ps1, .Subscript (.Name x px2) (.Name y2 py2) ps2] X.env).length = 2 := by rfl) (hst : (assignEach [.Subscript (.Name x px1) (.Name y1 py1) ps1, .Subscript (.Name x px2) (.Name y2 py2) ps2] X.env).findIdx? (·.1) = none := by rfl)
    (hsw : swapsWithSole [.Tuple [.Subscript (.Name x px1) (.Name y1 py1) ps1, .Subscript (.Name x px2) (.Name y2 py2) ps2] kt pt] rhs pos.line X.env = pure false := by rfl) (hw : swappedStores [.Tuple [.Subscript (.Name x px1) (.Name y1 py1) ps1, .Subscript (.Name x px2) (.Name y2 py2) ps2] kt pt] rhs X.env = pure none := by rfl)
    (h1 : (assignEach [.Tuple [.Subscript (.Name x px1) (.Name y1 py1) ps1, .Subscript (.Name x px2) (.Name y2 py2) ps2] kt pt] X.env).map (·.2) = [assign (.Tuple [.Subscript (.Name x px1) (.Name y1 py1) ps1, .Subscript (.Name x px2) (.Name y2 py2) ps2] kt pt) X.env] := by rfl) :
    SM1 X M n (.Assign [.Tuple [.Subscript (.Name x px1) (.Name y1 py1) ps1, .Subscript (.Name x px2) (.Name y2 py2) ps2] kt pt] rhs pos) env cs (.nx env ((cs.set i d1).set j d2)) := fun D σ H H0 p hO k =>
  ⟨_, ps_asg we (pg_tup hc (pgs_cons (pg_sub (pe_var hx vx hd hcd) (pe_var hy1 v1 hd1 hcd1) set_list ha1) (pgs_cons (pg_sub (pe_var hx vx hd hcd) (pe_var hy2 v2 hd2 hcd2) set_list ha2) pgs_nil hs2) hs1) hn hst) hsw hw h1, h σ H hO.freeze _ fun v H1 e1 ⟨t, us, r1, r2, r3⟩ => by
    obtain ⟨u1, u2, rfl, q1, q2⟩ := reps2 r3
    have hO1 := hO.same e1
    obtain ⟨w1, g1, g2⟩ := hO1.en.at_ n1 _ hi
    obtain ⟨w2, g3, g4⟩ := hO1.en.at_ n2 _ hj
    have g2' : w1 = .int (i : Nat) := g2
    have g4' : w2 = .int (j : Nat) := g4
    subst g2' g4'
    obtain ⟨vs, l1, l2⟩ := hO1.ls
    have hvl := l2.length
    have s1 := hO1.mut (Reps.set (i := i) l2 (rep_flat f1 q1))
    have s2 : Ow X.K M H0 (upd (upd H1 p (.lst (vs.set i u1))) p (.lst ((vs.set i u1).set j u2))) σ env n p ((cs.set i d1).set j d2) := by
      obtain ⟨vs2, m1, m2⟩ := s1.ls
      rw [upd_same] at m1
      cases m1
      refine s1.mut (Reps.set (i := j) m2 ?_)
      exact rep_sm hO1.en.wd (sm_write hO1.en.wd (.inr rfl)) (rep_flat f2 q2)
    refine ⟨t, [u1, u2], r1, r2, rfl, u1, [u2], rfl, _, hO1.at_, _, g1, p, vs, (i : Int), i, rfl, rfl, l1, ixN_nat (by omega), u2, [], rfl, _, hO1.at_, _, g3, p, vs.set i u1, (j : Int), j, rfl, rfl, upd_same, ixN_nat (by rw [List.length_set]; omega), ?_⟩
    exact ⟨rfl, k σ _ s2⟩⟩
end
def R_l_do_cross (ds : List D) (d : D) : Prop := ∃ l o, ds = [legD l, legD o] ∧ LegOk l ∧ LegOk o ∧ d = .bl (Mi.crossB l o)
def pairD : Option (Nat × Nat) → D
  | none => .non
  | some (i, j) => .tup [.int i, .int j]
def R_l_first_crossing (ds : List D) (d : D) : Prop := ∃ d0 ls, ds = [d0] ∧ SqD d0 (ls.map legD) ∧ LegsOk ls ∧ d = pairD (Mi.fc ls)
def R_l_uncrossed (ds : List D) (d : D) : Prop := ∃ ls, ds = [lsD ls] ∧ LegsOk ls ∧ d = lsD (Mi.un ls)
theorem leg_at {ls : List Leg} {k : Nat} {l : Leg} (h : ls[k]? = some l) : L2.atI (ls.map legD) (k : Int) = some (legD l) := atI_nat (by rw [List.getElem?_map, h] <;> rfl)
theorem flats_leg : ∀ ls : List Leg, Flats (ls.map legD)
  | [] => trivial
  | _ :: r => ⟨⟨⟨trivial, trivial, trivial⟩, ⟨trivial, trivial, trivial⟩, trivial⟩, flats_leg r⟩
theorem goes_ok {ls cs : List Leg} (h : Mi.Goes ls cs) (hl : LegsOk ls) : LegsOk cs := by
  have hlen : cs.length = ls.length := by rw [← List.length_map (f := Prod.snd), h.tos.length_eq, List.length_map]
  refine ⟨fun l hm => ⟨?_, ?_⟩, by rw [hlen]; exact hl.2⟩
  · have : l.1 ∈ ls.map Prod.fst := by rw [← h.froms]; exact List.mem_map.mpr ⟨l, hm, rfl⟩
    obtain ⟨x, hx, e⟩ := List.mem_map.mp this
    rw [← e]
    exact (hl.1 x hx).1
  · have : l.2 ∈ ls.map Prod.snd := h.tos.mem_iff.mp (List.mem_map.mpr ⟨l, hm, rfl⟩)
    obtain ⟨x, hx, e⟩ := List.mem_map.mp this
    rw [← e]
    exact (hl.1 x hx).2
section
variable {P : Program} {w : World} {K : PySem.W.Frag} {mg : Str → Option Value} {base : Heap}
theorem cal_l_do_cross {f : Addr} {fd : FuncData} (F : FnP K "_law_do_cross" s_l_do_cross f fd) (m : mg "_law_do_cross" = some (.ref f))   : Cal P w K mg base "_law_do_cross" 1 ["_law_leg", "_law_other"] (spP K R_l_do_cross) := by
  refine cal_of F m (F.bindsN fun _ _ _ _ _ _ us hl => match us, hl with | [_, _], _ => rfl) (okP F sc_l_do_cross (fun ds d h => ?_) fun cdv A outer s H E hr M ds d hR => ?_)
  · obtain ⟨_, _, rfl, _⟩ := h
    rfl
  have nd := sc_l_do_cross.nd
  obtain ⟨l, o, rfl, ⟨⟨a1, a2⟩, a3, a4⟩, ⟨⟨b1, b2⟩, b3, b4⟩, rfl⟩ := hR
  refine sd_cons (s1_asg (pd_tup (pad_cons (pd_var 0) (pad_cons (pd_var 1) pad_nil))) (gd_tup (gds_cons (gd_tup (gds_cons (gd_name 2 nd) (gds_cons (gd_name 3 nd) gds_nil))) (gds_cons (gd_tup (gds_cons (gd_name 4 nd) (gds_cons (gd_name 5 nd) gds_nil))) gds_nil)))) ?_
  refine SD.nrm [some (legD l), some (legD o), some (colD l.1), some (colD l.2), some (colD o.1), some (colD o.2)] rfl ?_
  refine sd_last (s1_ret (pd_lt (pd_add (pd_mulW (pd_sub (pd_ixT (pd_var 4) pd_int) (pd_ixT (pd_var 2) pd_int)) (pd_sub (pd_ixT (pd_var 5) pd_int) (pd_ixT (pd_var 3) pd_int)) ?_) (pd_mulW (pd_sub (pd_ixT (pd_var 4) pd_int) (pd_ixT (pd_var 2) pd_int)) (pd_sub (pd_ixT (pd_var 5) pd_int) (pd_ixT (pd_var 3) pd_int)) ?_)) pd_int))
  · walk_at "mw"
  · walk_at "mw"
theorem cross_row {x : Str} {N : List Str} {st : Stmt} : True := trivial
theorem cal_l_first_crossing {f : Addr} {fd : FuncData} (F : FnP K "_law_first_crossing" s_l_first_crossing f fd) (m : mg "_law_first_crossing" = some (.ref f)) (c_l_do_cross : Cal P w K mg base "_law_do_cross" 1 ["_law_leg", "_law_other"] (spP K R_l_do_cross)) (m_range : mg "range" = none) (m_len : mg "len" = none) : Cal P w K mg base "_law_first_crossing" 2 ["_law_legs_here"] (spP K R_l_first_crossing) := by
  refine cal_of F m (F.bindsN fun _ _ _ _ _ _ us hl => match us, hl with | [_], _ => rfl) (okP F sc_l_first_crossing (fun ds d h => ?_) fun cdv A outer s H E hr M ds d hR => ?_)
  · obtain ⟨_, _, rfl, _⟩ := h
    rfl
  have nd := sc_l_first_crossing.nd
  obtain ⟨d0, ls, rfl, hq, hls, rfl⟩ := hR
  have len : (ls.map legD).length = ls.length := List.length_map ..
  have hl2 := hls.2
  refine SD.nrm [some d0, none, none] rfl ?_
  have tn : ∀ (i k : Nat) (l o : Leg), ls[i]? = some l → ls[i + 1 + k]? = some o → Mi.crI ls i (i + 1 + k) = Mi.crossB l o := fun i k l o h1 h2 => by unfold Mi.crI; rw [h1, h2]
  have ai : ∀ (i k : Nat), ((i : Int) + 1 + (k : Int)) = ((i + 1 + k : Nat) : Int) := fun i k => by omega
  unfold Mi.fc
  cases e1 : (List.range ls.length).find? (fun i => (Mi.rowC ls i).isSome) with
  | none =>
    rw [List.find?_range_eq_none] at e1
    refine sd_cons (s1_for (fun _ => [some d0, none, none]) (id_range1 (i := (ls.length : Int)) m_range ((pd_lenS hq m_len (pd_var 0)).of (by rw [len]))) (Le.refl _) (fun i d hd => ?_)) ?_
    · obtain ⟨hi, rfl⟩ := rngD_get hd
      have hi' : i < ls.length := by omega
      refine ⟨_, [some d0, none, none], gd_name 1 nd, ?_, Le.refl _⟩
      refine SD.nrm [some d0, some (.int i), none] (by rw [Int.zero_add] <;> rfl) ?_
      refine SD.le (env1 := [some d0, some (.int i), none]) (sd_last (s1_for (fun _ => [some d0, some (.int i), none]) (id_range2 (i := (i : Int) + 1) (j := (ls.length : Int)) m_range (pd_add (pd_var 1) pd_int) ((pd_lenS hq m_len (pd_var 0)).of (by rw [len]))) (Le.refl _) (fun k d hd => ?_))) ⟨.inr rfl, .inl rfl, .inr rfl, trivial⟩
      obtain ⟨hk, rfl⟩ := rngD_get hd
      have hk' : i + 1 + k < ls.length := by omega
      refine ⟨_, [some d0, some (.int i), none], gd_name 2 nd, ?_, Le.refl _⟩
      refine SD.nrm [some d0, some (.int i), some (.int ((i + 1 + k : Nat) : Int))] (by rw [ai] <;> rfl) ?_
      have hL : ls[i]? = some ls[i] := List.getElem?_eq_getElem hi'
      have hO : ls[i + 1 + k]? = some ls[i + 1 + k] := List.getElem?_eq_getElem hk'
      have hnc : Mi.crossB ls[i] ls[i + 1 + k] = false := by
        rw [← tn i k _ _ hL hO]
        have := e1 i hi'
        cases hr0 : Mi.rowC ls i with
        | some _ => rw [hr0] at this; cases this
        | none =>
          unfold Mi.rowC at hr0
          rw [List.find?_range_eq_none] at hr0
          simpa using hr0 k (by omega)
      exact SD.le (sd_last (s1_ifF (PTD.of (ptd_val (pd_call c_l_do_cross hr (pad_cons (pd_ixS hq (pd_var 0) (pd_var 1) (leg_at hL)) (pad_cons (pd_ixS hq (pd_var 0) (pd_var 2) (leg_at hO)) pad_nil)) ⟨_, _, rfl, hls.1 _ (List.mem_of_getElem? hL), hls.1 _ (List.mem_of_getElem? hO), rfl⟩)) hnc) sd_nil)) ⟨.inr rfl, .inr rfl, .inl rfl, trivial⟩
    exact sd_last (s1_ret pd_non)
  | some i =>
    rw [List.find?_range_eq_some] at e1
    obtain ⟨h1, h2, h3⟩ := e1
    have hi' : i < ls.length := List.mem_range.mp h2
    have hL : ls[i]? = some ls[i] := List.getElem?_eq_getElem hi'
    show SD _ _ _ _ (Out.rt (pairD ((Mi.rowC ls i).map fun k => (i, i + 1 + k))))
    cases hr0 : Mi.rowC ls i with
    | none => rw [hr0] at h1; cases h1
    | some k =>
      have hr1 := hr0
      unfold Mi.rowC at hr1
      rw [List.find?_range_eq_some] at hr1
      obtain ⟨g1, g2, g3⟩ := hr1
      have hk := List.mem_range.mp g2
      have hk' : i + 1 + k < ls.length := by omega
      have hO : ls[i + 1 + k]? = some ls[i + 1 + k] := List.getElem?_eq_getElem hk'
      show SD _ _ _ _ (Out.rt (.tup [.int i, .int ((i + 1 + k : Nat) : Int)]))
      refine sd_stop (s1_forR (fun _ => [some d0, none, none]) i (dm := .int i) ?_ (id_range1 (i := (ls.length : Int)) m_range ((pd_lenS hq m_len (pd_var 0)).of (by rw [len]))) (Le.refl _) (fun t d ht hd => ?_) ⟨_, gd_name 1 nd, ?_⟩)
      · unfold rngD
        rw [List.getElem?_map, List.getElem?_range (by omega)]
        show some (D.int (0 + (i : Int))) = _
        rw [Int.zero_add]
      · obtain ⟨_, rfl⟩ := rngD_get hd
        have ht' : t < ls.length := by omega
        refine ⟨_, [some d0, none, none], gd_name 1 nd, ?_, Le.refl _⟩
        refine SD.nrm [some d0, some (.int t), none] (by rw [Int.zero_add] <;> rfl) ?_
        refine SD.le (env1 := [some d0, some (.int t), none]) (sd_last (s1_for (fun _ => [some d0, some (.int t), none]) (id_range2 (i := (t : Int) + 1) (j := (ls.length : Int)) m_range (pd_add (pd_var 1) pd_int) ((pd_lenS hq m_len (pd_var 0)).of (by rw [len]))) (Le.refl _) (fun q d hd => ?_))) ⟨.inr rfl, .inl rfl, .inr rfl, trivial⟩
        obtain ⟨hq0, rfl⟩ := rngD_get hd
        have hq' : t + 1 + q < ls.length := by omega
        refine ⟨_, [some d0, some (.int t), none], gd_name 2 nd, ?_, Le.refl _⟩
        refine SD.nrm [some d0, some (.int t), some (.int ((t + 1 + q : Nat) : Int))] (by rw [ai] <;> rfl) ?_
        have hL2 : ls[t]? = some ls[t] := List.getElem?_eq_getElem ht'
        have hO2 : ls[t + 1 + q]? = some ls[t + 1 + q] := List.getElem?_eq_getElem hq'
        have hnc : Mi.crossB ls[t] ls[t + 1 + q] = false := by
          rw [← tn t q _ _ hL2 hO2]
          have := h3 t ht
          cases hr2 : Mi.rowC ls t with
          | some _ => rw [hr2] at this; cases this
          | none =>
            unfold Mi.rowC at hr2
            rw [List.find?_range_eq_none] at hr2
            simpa using hr2 q (by omega)
        exact SD.le (sd_last (s1_ifF (PTD.of (ptd_val (pd_call c_l_do_cross hr (pad_cons (pd_ixS hq (pd_var 0) (pd_var 1) (leg_at hL2)) (pad_cons (pd_ixS hq (pd_var 0) (pd_var 2) (leg_at hO2)) pad_nil)) ⟨_, _, rfl, hls.1 _ (List.mem_of_getElem? hL2), hls.1 _ (List.mem_of_getElem? hO2), rfl⟩)) hnc) sd_nil)) ⟨.inr rfl, .inr rfl, .inl rfl, trivial⟩
      · refine SD.nrm [some d0, some (.int i), none] rfl ?_
        refine sd_last (s1_forR (fun _ => [some d0, some (.int i), none]) k (dm := .int ((i + 1 + k : Nat) : Int)) ?_ (id_range2 (i := (i : Int) + 1) (j := (ls.length : Int)) m_range (pd_add (pd_var 1) pd_int) ((pd_lenS hq m_len (pd_var 0)).of (by rw [len]))) (Le.refl _) (fun q d hqk hd => ?_) ⟨_, gd_name 2 nd, ?_⟩)
        · unfold rngD
          rw [List.getElem?_map, List.getElem?_range (by omega)]
          show some (D.int ((i : Int) + 1 + (k : Int))) = _
          rw [ai]
        · obtain ⟨hq0, rfl⟩ := rngD_get hd
          have hq' : i + 1 + q < ls.length := by omega
          refine ⟨_, [some d0, some (.int i), none], gd_name 2 nd, ?_, Le.refl _⟩
          refine SD.nrm [some d0, some (.int i), some (.int ((i + 1 + q : Nat) : Int))] (by rw [ai] <;> rfl) ?_
          have hO2 : ls[i + 1 + q]? = some ls[i + 1 + q] := List.getElem?_eq_getElem hq'
          have hnc : Mi.crossB ls[i] ls[i + 1 + q] = false := by
            rw [← tn i q _ _ hL hO2]
            simpa using g3 q hqk
          exact SD.le (sd_last (s1_ifF (PTD.of (ptd_val (pd_call c_l_do_cross hr (pad_cons (pd_ixS hq (pd_var 0) (pd_var 1) (leg_at hL)) (pad_cons (pd_ixS hq (pd_var 0) (pd_var 2) (leg_at hO2)) pad_nil)) ⟨_, _, rfl, hls.1 _ (List.mem_of_getElem? hL), hls.1 _ (List.mem_of_getElem? hO2), rfl⟩)) hnc) sd_nil)) ⟨.inr rfl, .inr rfl, .inl rfl, trivial⟩
        · refine SD.nrm [some d0, some (.int i), some (.int ((i + 1 + k : Nat) : Int))] rfl ?_
          have hc : Mi.crossB ls[i] ls[i + 1 + k] = true := by
            rw [← tn i k _ _ hL hO]
            exact g1
          exact sd_last (s1_ifT (PTD.of (ptd_val (pd_call c_l_do_cross hr (pad_cons (pd_ixS hq (pd_var 0) (pd_var 1) (leg_at hL)) (pad_cons (pd_ixS hq (pd_var 0) (pd_var 2) (leg_at hO)) pad_nil)) ⟨_, _, rfl, hls.1 _ (List.mem_of_getElem? hL), hls.1 _ (List.mem_of_getElem? hO), rfl⟩)) hc) (sd_last (s1_ret (pd_tup (pad_cons (pd_var 1) (pad_cons (pd_var 2) pad_nil))))))
end
end Wk
end
section
set_option Elab.async false
set_option linter.all false
set_option maxRecDepth 100000
set_option maxHeartbeats 4000000
namespace Wk
open PySem PySem.Spec PyProof.Rows L2 Fq
open Mi (Col Leg P2 pl dotQ sqAt)
theorem flat_pair (q : Option (Nat × Nat)) : Flat (pairD q) := by
  cases q with
  | none => trivial
  | some q => exact ⟨trivial, trivial, trivial⟩
section
variable {X : Cx} {M : Mu} {n : Nat} {env env' : DEnv} {cs : List D} {e tg : Expr} {pos : Pos} {d : D}
theorem sm_asg {vs : List Nat} (hn : n ∉ vs) (h : ∀ M, PD X M e env d) (hg : ∀ M, GDw X M vs tg d env env') (hs : swapsWithSole [tg] e pos.line X.env = pure false := by rfl) (hw : swappedStores [tg] e X.env = pure none := by rfl) (h1 : (assignEach [tg] X.env).map (·.2) = [assign tg X.env] := by rfl) : SM1 X M n (.Assign [tg] e pos) env cs (.nx env' cs) := fun D σ H H0 p hO k =>
  ⟨_, ps_asg we wg hs hw h1, h _ σ H hO.en _ fun v H1 e1 r1 => hg _ σ H1 v (hO.en.same e1) r1 _ fun σ2 hE2 hw2 => by
    have hO1 := hO.same e1
    have at2 : σ2[n]? = some (some (.ref p)) := by
      have h1 : (L2.wipe σ2 vs)[n]? = (L2.wipe σ vs)[n]? := by rw [hw2]
      rw [L2.wipe_out hn, L2.wipe_out hn] at h1
      rw [h1]
      exact hO1.at_
    exact k σ2 H1 ⟨hO1.s0, hO1.w0, hO1.np, hE2, at2, hO1.ls⟩⟩
end
section
variable {P : Program} {w : World} {K : PySem.W.Frag} {mg : Str → Option Value} {base : Heap}
theorem cal_l_uncrossed {f : Addr} {fd : FuncData} (F : FnP K "_law_uncrossed" s_l_uncrossed f fd) (m : mg "_law_uncrossed" = some (.ref f)) (c_l_first_crossing : Cal P w K mg base "_law_first_crossing" 2 ["_law_legs_here"] (spP K R_l_first_crossing)) (m_list : mg "list" = none) (m_range : mg "range" = none) (m_tuple : mg "tuple" = none) : Cal P w K mg base "_law_uncrossed" 3 ["_law_legs_here"] (spP K R_l_uncrossed) := by
  refine cal_of F m (F.bindsN fun _ _ _ _ _ _ us hl => match us, hl with | [_], _ => rfl) (okP F sc_l_uncrossed (fun ds d h => ?_) fun cdv A outer s H E hr M ds d hR => ?_)
  · obtain ⟨_, rfl, _⟩ := h
    rfl
  have nd := sc_l_uncrossed.nd
  obtain ⟨ls, rfl, hls, rfl⟩ := hR
  refine SD.nrm [some (lsD ls), none, none, none, none, none] rfl ?_
  refine sd_ownPar 1 2 (ds := ls.map legD) (d2 := pairD (Mi.fc ls)) (pl_listT m_list (pd_var 0)) (pd_call c_l_first_crossing hr (pad_cons (pd_var 0) pad_nil) ⟨_, ls, rfl, .inl rfl, hls, rfl⟩) (flats_leg _) (flat_pair _) nd ?_
  refine SM.nrm [some (lsD ls), none, some (pairD (Mi.fc ls)), none, none, none] rfl ?_
  refine sm_cons (sm_for (fun k => [some (lsD ls), none, some (pairD (Mi.unS ls k).2), none, none, none]) (fun k => (Mi.unS ls k).1.map legD) (vs := [3]) (by decide) (fun M => id_range1 m_range pd_int) (Le.refl _) (fun k d hd => ?_)) ?_
  · obtain ⟨_, rfl⟩ := rngD_get hd
    obtain ⟨u1, u2, _⟩ := Mi.unS_ok ls k
    have e1 : Mi.unS ls (k + 1) = Mi.unStep (Mi.unS ls k) := rfl
    rw [e1]
    generalize hs : Mi.unS ls k = st at *
    obtain ⟨cs, pr⟩ := st
    have hcs : LegsOk cs := goes_ok u1 hls
    have u2' : pr = Mi.fc cs := u2
    refine ⟨_, [some (lsD ls), none, some (pairD (Mi.unStep (cs, pr)).2), none, none, none], fun M => gdw_name 3 (by simp) nd, ?_, Le.refl _⟩
    refine SM.nrm [some (lsD ls), none, some (pairD pr), some (.int (0 + (k : Int))), none, none] rfl ?_
    cases pr with
    | none =>
      show SM _ _ _ _ _ (cs.map legD) (OutM.nx _ (cs.map legD))
      refine SM.le (sm_last (sm_if (k := false) (fun M => PTD.of (ptd_notN (pd_var 2)) rfl) (fun h => by cases h) (fun _ => sm_nil))) ⟨.inr rfl, .inr rfl, .inr rfl, .inl rfl, .inr rfl, .inr rfl, trivial⟩
    | some q =>
      obtain ⟨i, j⟩ := q
      obtain ⟨hij, l, o, hi, hj, hc⟩ := Mi.fc_some (show Mi.fc cs = some (i, j) from u2'.symm)
      have hsw := swapL_at hi hj
      have hil := (List.getElem?_eq_some_iff.mp hi).1
      have hjl := (List.getElem?_eq_some_iff.mp hj).1
      have hg : LegsOk (Mi.swapL cs i j) := goes_ok (Mi.goes_swap u1 hij hi hj) hls
      show SM _ _ _ _ _ (cs.map legD) (OutM.nx [some (lsD ls), none, some (pairD (Mi.fc (Mi.swapL cs i j))), none, none, none] ((Mi.swapL cs i j).map legD))
      have em : (Mi.swapL cs i j).map legD = ((cs.map legD).set i (legD (l.1, o.2))).set j (legD (o.1, l.2)) := by
        rw [hsw, List.map_set, List.map_set]
      refine SM.le (env1 := [some (lsD ls), none, some (pairD (Mi.fc (Mi.swapL cs i j))), some (.int (0 + (k : Int))), some (.int i), some (.int j)]) (sm_last (sm_if (k := true) (fun M => PTD.of (ptd_notN (pd_var 2)) rfl) (fun _ => ?_) (fun h => by cases h))) ?_
      · -- _law_i, _law_j = _law_pair
        refine sm_cons (sm_asg (vs := [4, 5]) (by decide) (fun M => pd_var 2) (fun M => gdw_tup (gdws_cons (gdw_name 4 (by simp) nd) (gdws_cons (gdw_name 5 (by simp) nd) gdws_nil)))) ?_
        refine SM.nrm [some (lsD ls), none, some (pairD (some (i, j))), some (.int (0 + (k : Int))), some (.int i), some (.int j)] rfl ?_
        refine sm_cons (sm_pairSet 4 5 (i := i) (j := j) (d1 := legD (l.1, o.2)) (d2 := legD (o.1, l.2)) (pd_tup (pad_cons (pd_tup (pad_cons (pd_ixT (pd_ixL (pd_var 1) (pd_var 4) (leg_at hi)) pd_int) (pad_cons (pd_ixT (pd_ixL (pd_var 1) (pd_var 5) (leg_at hj)) pd_int) pad_nil))) (pad_cons (pd_tup (pad_cons (pd_ixT (pd_ixL (pd_var 1) (pd_var 5) (leg_at hj)) pd_int) (pad_cons (pd_ixT (pd_ixL (pd_var 1) (pd_var 4) (leg_at hi)) pd_int) pad_nil))) pad_nil))) ⟨⟨trivial, trivial, trivial⟩, ⟨trivial, trivial, trivial⟩, trivial⟩ ⟨⟨trivial, trivial, trivial⟩, ⟨trivial, trivial, trivial⟩, trivial⟩ rfl rfl (by rw [List.length_map]; exact hil) (by rw [List.length_map]; exact hjl)) ?_
        rw [← em]
        exact sm_last (sm_setF 2 (pd_call c_l_first_crossing hr (pad_cons (pd_var 1) pad_nil) ⟨_, _, rfl, .inr rfl, hg, rfl⟩) (flat_pair _) nd)
      · exact ⟨.inr rfl, .inr rfl, .inr rfl, .inl rfl, .inl rfl, .inl rfl, trivial⟩
  refine sm_freeze (SD.nrm [some (lsD ls), some (.lst ((Mi.unS ls 400).1.map legD)), some (pairD (Mi.unS ls 400).2), none, none, none] rfl ?_)
  exact sd_last (s1_ret (pd_tupL m_tuple (pd_var 1)))
end
end Wk
end
section
set_option Elab.async false
set_option linter.all false
set_option maxRecDepth 100000
set_option maxHeartbeats 4000000
namespace Wk
open PySem PySem.Spec PyProof.Rows L2 Fq
open Mi (Col Leg P2 pl dotQ sqAt)
local macro_rules | `(tactic| walk_at "nz") => `(tactic| first | assumption | exact Nz.sn (by assumption) | exact Nz.sd (by assumption) | (apply Nz.mul <;> walk_at "nz") | (apply Nz.add <;> walk_at "nz") | (apply Nz.sub <;> walk_at "nz") | (apply Nz.neg <;> walk_at "nz") | exact (show Nz 20 _ by unfold Nz; decide))
local macro_rules | `(tactic| walk_at "mw") => `(tactic| (apply Nz.w; (· walk_at "nz"); (· walk_at "nz"); decide))
def lst2 (u : P2) : D := .lst [fr u.1, fr u.2]
def R_l_corners (ds ys : List D) : Prop := ∃ rho, ds = [fr rho] ∧ RhoOk rho ∧ ys = (Mi.cornersL rho).map p2D
def R_l_gap (ds ys : List D) : Prop := ∃ l o s t a b c e, ds = [legD l, legD o, fr s, fr t] ∧ LegOk l ∧ LegOk o ∧ Sz a b s ∧ Sz c e t ∧ (a ≤ 20000 ∧ c ≤ 20000 ∧ b + e ≤ 8000) ∧ ys = [fr (Mi.gap l o s t).1, fr (Mi.gap l o s t).2]
def R_l_dot (ds : List D) (d : D) : Prop := ∃ u v a b c e, ds = [lst2 u, lst2 v] ∧ (Sz a b u.1 ∧ Sz a b u.2 ∧ Sz c e v.1 ∧ Sz c e v.2) ∧ (a + b + c + e ≤ 30000 ∧ 2 * (b + e) ≤ 8900) ∧ d = fr (dotQ u v)
def R_l_are_less (ds : List D) (d : D) : Prop := ∃ p q : P2, ds = [p2D p, p2D q] ∧ (Sz 1013 1011 p.1 ∧ Sz 1013 1011 p.2) ∧ (Sz 1013 1011 q.1 ∧ Sz 1013 1011 q.2) ∧ d = .bl (Mi.ltP p q)
def R_l_on_edge (ds : List D) (d : D) : Prop := ∃ l o rho one two, ds = [legD l, legD o, p2D one, p2D two] ∧ LegOk l ∧ LegOk o ∧ RhoOk rho ∧ one ∈ Mi.ring rho ∧ two ∈ Mi.ring rho ∧ d = rowD (Mi.edgeL l o one two)
theorem eqv_fr (x y : Rat) : PyData.eqv (pyD (fr x)) (pyD (fr y)) = decide (x = y) := by
  rw [Bool.eq_iff_iff, decide_eq_true_iff]
  simp only [fr, pyD, pyDs, PyData.eqv, PyData.eqvAll, Bool.and_true, Bool.and_eq_true, beq_iff_eq]
  constructor
  · rintro ⟨e1, e2⟩
    exact Rat.ext e1 (by exact_mod_cast e2)
  · rintro rfl
    exact ⟨rfl, rfl⟩
theorem part_sz {l o : Leg} {rho : Rat} (hl : LegOk l) (ho : LegOk o) (hr : RhoOk rho) {p q : P2} (h : p ∈ Mi.ring rho) (g : q ∈ Mi.ring rho) : Sz 884 885 (Mi.partL l o p q) := by
  unfold Mi.partL
  split
  · rename_i h0
    exact share_sz hl ho hr h g h0
  · split
    · exact sz1.mono (by decide) (by decide)
    · exact sz0.mono (by decide) (by decide)
theorem clip_sz {x : Rat} {a b : Nat} (h : Sz a b x) : Sz a b (Mi.clipQ x) := by
  unfold Mi.clipQ
  split
  · exact sz0.mono (Nat.zero_le _) (Nat.zero_le _)
  · split
    · exact sz1.mono (Nat.zero_le _) (Nat.zero_le _)
    · exact h
section
variable {X : Cx} {M : Mu} {env : DEnv} {es : List Expr} {pos p p1 p2 : Pos} {n : Nat} {a0 : Expr} {l o : Leg} {s t : Rat} {u v : P2} {k k1 k2 : Nat}
theorem pd_k0 : PD X M (.Tuple [.Constant (.int 0) k1 p1, .Constant (.int 1) k2 p2] k pos) env (fr 0) := (pd_tup (pad_cons pd_int (pad_cons pd_int pad_nil))).of rfl
theorem pd_k1 : PD X M (.Tuple [.Constant (.int 1) k1 p1, .Constant (.int 1) k2 p2] k pos) env (fr 1) := (pd_tup (pad_cons pd_int (pad_cons pd_int pad_nil))).of rfl
theorem k_l_gap (C : Cal X.prog X.w X.K X.mg X.base "_law_gap" 3 ["_law_leg", "_law_other", "_law_s", "_law_t"] (spL X.K R_l_gap)) (hr : Room n X.A) (ha : PAD X M (a0 :: es) env [legD l, legD o, fr s, fr t]) (h : SzP l o s t) (hk : 3 ≤ n := by decide) (hg : Gl X "_law_gap" := by rfl) (he : starEach (a0 :: es) X.env = (false, eval a0 X.env) :: starEach es X.env := by rfl) (hpl : (backTo pos (starEach es X.env)).any (·.1) = false := by rfl) : PD X M (.Call (.Name "_law_gap" p) (a0 :: es) [] pos) env (lst2 (Mi.gap l o s t)) :=
  (pl_call C hr ha (let ⟨h0, h1, a, b, c, e, h2, h3, h4⟩ := h; ⟨l, o, s, t, a, b, c, e, rfl, h0, h1, h2, h3, h4, rfl⟩) hk hg (by decide) he hpl).pd
theorem k_l_dot (C : Cal X.prog X.w X.K X.mg X.base "_law_dot" 3 ["_law_one", "_law_other"] (spP X.K R_l_dot)) (hr : Room n X.A) (ha : PAD X M (a0 :: es) env [lst2 u, lst2 v]) (h : SzDot u v) (hk : 3 ≤ n := by decide) (hg : Gl X "_law_dot" := by rfl) (he : starEach (a0 :: es) X.env = (false, eval a0 X.env) :: starEach es X.env := by rfl) (hpl : (backTo pos (starEach es X.env)).any (·.1) = false := by rfl) : PD X M (.Call (.Name "_law_dot" p) (a0 :: es) [] pos) env (fr (dotQ u v)) :=
  pd_call C hr ha (let ⟨a, b, c, e, h1, h2⟩ := h; ⟨u, v, a, b, c, e, rfl, h1, h2, rfl⟩) hk hg (by decide) he hpl
theorem k_l_gap_squared (C : Cal X.prog X.w X.K X.mg X.base "_law_gap_squared" 4 ["_law_leg", "_law_other", "_law_s", "_law_t"] (spP X.K R_squared_at)) (hr : Room n X.A) (ha : PAD X M (a0 :: es) env [legD l, legD o, fr s, fr t]) (h : SzAt l o s t) (hk : 4 ≤ n := by decide) (hg : Gl X "_law_gap_squared" := by rfl) (he : starEach (a0 :: es) X.env = (false, eval a0 X.env) :: starEach es X.env := by rfl) (hpl : (backTo pos (starEach es X.env)).any (·.1) = false := by rfl) : PD X M (.Call (.Name "_law_gap_squared" p) (a0 :: es) [] pos) env (fr (sqAt l o (s, t))) :=
  pd_call C hr ha (let ⟨h0, h1, a, b, c, e, h2, h3, h4⟩ := h; ⟨l, o, s, t, a, b, c, e, rfl, h0, h1, h2, h3, h4, rfl⟩) hk hg (by decide) he hpl
theorem k_l_are_less (C : Cal X.prog X.w X.K X.mg X.base "_law_are_less" 2 ["_law_one", "_law_other"] (spP X.K R_l_are_less)) (hr : Room n X.A) (ha : PAD X M (a0 :: es) env [p2D u, p2D v]) (h : (Sz 1013 1011 u.1 ∧ Sz 1013 1011 u.2) ∧ Sz 1013 1011 v.1 ∧ Sz 1013 1011 v.2) (hk : 2 ≤ n := by decide) (hg : Gl X "_law_are_less" := by rfl) (he : starEach (a0 :: es) X.env = (false, eval a0 X.env) :: starEach es X.env := by rfl) (hpl : (backTo pos (starEach es X.env)).any (·.1) = false := by rfl) : PD X M (.Call (.Name "_law_are_less" p) (a0 :: es) [] pos) env (.bl (Mi.ltP u v)) :=
  pd_call C hr ha ⟨u, v, rfl, h.1, h.2, rfl⟩ hk hg (by decide) he hpl
end
section
variable {P : Program} {w : World} {K : PySem.W.Frag} {mg : Str → Option Value} {base : Heap}
theorem cal_l_corners {f : Addr} {fd : FuncData} (F : FnP K "_law_corners" s_l_corners f fd) (m : mg "_law_corners" = some (.ref f)) (c_l_lessened : Cal P w K mg base "_law_lessened" 2 ["_law_x", "_law_y"] (spP K R_lessened))  : Cal P w K mg base "_law_corners" 3 ["_law_rho_here"] (spL K R_l_corners) := by
  refine cal_of F m (F.bindsN fun _ _ _ _ _ _ us hl => match us, hl with | [_], _ => rfl) (okL' F sc_l_corners (fun ds d h => ?_) fun cdv A outer s H E hr M ds d hR => ?_)
  · obtain ⟨_, rfl, _⟩ := h
    rfl
  have nd := sc_l_corners.nd
  obtain ⟨rho, rfl, ⟨hs, h0, h1⟩, rfl⟩ := hR
  refine rl_cons (s1_set 1 (k_l_lessened (x := 1) c_l_lessened hr (pad_cons pd_k1 (pad_cons (pd_var 0) pad_nil)) ⟨_, _, _, _, sz1, hs, by decide⟩) nd) ?_
  refine RL.nrm [some (fr rho), some (fr (1 - rho))] rfl ?_
  exact rl_ret (pl_lst (pad_cons (pd_tup (pad_cons pd_k0 (pad_cons pd_k0 pad_nil))) (pad_cons (pd_tup (pad_cons (pd_var 0) (pad_cons pd_k0 pad_nil))) (pad_cons (pd_tup (pad_cons pd_k1 (pad_cons (pd_var 1) pad_nil))) (pad_cons (pd_tup (pad_cons pd_k1 (pad_cons pd_k1 pad_nil))) (pad_cons (pd_tup (pad_cons (pd_var 1) (pad_cons pd_k1 pad_nil))) (pad_cons (pd_tup (pad_cons pd_k0 (pad_cons (pd_var 0) pad_nil))) pad_nil)))))) (show 6 ≤ 1000 by decide))
theorem cal_l_gap {f : Addr} {fd : FuncData} (F : FnP K "_law_gap" s_l_gap f fd) (m : mg "_law_gap" = some (.ref f)) (c_l_added : Cal P w K mg base "_law_added" 2 ["_law_x", "_law_y"] (spP K R_added)) (c_l_multiplied : Cal P w K mg base "_law_multiplied" 2 ["_law_x", "_law_y"] (spP K R_times)) (c_l_lessened : Cal P w K mg base "_law_lessened" 2 ["_law_x", "_law_y"] (spP K R_lessened))  : Cal P w K mg base "_law_gap" 3 ["_law_leg", "_law_other", "_law_s", "_law_t"] (spL K R_l_gap) := by
  refine cal_of F m (F.bindsN fun _ _ _ _ _ _ us hl => match us, hl with | [_, _, _, _], _ => rfl) (okL' F sc_l_gap (fun ds d h => ?_) fun cdv A outer s H E hr M ds d hR => ?_)
  · obtain ⟨_, _, _, _, _, _, _, _, rfl, _⟩ := h
    rfl
  have nd := sc_l_gap.nd
  obtain ⟨l, o, q, r, a, b, c, e, rfl, hl, ho, hq, ht, ⟨h1, h2, h3⟩, rfl⟩ := hR
  have l1 := hl.2.1.sub hl.1.1
  have l2 := hl.2.2.sub hl.1.2
  have o1 := ho.2.1.sub ho.1.1
  have o2 := ho.2.2.sub ho.1.2
  refine rl_own 4 (pl_lst pad_nil (Nat.zero_le _)) trivial nd ?_
  refine SML.nrm [some (legD l), some (legD o), some (fr q), some (fr r), none, none, none, none] rfl ?_
  refine sml_cons (sm_for (fun k => [some (legD l), some (legD o), some (fr q), some (fr r), none, none, none, none]) (fun k => [fr (Mi.gap l o q r).1, fr (Mi.gap l o q r).2].take k) (vs := [5]) (by decide) (fun M => id_tupD (ds := [.int 0, .int 1]) (pad_cons pd_int (pad_cons pd_int pad_nil))) (Le.refl _) (fun k d hd => ?_)) ?_
  · have wk : ∀ x y z : Option D, Le [some (legD l), some (legD o), some (fr q), some (fr r), none, x, y, z] [some (legD l), some (legD o), some (fr q), some (fr r), none, none, none, none] := fun x y z => ⟨.inr rfl, .inr rfl, .inr rfl, .inr rfl, .inr rfl, .inl rfl, .inl rfl, .inl rfl, trivial⟩
    rcases k with _ | _ | k
    · have ed : d = .int 0 := by simpa using hd.symm
      subst ed
      refine ⟨_, [some (legD l), some (legD o), some (fr q), some (fr r), none, some (.int 0), some (fr (pl l.1.1 l.2.1 q)), some (fr (pl o.1.1 o.2.1 r))], fun M => gdw_name 5 (by simp) nd, ?_, wk _ _ _⟩
      refine SM.nrm [some (legD l), some (legD o), some (fr q), some (fr r), none, some (.int 0), none, none] rfl ?_
      refine sm_cons (sm_set 6 (fun M => k_l_added (x := (l.1.1 : Rat)) (y := q * ((l.2.1 - l.1.1 : Int) : Rat)) c_l_added hr (pad_cons (pd_frI (pd_ixT (pd_ixT (pd_var 0) pd_int) (pd_var 5))) (pad_cons (k_l_multiplied (x := q) c_l_multiplied hr (pad_cons (pd_var 2) (pad_cons (pd_frI (pd_sub (pd_ixT (pd_ixT (pd_var 0) pd_int) (pd_var 5)) (pd_ixT (pd_ixT (pd_var 0) pd_int) (pd_var 5)))) pad_nil)) ?_) pad_nil)) ?_) nd) ?_
      · exact ⟨_, _, _, _, hq, sz_nz l1, by omega⟩
      · exact ⟨_, _, _, _, sz_nz hl.1.1, hq.mul (sz_nz l1), by omega⟩
      refine SM.nrm [some (legD l), some (legD o), some (fr q), some (fr r), none, some (.int 0), some (fr (pl l.1.1 l.2.1 q)), none] rfl ?_
      refine sm_cons (sm_set 7 (fun M => k_l_added (x := (o.1.1 : Rat)) (y := r * ((o.2.1 - o.1.1 : Int) : Rat)) c_l_added hr (pad_cons (pd_frI (pd_ixT (pd_ixT (pd_var 1) pd_int) (pd_var 5))) (pad_cons (k_l_multiplied (x := r) c_l_multiplied hr (pad_cons (pd_var 3) (pad_cons (pd_frI (pd_sub (pd_ixT (pd_ixT (pd_var 1) pd_int) (pd_var 5)) (pd_ixT (pd_ixT (pd_var 1) pd_int) (pd_var 5)))) pad_nil)) ?_) pad_nil)) ?_) nd) ?_
      · exact ⟨_, _, _, _, ht, sz_nz o1, by omega⟩
      · exact ⟨_, _, _, _, sz_nz ho.1.1, ht.mul (sz_nz o1), by omega⟩
      refine SM.nrm [some (legD l), some (legD o), some (fr q), some (fr r), none, some (.int 0), some (fr (pl l.1.1 l.2.1 q)), some (fr (pl o.1.1 o.2.1 r))] rfl ?_
      exact sm_last (sm_app (fun M => k_l_lessened (x := pl o.1.1 o.2.1 r) (y := pl l.1.1 l.2.1 q) c_l_lessened hr (pad_cons (pd_var 7) (pad_cons (pd_var 6) pad_nil)) ⟨_, _, _, _, pl_sz ho.1.1 ho.2.1 ht, pl_sz hl.1.1 hl.2.1 hq, by omega⟩) (Nat.zero_le _))
    · have ed : d = .int 1 := by simpa using hd.symm
      subst ed
      refine ⟨_, [some (legD l), some (legD o), some (fr q), some (fr r), none, some (.int 1), some (fr (pl l.1.2 l.2.2 q)), some (fr (pl o.1.2 o.2.2 r))], fun M => gdw_name 5 (by simp) nd, ?_, wk _ _ _⟩
      refine SM.nrm [some (legD l), some (legD o), some (fr q), some (fr r), none, some (.int 1), none, none] rfl ?_
      refine sm_cons (sm_set 6 (fun M => k_l_added (x := (l.1.2 : Rat)) (y := q * ((l.2.2 - l.1.2 : Int) : Rat)) c_l_added hr (pad_cons (pd_frI (pd_ixT (pd_ixT (pd_var 0) pd_int) (pd_var 5))) (pad_cons (k_l_multiplied (x := q) c_l_multiplied hr (pad_cons (pd_var 2) (pad_cons (pd_frI (pd_sub (pd_ixT (pd_ixT (pd_var 0) pd_int) (pd_var 5)) (pd_ixT (pd_ixT (pd_var 0) pd_int) (pd_var 5)))) pad_nil)) ?_) pad_nil)) ?_) nd) ?_
      · exact ⟨_, _, _, _, hq, sz_nz l2, by omega⟩
      · exact ⟨_, _, _, _, sz_nz hl.1.2, hq.mul (sz_nz l2), by omega⟩
      refine SM.nrm [some (legD l), some (legD o), some (fr q), some (fr r), none, some (.int 1), some (fr (pl l.1.2 l.2.2 q)), none] rfl ?_
      refine sm_cons (sm_set 7 (fun M => k_l_added (x := (o.1.2 : Rat)) (y := r * ((o.2.2 - o.1.2 : Int) : Rat)) c_l_added hr (pad_cons (pd_frI (pd_ixT (pd_ixT (pd_var 1) pd_int) (pd_var 5))) (pad_cons (k_l_multiplied (x := r) c_l_multiplied hr (pad_cons (pd_var 3) (pad_cons (pd_frI (pd_sub (pd_ixT (pd_ixT (pd_var 1) pd_int) (pd_var 5)) (pd_ixT (pd_ixT (pd_var 1) pd_int) (pd_var 5)))) pad_nil)) ?_) pad_nil)) ?_) nd) ?_
      · exact ⟨_, _, _, _, ht, sz_nz o2, by omega⟩
      · exact ⟨_, _, _, _, sz_nz ho.1.2, ht.mul (sz_nz o2), by omega⟩
      refine SM.nrm [some (legD l), some (legD o), some (fr q), some (fr r), none, some (.int 1), some (fr (pl l.1.2 l.2.2 q)), some (fr (pl o.1.2 o.2.2 r))] rfl ?_
      exact sm_last (sm_app (fun M => k_l_lessened (x := pl o.1.2 o.2.2 r) (y := pl l.1.2 l.2.2 q) c_l_lessened hr (pad_cons (pd_var 7) (pad_cons (pd_var 6) pad_nil)) ⟨_, _, _, _, pl_sz ho.1.2 ho.2.2 ht, pl_sz hl.1.2 hl.2.2 hq, by omega⟩) (show 1 ≤ 1000 by decide))
    · simp at hd
  exact sml_ret
theorem cal_l_dot {f : Addr} {fd : FuncData} (F : FnP K "_law_dot" s_l_dot f fd) (m : mg "_law_dot" = some (.ref f)) (c_l_added : Cal P w K mg base "_law_added" 2 ["_law_x", "_law_y"] (spP K R_added)) (c_l_multiplied : Cal P w K mg base "_law_multiplied" 2 ["_law_x", "_law_y"] (spP K R_times))  : Cal P w K mg base "_law_dot" 3 ["_law_one", "_law_other"] (spP K R_l_dot) := by
  refine cal_of F m (F.bindsN fun _ _ _ _ _ _ us hl => match us, hl with | [_, _], _ => rfl) (okP F sc_l_dot (fun ds d h => ?_) fun cdv A outer s H E hr M ds d hR => ?_)
  · obtain ⟨_, _, _, _, _, _, rfl, _⟩ := h
    rfl
  have nd := sc_l_dot.nd
  obtain ⟨u, v, a, b, c, e, rfl, ⟨u1, u2, v1, v2⟩, ⟨h1, h2⟩, rfl⟩ := hR
  refine sd_last (s1_ret (k_l_added (x := u.1 * v.1) (y := u.2 * v.2) c_l_added hr (pad_cons (k_l_multiplied (x := u.1) (y := v.1) c_l_multiplied hr (pad_cons (pd_ixL (pd_var 0) pd_int) (pad_cons (pd_ixL (pd_var 1) pd_int) pad_nil)) ?_) (pad_cons (k_l_multiplied (x := u.2) (y := v.2) c_l_multiplied hr (pad_cons (pd_ixL (pd_var 0) pd_int) (pad_cons (pd_ixL (pd_var 1) pd_int) pad_nil)) ?_) pad_nil)) ?_))
  · exact ⟨_, _, _, _, u1, v1, by omega⟩
  · exact ⟨_, _, _, _, u2, v2, by omega⟩
  · exact ⟨_, _, _, _, u1.mul v1, u2.mul v2, by omega⟩
theorem cal_l_gap_squared {f : Addr} {fd : FuncData} (F : FnP K "_law_gap_squared" s_l_gap_squared f fd) (m : mg "_law_gap_squared" = some (.ref f)) (c_l_gap : Cal P w K mg base "_law_gap" 3 ["_law_leg", "_law_other", "_law_s", "_law_t"] (spL K R_l_gap)) (c_l_dot : Cal P w K mg base "_law_dot" 3 ["_law_one", "_law_other"] (spP K R_l_dot))  : Cal P w K mg base "_law_gap_squared" 4 ["_law_leg", "_law_other", "_law_s", "_law_t"] (spP K R_squared_at) := by
  refine cal_of F m (F.bindsN fun _ _ _ _ _ _ us hl => match us, hl with | [_, _, _, _], _ => rfl) (okP F sc_l_gap_squared (fun ds d h => ?_) fun cdv A outer s H E hr M ds d hR => ?_)
  · obtain ⟨_, _, _, _, _, _, _, _, rfl, _⟩ := h
    rfl
  have nd := sc_l_gap_squared.nd
  obtain ⟨l, o, q, r, a, b, c, e, rfl, hl, ho, hq, ht, ⟨h1, h2⟩, rfl⟩ := hR
  obtain ⟨g1, g2⟩ := gap_sz hl ho hq ht
  refine sd_cons (s1_set 4 (k_l_gap (l := l) (o := o) (s := q) (t := r) c_l_gap hr (pad_cons (pd_var 0) (pad_cons (pd_var 1) (pad_cons (pd_var 2) (pad_cons (pd_var 3) pad_nil)))) ⟨hl, ho, _, _, _, _, hq, ht, by omega⟩) nd) ?_
  refine SD.nrm [some (legD l), some (legD o), some (fr q), some (fr r), some (lst2 (Mi.gap l o q r))] rfl ?_
  exact sd_last (s1_ret (k_l_dot (u := Mi.gap l o q r) (v := Mi.gap l o q r) c_l_dot hr (pad_cons (pd_var 4) (pad_cons (pd_var 4) pad_nil)) ⟨_, _, _, _, ⟨g1, g2, g1, g2⟩, by omega⟩))
theorem cal_l_are_less {f : Addr} {fd : FuncData} (F : FnP K "_law_are_less" s_l_are_less f fd) (m : mg "_law_are_less" = some (.ref f)) (c_l_is_below : Cal P w K mg base "_law_is_below" 1 ["_law_x", "_law_y"] (spP K R_l_is_below))  : Cal P w K mg base "_law_are_less" 2 ["_law_one", "_law_other"] (spP K R_l_are_less) := by
  refine cal_of F m (F.bindsN fun _ _ _ _ _ _ us hl => match us, hl with | [_, _], _ => rfl) (okP F sc_l_are_less (fun ds d h => ?_) fun cdv A outer s H E hr M ds d hR => ?_)
  · obtain ⟨_, _, rfl, _⟩ := h
    rfl
  have nd := sc_l_are_less.nd
  obtain ⟨p, q, rfl, ⟨p1, p2⟩, ⟨q1, q2⟩, rfl⟩ := hR
  have ht : ∀ (X : Cx) (k : Bool), (!decide (p.1 = q.1)) = k → (!PyData.eqv (pyD (fr p.1)) (pyD (fr q.1))) = k := fun X k h => by rw [eqv_fr]; exact h
  by_cases he : p.1 = q.1
  · rw [show Mi.ltP p q = decide (p.2 < q.2) from if_pos he]
    refine sd_cons (s1_ifF (PTD.of (ptd_neD hr (d1 := fr p.1) (d2 := fr q.1) (pd_ixT (pd_var 0) pd_int) (pd_ixT (pd_var 1) pd_int) rfl rfl) (by rw [eqv_fr, decide_eq_true he] <;> rfl)) sd_nil) ?_
    exact sd_last (s1_ret (k_l_is_below (x := p.2) (y := q.2) c_l_is_below hr (pad_cons (pd_ixT (pd_var 0) pd_int) (pad_cons (pd_ixT (pd_var 1) pd_int) pad_nil)) ⟨_, _, _, _, p2, q2, by decide⟩))
  · rw [show Mi.ltP p q = decide (p.1 < q.1) from if_neg he]
    exact sd_stop (s1_ifT (PTD.of (ptd_neD hr (d1 := fr p.1) (d2 := fr q.1) (pd_ixT (pd_var 0) pd_int) (pd_ixT (pd_var 1) pd_int) rfl rfl) (by rw [eqv_fr, decide_eq_false he] <;> rfl)) (sd_last (s1_ret (k_l_is_below (x := p.1) (y := q.1) c_l_is_below hr (pad_cons (pd_ixT (pd_var 0) pd_int) (pad_cons (pd_ixT (pd_var 1) pd_int) pad_nil)) ⟨_, _, _, _, p1, q1, by decide⟩))))
theorem num0 (x : Rat) : (x.num = 0) = (x = 0) := by
  rw [Rat.num_eq_zero]
theorem numneg (x : Rat) : decide (x.num < 0) = decide (x < 0) := by
  have := Rat.lt_iff x 0
  rw [decide_eq_decide, this]
  show _ ↔ x.num * ((0 : Rat).den : Int) < (0 : Rat).num * (x.den : Int)
  rw [show (0 : Rat).num = 0 from rfl, show (0 : Rat).den = 1 from rfl]
  omega
theorem cal_l_on_edge {f : Addr} {fd : FuncData} (F : FnP K "_law_on_edge" s_l_on_edge f fd) (m : mg "_law_on_edge" = some (.ref f)) (c_l_added : Cal P w K mg base "_law_added" 2 ["_law_x", "_law_y"] (spP K R_added)) (c_l_gap : Cal P w K mg base "_law_gap" 3 ["_law_leg", "_law_other", "_law_s", "_law_t"] (spL K R_l_gap)) (c_l_lessened : Cal P w K mg base "_law_lessened" 2 ["_law_x", "_law_y"] (spP K R_lessened)) (c_l_dot : Cal P w K mg base "_law_dot" 3 ["_law_one", "_law_other"] (spP K R_l_dot)) (c_l_divided : Cal P w K mg base "_law_divided" 2 ["_law_x", "_law_y"] (spP K R_over)) (c_l_are_less : Cal P w K mg base "_law_are_less" 2 ["_law_one", "_law_other"] (spP K R_l_are_less)) (c_l_multiplied : Cal P w K mg base "_law_multiplied" 2 ["_law_x", "_law_y"] (spP K R_times)) (c_l_gap_squared : Cal P w K mg base "_law_gap_squared" 4 ["_law_leg", "_law_other", "_law_s", "_law_t"] (spP K R_squared_at)) (c_l_is_below : Cal P w K mg base "_law_is_below" 1 ["_law_x", "_law_y"] (spP K R_l_is_below))  : Cal P w K mg base "_law_on_edge" 5 ["_law_leg", "_law_other", "_law_one", "_law_two"] (spP K R_l_on_edge) := by
  refine cal_of F m (F.bindsN fun _ _ _ _ _ _ us hl => match us, hl with | [_, _, _, _], _ => rfl) (okP F sc_l_on_edge (fun ds d h => ?_) fun cdv A outer s H E hr M ds d hR => ?_)
  · obtain ⟨_, _, _, _, _, rfl, _⟩ := h
    rfl
  have nd := sc_l_on_edge.nd
  obtain ⟨l, o, rho, one, two, rfl, hl, ho, hrho, h1, h2, rfl⟩ := hR
  obtain ⟨s1, s2⟩ := ring_sz hrho h1
  obtain ⟨s3, s4⟩ := ring_sz hrho h2
  obtain ⟨g1, g2⟩ := corner_sz hl ho hrho h1
  obtain ⟨g3, g4⟩ := corner_sz hl ho hrho h2
  obtain ⟨a1, a2⟩ := along_sz hl ho hrho h1 h2
  have dz := dot_sz a1 a2 a1 a2
  have fz := dot_sz g1 g2 a1 a2
  refine sd_cons (s1_par 4 5 (k_l_gap (l := l) (o := o) (s := one.1) (t := one.2) c_l_gap hr (pad_cons (pd_var 0) (pad_cons (pd_var 1) (pad_cons (pd_ixT (pd_var 2) pd_int) (pad_cons (pd_ixT (pd_var 2) pd_int) pad_nil)))) ⟨hl, ho, _, _, _, _, s1, s2, by decide⟩) (k_l_gap (l := l) (o := o) (s := two.1) (t := two.2) c_l_gap hr (pad_cons (pd_var 0) (pad_cons (pd_var 1) (pad_cons (pd_ixT (pd_var 3) pd_int) (pad_cons (pd_ixT (pd_var 3) pd_int) pad_nil)))) ⟨hl, ho, _, _, _, _, s3, s4, by decide⟩) nd) ?_
  refine SD.nrm [some (legD l), some (legD o), some (p2D one), some (p2D two), some (lst2 (Mi.gap l o one.1 one.2)), some (lst2 (Mi.gap l o two.1 two.2)), none, none, none, none, none] rfl ?_
  refine sd_cons (s1_set 6 (d := lst2 (Mi.along l o one two)) (pl_lst (pad_cons (k_l_lessened (x := (Mi.gap l o two.1 two.2).1) (y := (Mi.gap l o one.1 one.2).1) c_l_lessened hr (pad_cons (pd_ixL (pd_var 5) pd_int) (pad_cons (pd_ixL (pd_var 4) pd_int) pad_nil)) ⟨_, _, _, _, g3, g1, by decide⟩) (pad_cons (k_l_lessened (x := (Mi.gap l o two.1 two.2).2) (y := (Mi.gap l o one.1 one.2).2) c_l_lessened hr (pad_cons (pd_ixL (pd_var 5) pd_int) (pad_cons (pd_ixL (pd_var 4) pd_int) pad_nil)) ⟨_, _, _, _, g4, g2, by decide⟩) pad_nil)) (show 2 ≤ 1000 by decide)).pd nd) ?_
  refine SD.nrm [some (legD l), some (legD o), some (p2D one), some (p2D two), some (lst2 (Mi.gap l o one.1 one.2)), some (lst2 (Mi.gap l o two.1 two.2)), some (lst2 (Mi.along l o one two)), none, none, none, none] rfl ?_
  refine sd_cons (s1_par 7 8 (k_l_dot (u := Mi.along l o one two) (v := Mi.along l o one two) c_l_dot hr (pad_cons (pd_var 6) (pad_cons (pd_var 6) pad_nil)) ⟨_, _, _, _, ⟨a1, a2, a1, a2⟩, by decide⟩) pd_k0 nd) ?_
  refine SD.nrm [some (legD l), some (legD o), some (p2D one), some (p2D two), some (lst2 (Mi.gap l o one.1 one.2)), some (lst2 (Mi.gap l o two.1 two.2)), some (lst2 (Mi.along l o one two)), some (fr (dotQ (Mi.along l o one two) (Mi.along l o one two))), some (fr 0), none, none] rfl ?_
  refine SD.pre (env' := [some (legD l), some (legD o), some (p2D one), some (p2D two), some (lst2 (Mi.gap l o one.1 one.2)), none, some (lst2 (Mi.along l o one two)), some (fr (dotQ (Mi.along l o one two) (Mi.along l o one two))), some (fr 0), none, none]) ?_ ⟨.inr rfl, .inr rfl, .inr rfl, .inr rfl, .inr rfl, .inl rfl, .inr rfl, .inr rfl, .inr rfl, .inr rfl, .inr rfl, trivial⟩
  refine sd_cons (env1 := [some (legD l), some (legD o), some (p2D one), some (p2D two), none, none, none, none, some (fr (Mi.partL l o one two)), none, none]) ?_ ?_
  · have wk : ∀ x : D, Le [some (legD l), some (legD o), some (p2D one), some (p2D two), some (lst2 (Mi.gap l o one.1 one.2)), none, some (lst2 (Mi.along l o one two)), some (fr (dotQ (Mi.along l o one two) (Mi.along l o one two))), some x, none, none] [some (legD l), some (legD o), some (p2D one), some (p2D two), none, none, none, none, some x, none, none] := fun x => ⟨.inr rfl, .inr rfl, .inr rfl, .inr rfl, .inl rfl, .inl rfl, .inl rfl, .inl rfl, .inr rfl, .inr rfl, .inr rfl, trivial⟩
    by_cases h0 : dotQ (Mi.along l o one two) (Mi.along l o one two) = 0
    · have hn : (dotQ (Mi.along l o one two) (Mi.along l o one two)).num = 0 := Rat.num_eq_zero.mpr h0
      by_cases hlt : Mi.ltP two one = true
      · rw [show Mi.partL l o one two = 1 by unfold Mi.partL; rw [if_neg (fun z => z h0), if_pos hlt]]
        exact S1.le (s1_ifF (PTD.of (ptd_neI (pd_ixT (pd_var 7) pd_int) pd_int) (by rw [decide_eq_true hn] <;> rfl)) (sd_last (s1_ifT (PTD.of (ptd_val (k_l_are_less (u := two) (v := one) c_l_are_less hr (pad_cons (pd_var 3) (pad_cons (pd_var 2) pad_nil)) ⟨⟨s3.mono (by decide) (by decide), s4.mono (by decide) (by decide)⟩, s1.mono (by decide) (by decide), s2.mono (by decide) (by decide)⟩)) hlt) (sd_last (s1_set 8 pd_k1 nd))))) (wk _)
      · have hf : Mi.ltP two one = false := by simpa using hlt
        rw [show Mi.partL l o one two = 0 by unfold Mi.partL; rw [if_neg (fun z => z h0), if_neg hlt]]
        exact S1.le (s1_ifF (PTD.of (ptd_neI (pd_ixT (pd_var 7) pd_int) pd_int) (by rw [decide_eq_true hn] <;> rfl)) (sd_last (s1_ifF (PTD.of (ptd_val (k_l_are_less (u := two) (v := one) c_l_are_less hr (pad_cons (pd_var 3) (pad_cons (pd_var 2) pad_nil)) ⟨⟨s3.mono (by decide) (by decide), s4.mono (by decide) (by decide)⟩, s1.mono (by decide) (by decide), s2.mono (by decide) (by decide)⟩)) hf) sd_nil))) (wk _)
    · have hn : (dotQ (Mi.along l o one two) (Mi.along l o one two)).num ≠ 0 := fun z => h0 (Rat.num_eq_zero.mp z)
      rw [show Mi.partL l o one two = Mi.share l o one two by unfold Mi.partL; rw [if_pos h0]]
      refine S1.le (s1_ifT (PTD.of (ptd_neI (pd_ixT (pd_var 7) pd_int) pd_int) (by rw [decide_eq_false hn] <;> rfl)) (sd_last (s1_set 8 (d := fr (Mi.share l o one two)) (k_l_divided (x := ((-1 : Int) : Rat) * dotQ (Mi.gap l o one.1 one.2) (Mi.along l o one two)) (y := dotQ (Mi.along l o one two) (Mi.along l o one two)) c_l_divided hr (pad_cons (k_l_multiplied (x := ((-1 : Int) : Rat)) (y := dotQ (Mi.gap l o one.1 one.2) (Mi.along l o one two)) c_l_multiplied hr (pad_cons (pd_frI (pd_neg pd_int)) (pad_cons (k_l_dot (u := Mi.gap l o one.1 one.2) (v := Mi.along l o one two) c_l_dot hr (pad_cons (pd_var 4) (pad_cons (pd_var 6) pad_nil)) ?_) pad_nil)) ?_) (pad_cons (pd_var 7) pad_nil)) ?_) nd))) (wk _)
      · exact ⟨_, _, _, _, ⟨g1, g2, a1, a2⟩, by decide⟩
      · exact ⟨_, _, _, _, sz_nz (a := 1) (by unfold Nz; decide), fz, by decide⟩
      · exact ⟨h0, _, _, _, _, (sz_nz (a := 1) (i := -1) (by unfold Nz; decide)).mul fz, dz, by decide⟩
  have pz := part_sz hl ho hrho h1 h2
  generalize hx : Mi.partL l o one two = x at pz
  refine sd_cons (s1_set 8 (d := fr (Mi.clipQ x)) (pd_ifT (k := decide (x < 0)) (PTD.of (ptd_lt (pd_ixT (pd_var 8) pd_int) pd_int) (numneg x)) (fun h => (pd_k0).of ?_) (fun h => (pd_ifT (k := decide (1 < x)) (ptd_val (k_l_is_below (x := 1) (y := x) c_l_is_below hr (pad_cons pd_k1 (pad_cons (pd_var 8) pad_nil)) ⟨_, _, _, _, sz1, pz, by decide⟩)) (fun g => (pd_k1).of ?_) (fun g => (pd_var 8).of ?_)))) nd) ?_
  · unfold Mi.clipQ
    rw [if_pos (of_decide_eq_true h)]
  · unfold Mi.clipQ
    rw [if_neg (of_decide_eq_false h), if_pos (of_decide_eq_true g)]
  · unfold Mi.clipQ
    rw [if_neg (of_decide_eq_false h), if_neg (of_decide_eq_false g)]
  have cz := clip_sz pz
  refine SD.nrm [some (legD l), some (legD o), some (p2D one), some (p2D two), none, none, none, none, some (fr (Mi.clipQ x)), none, none] rfl ?_
  have er : Mi.edgeL l o one two = Mi.rowOf l o (Mi.onSeg one two (Mi.clipQ x)) := by unfold Mi.edgeL; rw [hx]
  rw [er]
  generalize Mi.clipQ x = c at cz
  obtain ⟨z1, z2⟩ := seg_sz hrho h1 h2 cz
  refine sd_cons (s1_set 9 (d := fr (Mi.onSeg one two c).1) (k_l_added (x := one.1) (y := c * (two.1 - one.1)) c_l_added hr (pad_cons (pd_ixT (pd_var 2) pd_int) (pad_cons (k_l_multiplied (x := c) (y := two.1 - one.1) c_l_multiplied hr (pad_cons (pd_var 8) (pad_cons (k_l_lessened (x := two.1) (y := one.1) c_l_lessened hr (pad_cons (pd_ixT (pd_var 3) pd_int) (pad_cons (pd_ixT (pd_var 2) pd_int) pad_nil)) ?_) pad_nil)) ?_) pad_nil)) ?_) nd) ?_
  · exact ⟨_, _, _, _, s3, s1, by decide⟩
  · exact ⟨_, _, _, _, cz, s3.sub s1, by decide⟩
  · exact ⟨_, _, _, _, s1, cz.mul (s3.sub s1), by decide⟩
  refine SD.nrm [some (legD l), some (legD o), some (p2D one), some (p2D two), none, none, none, none, some (fr c), some (fr (Mi.onSeg one two c).1), none] rfl ?_
  refine sd_cons (s1_set 10 (d := fr (Mi.onSeg one two c).2) (k_l_added (x := one.2) (y := c * (two.2 - one.2)) c_l_added hr (pad_cons (pd_ixT (pd_var 2) pd_int) (pad_cons (k_l_multiplied (x := c) (y := two.2 - one.2) c_l_multiplied hr (pad_cons (pd_var 8) (pad_cons (k_l_lessened (x := two.2) (y := one.2) c_l_lessened hr (pad_cons (pd_ixT (pd_var 3) pd_int) (pad_cons (pd_ixT (pd_var 2) pd_int) pad_nil)) ?_) pad_nil)) ?_) pad_nil)) ?_) nd) ?_
  · exact ⟨_, _, _, _, s4, s2, by decide⟩
  · exact ⟨_, _, _, _, cz, s4.sub s2, by decide⟩
  · exact ⟨_, _, _, _, s2, cz.mul (s4.sub s2), by decide⟩
  refine SD.nrm [some (legD l), some (legD o), some (p2D one), some (p2D two), none, none, none, none, some (fr c), some (fr (Mi.onSeg one two c).1), some (fr (Mi.onSeg one two c).2)] rfl ?_
  exact sd_last (s1_ret (d := rowD (Mi.rowOf l o (Mi.onSeg one two c))) (pd_tup (pad_cons (k_l_gap_squared (l := l) (o := o) (s := (Mi.onSeg one two c).1) (t := (Mi.onSeg one two c).2) c_l_gap_squared hr (pad_cons (pd_var 0) (pad_cons (pd_var 1) (pad_cons (pd_var 9) (pad_cons (pd_var 10) pad_nil)))) ⟨hl, ho, _, _, _, _, z1, z2, by decide⟩) (pad_cons (pd_var 9) (pad_cons (pd_var 10) pad_nil)))))
end
end Wk
end
section
set_option Elab.async false
set_option linter.all false
set_option maxRecDepth 100000
set_option maxHeartbeats 4000000
namespace Wk
open PySem PySem.Spec PyProof.Rows L2 Fq
open Mi (Col Leg P2 pl dotQ sqAt)
local macro_rules | `(tactic| walk_at "nz") => `(tactic| first | assumption | exact Nz.sn (by assumption) | exact Nz.sd (by assumption) | (apply Nz.mul <;> walk_at "nz") | (apply Nz.add <;> walk_at "nz") | (apply Nz.sub <;> walk_at "nz") | (apply Nz.neg <;> walk_at "nz") | exact (show Nz 20 _ by unfold Nz; decide))
local macro_rules | `(tactic| walk_at "mw") => `(tactic| (apply Nz.w; (· walk_at "nz"); (· walk_at "nz"); decide))
def colAt (c : Col) : D → Int
  | .int 0 => c.1
  | _ => c.2
def fDiff (a b : Col) (d : D) : Option D := some (.int (colAt b d - colAt a d))
def R_l_inner_point (ds ys : List D) : Prop := ∃ l o rho, ds = [legD l, legD o, fr rho] ∧ LegOk l ∧ LegOk o ∧ RhoOk rho ∧ ys = (Mi.innerL l o rho).map rowD
def R_l_nearest (ds : List D) (d : D) : Prop := ∃ l o rho, ds = [legD l, legD o, fr rho] ∧ LegOk l ∧ LegOk o ∧ RhoOk rho ∧ d = rowD (Mi.nearL l o rho)
theorem fr_neg (x : Rat) : D.tup [.int (-x.num), .int x.den] = fr (-x) := by
  unfold fr
  rw [Rat.neg_num, Rat.neg_den]
theorem at01 {d : D} (h : d ∈ [D.int 0, D.int 1]) : d = .int 0 ∨ d = .int 1 := by simpa using h
theorem flats_row : ∀ rs : List Mi.Row, Flats (rs.map rowD)
  | [] => trivial
  | _ :: r => ⟨⟨⟨trivial, trivial, trivial⟩, ⟨trivial, trivial, trivial⟩, ⟨trivial, trivial, trivial⟩, trivial⟩, flats_row r⟩
def rotL (rho : Rat) : List D := [p2D (rho, 0), p2D (1, 1 - rho), p2D (1, 1), p2D (1 - rho, 1), p2D (0, rho), p2D (0, 0)]
theorem edge_at {l o : Leg} {rho : Rat} {k : Nat} {d : D} (h : (zipD ((Mi.cornersL rho).map p2D) (rotL rho))[k]? = some d) : ∃ a b, d = .tup [p2D a, p2D b] ∧ a ∈ Mi.ring rho ∧ b ∈ Mi.ring rho ∧ (Mi.edgesL l o rho)[k]? = some (Mi.edgeL l o a b) := by
  have hz : zipD ((Mi.cornersL rho).map p2D) (rotL rho) = [.tup [p2D (0, 0), p2D (rho, 0)], .tup [p2D (rho, 0), p2D (1, 1 - rho)], .tup [p2D (1, 1 - rho), p2D (1, 1)], .tup [p2D (1, 1), p2D (1 - rho, 1)], .tup [p2D (1 - rho, 1), p2D (0, rho)], .tup [p2D (0, rho), p2D (0, 0)]] := rfl
  rw [hz] at h
  rcases k with _ | _ | _ | _ | _ | _ | k
  · exact ⟨(0, 0), (rho, 0), by simpa using h.symm, by simp [Mi.ring], by simp [Mi.ring], rfl⟩
  · exact ⟨(rho, 0), (1, 1 - rho), by simpa using h.symm, by simp [Mi.ring], by simp [Mi.ring], rfl⟩
  · exact ⟨(1, 1 - rho), (1, 1), by simpa using h.symm, by simp [Mi.ring], by simp [Mi.ring], rfl⟩
  · exact ⟨(1, 1), (1 - rho, 1), by simpa using h.symm, by simp [Mi.ring], by simp [Mi.ring], rfl⟩
  · exact ⟨(1 - rho, 1), (0, rho), by simpa using h.symm, by simp [Mi.ring], by simp [Mi.ring], rfl⟩
  · exact ⟨(0, rho), (0, 0), by simpa using h.symm, by simp [Mi.ring], by simp [Mi.ring], rfl⟩
  · simp at h
def RowSz (r : Mi.Row) : Prop := Sz 12200 8100 r.1 ∧ Sz 1013 1011 r.2.1 ∧ Sz 1013 1011 r.2.2
theorem edge_rsz {l o : Leg} {rho : Rat} (hl : LegOk l) (ho : LegOk o) (hr : RhoOk rho) {p q : P2} (h : p ∈ Mi.ring rho) (g : q ∈ Mi.ring rho) : RowSz (Mi.edgeL l o p q) := by
  obtain ⟨a, b⟩ := seg_sz hr h g (clip_sz (part_sz hl ho hr h g))
  exact ⟨sqAt_sz hl ho a b, a, b⟩
theorem rows_sz {l o : Leg} {rho : Rat} (hl : LegOk l) (ho : LegOk o) (hr : RhoOk rho) : ∀ r ∈ Mi.rowsL l o rho, RowSz r := by
  intro r h
  unfold Mi.rowsL at h
  rcases List.mem_append.mp h with h | h
  · unfold Mi.innerL at h
    split at h
    · simp at h
    · rename_i hw
      split at h
      · simp at h
      · have e : r = (0, Mi.met l o) := by simpa using h
        subst e
        obtain ⟨w1, w2, w3⟩ := whole_nz hl ho
        exact ⟨sz0.mono (by decide) (by decide), ((sz_nz w2).div (sz_nz w1) (cast_ne hw)).mono (by decide) (by decide), ((sz_nz w3).div (sz_nz w1) (cast_ne hw)).mono (by decide) (by decide)⟩
  · unfold Mi.edgesL at h
    simp only [List.mem_cons, List.not_mem_nil, or_false] at h
    rcases h with rfl | rfl | rfl | rfl | rfl | rfl <;> exact edge_rsz hl ho hr (by simp [Mi.ring]) (by simp [Mi.ring])
theorem foldL_mem : ∀ (rs : List Mi.Row) (acc : Option Mi.Row) (b : Mi.Row), rs.foldl Mi.stepL acc = some b → b ∈ rs ∨ acc = some b
  | [], acc, b, h => .inr h
  | r :: rs, acc, b, h => by
    rcases foldL_mem rs (Mi.stepL acc r) b h with z | z
    · exact .inl (List.mem_cons_of_mem _ z)
    · cases acc with
      | none =>
        have e : r = b := Option.some.inj z
        exact .inl (by rw [e]; exact List.mem_cons_self)
      | some g =>
        have z' : (if Mi.betterL r g then some r else some g) = some b := z
        split at z'
        · exact .inl (by rw [Option.some.inj z']; exact List.mem_cons_self)
        · exact .inr z'
theorem inner_len (l o : Leg) (rho : Rat) : (Mi.innerL l o rho).length ≤ 1 := by
  unfold Mi.innerL
  split
  · exact Nat.zero_le _
  · split
    · exact Nat.zero_le _
    · exact Nat.le_refl _
section
variable {P : Program} {w : World} {K : PySem.W.Frag} {mg : Str → Option Value} {base : Heap}
theorem cal_l_inner_point {f : Addr} {fd : FuncData} (F : FnP K "_law_inner_point" s_l_inner_point f fd) (m : mg "_law_inner_point" = some (.ref f)) (c_l_lessened : Cal P w K mg base "_law_lessened" 2 ["_law_x", "_law_y"] (spP K R_lessened)) (c_l_over : Cal P w K mg base "_law_over" 1 ["_law_n", "_law_d"] (spP K R_reduced)) (c_l_is_below : Cal P w K mg base "_law_is_below" 1 ["_law_x", "_law_y"] (spP K R_l_is_below))  : Cal P w K mg base "_law_inner_point" 3 ["_law_leg", "_law_other", "_law_rho_here"] (spL K R_l_inner_point) := by
  refine cal_of F m (F.bindsN fun _ _ _ _ _ _ us hl => match us, hl with | [_, _, _], _ => rfl) (okL' F sc_l_inner_point (fun ds d h => ?_) fun cdv A outer s H E hr M ds d hR => ?_)
  · obtain ⟨_, _, _, rfl, _⟩ := h
    rfl
  have nd := sc_l_inner_point.nd
  obtain ⟨l, o, rho, rfl, hl, ho, hrho, rfl⟩ := hR
  have l1 := hl.2.1.sub hl.1.1
  have l2 := hl.2.2.sub hl.1.2
  have o1 := ho.2.1.sub ho.1.1
  have o2 := ho.2.2.sub ho.1.2
  have u1 := ho.1.1.sub hl.1.1
  have u2 := ho.1.2.sub hl.1.2
  obtain ⟨w1, w2, w3⟩ := whole_nz hl ho
  refine RL.nrm [some (legD l), some (legD o), some (fr rho), none, none, none, none, none, none, none, none] rfl ?_
  refine rl_cons (s1_par 3 4 (d1 := .lst [.int (l.2.1 - l.1.1), .int (l.2.2 - l.1.2)]) (d2 := .lst [.int (o.2.1 - o.1.1), .int (o.2.2 - o.1.2)]) (pl_lc (ds := [.int 0, .int 1]) (own := [("_law_at", 10)]) (f := fDiff l.1 l.2) (fun d => [some (legD l), some (legD o), some (fr rho), none, none, none, none, none, none, none, some d]) (blkOk_by (N := N_l_inner_point) (sc := defScope s_l_inner_point) (by decide +kernel)) nd (id_tupD (pad_cons pd_int (pad_cons pd_int pad_nil)) (show 2 ≤ 1000 by decide)) (fun d hd s H0 C cl fp => ?_) (show 2 ≤ 1000 by decide)).pd
    (pl_lc (ds := [.int 0, .int 1]) (own := [("_law_at", 10)]) (f := fDiff o.1 o.2) (fun d => [some (legD l), some (legD o), some (fr rho), none, none, none, none, none, none, none, some d]) (blkOk_by (N := N_l_inner_point) (sc := defScope s_l_inner_point) (by decide +kernel)) nd (id_tupD (pad_cons pd_int (pad_cons pd_int pad_nil)) (show 2 ≤ 1000 by decide)) (fun d hd s H0 C cl fp => ?_) (show 2 ≤ 1000 by decide)).pd nd) ?_
  · rcases at01 hd with rfl | rfl
    · exact ⟨gdw_name 10 (by simp) nd, trivial, ptsd_nil, pd_sub (pd_ixT (pd_ixT (pd_var 0) pd_int) (pd_var 10)) (pd_ixT (pd_ixT (pd_var 0) pd_int) (pd_var 10))⟩
    · exact ⟨gdw_name 10 (by simp) nd, trivial, ptsd_nil, pd_sub (pd_ixT (pd_ixT (pd_var 0) pd_int) (pd_var 10)) (pd_ixT (pd_ixT (pd_var 0) pd_int) (pd_var 10))⟩
  · rcases at01 hd with rfl | rfl
    · exact ⟨gdw_name 10 (by simp) nd, trivial, ptsd_nil, pd_sub (pd_ixT (pd_ixT (pd_var 1) pd_int) (pd_var 10)) (pd_ixT (pd_ixT (pd_var 1) pd_int) (pd_var 10))⟩
    · exact ⟨gdw_name 10 (by simp) nd, trivial, ptsd_nil, pd_sub (pd_ixT (pd_ixT (pd_var 1) pd_int) (pd_var 10)) (pd_ixT (pd_ixT (pd_var 1) pd_int) (pd_var 10))⟩
  refine RL.nrm [some (legD l), some (legD o), some (fr rho), some (.lst [.int (l.2.1 - l.1.1), .int (l.2.2 - l.1.2)]), some (.lst [.int (o.2.1 - o.1.1), .int (o.2.2 - o.1.2)]), none, none, none, none, none, none] rfl ?_
  refine rl_cons (s1_setLc 5 (ds := [.int 0, .int 1]) (own := [("_law_at", 10)]) (f := fDiff l.1 o.1) (fun d => [some (legD l), some (legD o), some (fr rho), some (.lst [.int (l.2.1 - l.1.1), .int (l.2.2 - l.1.2)]), some (.lst [.int (o.2.1 - o.1.1), .int (o.2.2 - o.1.2)]), none, none, none, none, none, some d]) (blkOk_by (N := N_l_inner_point) (sc := defScope s_l_inner_point) (by decide +kernel)) nd (id_tupD (pad_cons pd_int (pad_cons pd_int pad_nil)) (show 2 ≤ 1000 by decide)) (fun d hd s H0 C cl fp => ?_) (show 2 ≤ 1000 by decide)) ?_
  · rcases at01 hd with rfl | rfl
    · exact ⟨gdw_name 10 (by simp) nd, trivial, ptsd_nil, pd_sub (pd_ixT (pd_ixT (pd_var 1) pd_int) (pd_var 10)) (pd_ixT (pd_ixT (pd_var 0) pd_int) (pd_var 10))⟩
    · exact ⟨gdw_name 10 (by simp) nd, trivial, ptsd_nil, pd_sub (pd_ixT (pd_ixT (pd_var 1) pd_int) (pd_var 10)) (pd_ixT (pd_ixT (pd_var 0) pd_int) (pd_var 10))⟩
  refine RL.nrm [some (legD l), some (legD o), some (fr rho), some (.lst [.int (l.2.1 - l.1.1), .int (l.2.2 - l.1.2)]), some (.lst [.int (o.2.1 - o.1.1), .int (o.2.2 - o.1.2)]), some (.lst [.int (o.1.1 - l.1.1), .int (o.1.2 - l.1.2)]), none, none, none, none, none] rfl ?_
  refine rl_cons (s1_set 6 (d := .int (Mi.wholeI l o)) (pd_sub (pd_mulW (pd_ixL (pd_var 3) pd_int) (pd_ixL (pd_var 4) pd_int) ?_) (pd_mulW (pd_ixL (pd_var 3) pd_int) (pd_ixL (pd_var 4) pd_int) ?_)) nd) ?_
  · walk_at "mw"
  · walk_at "mw"
  refine RL.nrm [some (legD l), some (legD o), some (fr rho), some (.lst [.int (l.2.1 - l.1.1), .int (l.2.2 - l.1.2)]), some (.lst [.int (o.2.1 - o.1.1), .int (o.2.2 - o.1.2)]), some (.lst [.int (o.1.1 - l.1.1), .int (o.1.2 - l.1.2)]), some (.int (Mi.wholeI l o)), none, none, none, none] rfl ?_
  unfold Mi.innerL
  by_cases hw : Mi.wholeI l o = 0
  · rw [if_pos hw]
    exact rl_ifT (PTD.of (ptd_eqI (pd_var 6) pd_int) (decide_eq_true hw)) (rl_ret (pl_lst pad_nil (Nat.zero_le _)))
  rw [if_neg hw]
  refine rl_cons (s1_ifF (PTD.of (ptd_eqI (pd_var 6) pd_int) (decide_eq_false hw)) sd_nil) ?_
  have z1 := (sz_nz w2).div (sz_nz w1) (cast_ne hw)
  have z2 := (sz_nz w3).div (sz_nz w1) (cast_ne hw)
  refine rl_cons (s1_par 7 8 (d1 := fr (Mi.met l o).1) (d2 := fr (Mi.met l o).2) ((k_l_over (i := Mi.crS l o) (j := Mi.wholeI l o) c_l_over hr (pad_cons (pd_sub (pd_mulW (pd_ixL (pd_var 5) pd_int) (pd_ixL (pd_var 4) pd_int) ?_) (pd_mulW (pd_ixL (pd_var 5) pd_int) (pd_ixL (pd_var 4) pd_int) ?_)) (pad_cons (pd_var 6) pad_nil)) ?_).of (congrArg fr (Rat.divInt_eq_div ..))) ((k_l_over (i := Mi.crT l o) (j := Mi.wholeI l o) c_l_over hr (pad_cons (pd_sub (pd_mulW (pd_ixL (pd_var 5) pd_int) (pd_ixL (pd_var 3) pd_int) ?_) (pd_mulW (pd_ixL (pd_var 5) pd_int) (pd_ixL (pd_var 3) pd_int) ?_)) (pad_cons (pd_var 6) pad_nil)) ?_).of (congrArg fr (Rat.divInt_eq_div ..))) nd) ?_
  · walk_at "mw"
  · walk_at "mw"
  · exact ⟨hw, Nat.lt_of_lt_of_le w1 (Nat.pow_le_pow_right (by decide) (by decide))⟩
  · walk_at "mw"
  · walk_at "mw"
  · exact ⟨hw, Nat.lt_of_lt_of_le w1 (Nat.pow_le_pow_right (by decide) (by decide))⟩
  have z1' : Sz 33 33 (Mi.met l o).1 := z1.mono (by decide) (by decide)
  have z2' : Sz 33 33 (Mi.met l o).2 := z2.mono (by decide) (by decide)
  refine RL.nrm [some (legD l), some (legD o), some (fr rho), some (.lst [.int (l.2.1 - l.1.1), .int (l.2.2 - l.1.2)]), some (.lst [.int (o.2.1 - o.1.1), .int (o.2.2 - o.1.2)]), some (.lst [.int (o.1.1 - l.1.1), .int (o.1.2 - l.1.2)]), some (.int (Mi.wholeI l o)), some (fr (Mi.met l o).1), some (fr (Mi.met l o).2), none, none] rfl ?_
  generalize Mi.met l o = p at z1' z2'
  have za := absQ_sz (z1'.sub z2')
  refine rl_cons (s1_set 9 (k_l_lessened (x := p.1) (y := p.2) c_l_lessened hr (pad_cons (pd_var 7) (pad_cons (pd_var 8) pad_nil)) ⟨_, _, _, _, z1', z2', by decide⟩) nd) ?_
  refine RL.nrm [some (legD l), some (legD o), some (fr rho), some (.lst [.int (l.2.1 - l.1.1), .int (l.2.2 - l.1.2)]), some (.lst [.int (o.2.1 - o.1.1), .int (o.2.2 - o.1.2)]), some (.lst [.int (o.1.1 - l.1.1), .int (o.1.2 - l.1.2)]), some (.int (Mi.wholeI l o)), some (fr p.1), some (fr p.2), some (fr (p.1 - p.2)), none] rfl ?_
  refine rl_cons (s1_set 9 (d := fr (Mi.absQ (p.1 - p.2))) (pd_ifT (k := decide (p.1 - p.2 < 0)) (PTD.of (ptd_lt (pd_ixT (pd_var 9) pd_int) pd_int) (numneg _)) (fun h => (pd_tup (pad_cons (pd_neg (pd_ixT (pd_var 9) pd_int)) (pad_cons (pd_ixT (pd_var 9) pd_int) pad_nil))).of ?_) (fun h => (pd_var 9).of ?_)) nd) ?_
  · rw [fr_neg, show Mi.absQ (p.1 - p.2) = -(p.1 - p.2) from if_pos (of_decide_eq_true h)]
  · rw [show Mi.absQ (p.1 - p.2) = (p.1 - p.2) from if_neg (of_decide_eq_false h)]
  refine RL.nrm [some (legD l), some (legD o), some (fr rho), some (.lst [.int (l.2.1 - l.1.1), .int (l.2.2 - l.1.2)]), some (.lst [.int (o.2.1 - o.1.1), .int (o.2.2 - o.1.2)]), some (.lst [.int (o.1.1 - l.1.1), .int (o.1.2 - l.1.2)]), some (.int (Mi.wholeI l o)), some (fr p.1), some (fr p.2), some (fr (Mi.absQ (p.1 - p.2))), none] rfl ?_
  have b1 : SzC 1 p.1 := ⟨_, _, _, _, sz1, z1', by decide⟩
  have b2 : SzC 1 p.2 := ⟨_, _, _, _, sz1, z2', by decide⟩
  have b3 : SzC rho (Mi.absQ (p.1 - p.2)) := ⟨_, _, _, _, hrho.1, za, by decide⟩
  by_cases hout : Mi.outL rho p = true
  · rw [if_pos hout]
    refine rl_ifT (PTD.of (ptd_w (pwd_or (PTD.of (ptd_lt (pd_ixT (pd_var 7) pd_int) pd_int) (numneg p.1)) fun _ => (pwd_or (PTD.of (ptd_lt (pd_ixT (pd_var 8) pd_int) pd_int) (numneg p.2)) fun _ => (pwd_or (ptd_val (k_l_is_below (x := 1) (y := p.1) c_l_is_below hr (pad_cons pd_k1 (pad_cons (pd_var 7) pad_nil)) b1)) fun _ => (pwd_or (ptd_val (k_l_is_below (x := 1) (y := p.2) c_l_is_below hr (pad_cons pd_k1 (pad_cons (pd_var 8) pad_nil)) b2)) fun _ => (pwd_or1 (ptd_val (k_l_is_below (x := rho) (y := Mi.absQ (p.1 - p.2)) c_l_is_below hr (pad_cons (pd_var 2) (pad_cons (pd_var 9) pad_nil)) b3)))))))) hout) (rl_ret (pl_lst pad_nil (Nat.zero_le _)))
  · rw [if_neg hout]
    have hof : Mi.outL rho p = false := by simpa using hout
    refine rl_cons (s1_ifF (PTD.of (ptd_w (pwd_or (PTD.of (ptd_lt (pd_ixT (pd_var 7) pd_int) pd_int) (numneg p.1)) fun _ => (pwd_or (PTD.of (ptd_lt (pd_ixT (pd_var 8) pd_int) pd_int) (numneg p.2)) fun _ => (pwd_or (ptd_val (k_l_is_below (x := 1) (y := p.1) c_l_is_below hr (pad_cons pd_k1 (pad_cons (pd_var 7) pad_nil)) b1)) fun _ => (pwd_or (ptd_val (k_l_is_below (x := 1) (y := p.2) c_l_is_below hr (pad_cons pd_k1 (pad_cons (pd_var 8) pad_nil)) b2)) fun _ => (pwd_or1 (ptd_val (k_l_is_below (x := rho) (y := Mi.absQ (p.1 - p.2)) c_l_is_below hr (pad_cons (pd_var 2) (pad_cons (pd_var 9) pad_nil)) b3)))))))) hof) sd_nil) ?_
    exact rl_ret (pl_lst (pad_cons (pd_tup (pad_cons pd_k0 (pad_cons (pd_var 7) (pad_cons (pd_var 8) pad_nil)))) pad_nil) (show 1 ≤ 1000 by decide))
theorem cal_l_nearest {f : Addr} {fd : FuncData} (F : FnP K "_law_nearest" s_l_nearest f fd) (m : mg "_law_nearest" = some (.ref f)) (c_l_inner_point : Cal P w K mg base "_law_inner_point" 3 ["_law_leg", "_law_other", "_law_rho_here"] (spL K R_l_inner_point)) (c_l_corners : Cal P w K mg base "_law_corners" 3 ["_law_rho_here"] (spL K R_l_corners)) (c_l_on_edge : Cal P w K mg base "_law_on_edge" 5 ["_law_leg", "_law_other", "_law_one", "_law_two"] (spP K R_l_on_edge)) (c_l_is_below : Cal P w K mg base "_law_is_below" 1 ["_law_x", "_law_y"] (spP K R_l_is_below)) (c_l_are_less : Cal P w K mg base "_law_are_less" 2 ["_law_one", "_law_other"] (spP K R_l_are_less)) (m_zip : mg "zip" = none) : Cal P w K mg base "_law_nearest" 6 ["_law_leg", "_law_other", "_law_rho_here"] (spP K R_l_nearest) := by
  refine cal_of F m (F.bindsN fun _ _ _ _ _ _ us hl => match us, hl with | [_, _, _], _ => rfl) (okP F sc_l_nearest (fun ds d h => ?_) fun cdv A outer s H E hr M ds d hR => ?_)
  · obtain ⟨_, _, _, rfl, _⟩ := h
    rfl
  have nd := sc_l_nearest.nd
  obtain ⟨l, o, rho, rfl, hl, ho, hrho, rfl⟩ := hR
  have hin := inner_len l o rho
  refine SD.nrm [some (legD l), some (legD o), some (fr rho), none, none, none, none, none, none] rfl ?_
  refine sd_cons (s1_par 3 4 (d1 := .lst ((Mi.cornersL rho).map p2D)) (pl_call c_l_corners hr (pad_cons (pd_var 2) pad_nil) ⟨rho, rfl, hrho, rfl⟩).pd pd_non nd) ?_
  refine SD.nrm [some (legD l), some (legD o), some (fr rho), some (.lst ((Mi.cornersL rho).map p2D)), some .non, none, none, none, none] rfl ?_
  refine sd_own 5 (ds := (Mi.innerL l o rho).map rowD) (pl_call c_l_inner_point hr (pad_cons (pd_var 0) (pad_cons (pd_var 1) (pad_cons (pd_var 2) pad_nil))) ⟨l, o, rho, rfl, hl, ho, hrho, rfl⟩) (flats_row _) nd ?_
  refine SM.nrm [some (legD l), some (legD o), some (fr rho), some (.lst ((Mi.cornersL rho).map p2D)), some .non, none, none, none, none] rfl ?_
  have e0 : (Mi.innerL l o rho).map rowD = ((Mi.innerL l o rho) ++ (Mi.edgesL l o rho).take 0).map rowD := by rw [List.take_zero, List.append_nil]
  rw [e0]
  refine sm_cons (sm_for (ds := zipD ((Mi.cornersL rho).map p2D) (rotL rho)) (fun k => [some (legD l), some (legD o), some (fr rho), some (.lst ((Mi.cornersL rho).map p2D)), some .non, none, none, none, none]) (fun k => ((Mi.innerL l o rho) ++ (Mi.edgesL l o rho).take k).map rowD) (vs := [6, 7]) (by decide) (fun M => id_zipL (ys := rotL rho) m_zip (pd_var 3) (PL.of (pl_cat (ds := cutD ((Mi.cornersL rho).map p2D) (some 1) none) (ds2 := cutD ((Mi.cornersL rho).map p2D) none (some 1)) (pl_slL (pd_var 3) (pod_some pd_int) pod_none).pd (pl_slL (pd_var 3) pod_none (pod_some pd_int)).pd (show 6 ≤ 1000 by decide)) rfl).pd) (Le.refl _) (fun k d hd => ?_)) ?_
  · obtain ⟨a, b, rfl, ha, hb, he⟩ := edge_at (l := l) (o := o) hd
    have tk : (Mi.edgesL l o rho).take (k + 1) = (Mi.edgesL l o rho).take k ++ [Mi.edgeL l o a b] := by rw [List.take_add_one, he] <;> rfl
    have el : ((Mi.innerL l o rho) ++ (Mi.edgesL l o rho).take (k + 1)).map rowD = ((Mi.innerL l o rho) ++ (Mi.edgesL l o rho).take k).map rowD ++ [rowD (Mi.edgeL l o a b)] := by
      rw [tk, ← List.append_assoc, List.map_append] <;> rfl
    refine ⟨_, [some (legD l), some (legD o), some (fr rho), some (.lst ((Mi.cornersL rho).map p2D)), some .non, none, some (p2D a), some (p2D b), none], fun M => gdw_tup (gdws_cons (gdw_name 6 (by simp) nd) (gdws_cons (gdw_name 7 (by simp) nd) gdws_nil)), ?_, ⟨.inr rfl, .inr rfl, .inr rfl, .inr rfl, .inr rfl, .inr rfl, .inl rfl, .inl rfl, .inr rfl, trivial⟩⟩
    refine SM.nrm [some (legD l), some (legD o), some (fr rho), some (.lst ((Mi.cornersL rho).map p2D)), some .non, none, some (p2D a), some (p2D b), none] rfl ?_
    rw [el]
    refine sm_last (sm_app (fun M => pd_call c_l_on_edge hr (pad_cons (pd_var 0) (pad_cons (pd_var 1) (pad_cons (pd_var 6) (pad_cons (pd_var 7) pad_nil)))) ⟨l, o, rho, a, b, rfl, hl, ho, hrho, ha, hb, rfl⟩) ?_)
    have h6 : (Mi.edgesL l o rho).length = 6 := rfl
    rw [List.length_map, List.length_append, List.length_take]
    omega
  have e6 : ((Mi.innerL l o rho) ++ (Mi.edgesL l o rho).take (zipD ((Mi.cornersL rho).map p2D) (rotL rho)).length).map rowD = (Mi.rowsL l o rho).map rowD := rfl
  rw [e6]
  refine sm_freeze (SD.nrm [some (legD l), some (legD o), some (fr rho), some (.lst ((Mi.cornersL rho).map p2D)), some .non, some (.lst ((Mi.rowsL l o rho).map rowD)), none, none, none] rfl ?_)
  have rsz := rows_sz hl ho hrho
  obtain ⟨hmem, _⟩ := Mi.nearL_ok l o rho
  unfold Mi.nearL at hmem ⊢
  generalize Mi.rowsL l o rho = rs at rsz hmem
  refine sd_cons (s1_for (fun k => [some (legD l), some (legD o), some (fr rho), some (.lst ((Mi.cornersL rho).map p2D)), some (accD ((rs.take k).foldl Mi.stepL none)), none, none, none, none]) (id_list (pd_var 5)) ⟨.inr rfl, .inr rfl, .inr rfl, .inr rfl, .inr rfl, .inl rfl, .inr rfl, .inr rfl, .inr rfl, trivial⟩ (fun k d hd => ?_)) ?_
  · rw [List.getElem?_map] at hd
    obtain ⟨r, hr0, rfl⟩ : ∃ r, rs[k]? = some r ∧ d = rowD r := by
      cases e : rs[k]? with
      | none => rw [e] at hd; cases hd
      | some p => rw [e] at hd; exact ⟨p, rfl, by simpa using hd.symm⟩
    have tk : rs.take (k + 1) = rs.take k ++ [r] := by rw [List.take_add_one, hr0] <;> rfl
    have es : (rs.take (k + 1)).foldl Mi.stepL none = Mi.stepL ((rs.take k).foldl Mi.stepL none) r := by rw [tk, List.foldl_append] <;> rfl
    obtain ⟨r1, r2, r3⟩ := rsz r (List.mem_of_getElem? hr0)
    have hacc : ∀ b, (rs.take k).foldl Mi.stepL none = some b → RowSz b := fun b hb => by
      rcases foldL_mem _ _ _ hb with z | z
      · exact rsz b (List.mem_of_mem_take z)
      · cases z
    rw [es]
    generalize (rs.take k).foldl Mi.stepL none = acc at hacc
    have wk : ∀ x : D, Le [some (legD l), some (legD o), some (fr rho), some (.lst ((Mi.cornersL rho).map p2D)), some x, none, none, none, some (rowD r)] [some (legD l), some (legD o), some (fr rho), some (.lst ((Mi.cornersL rho).map p2D)), some x, none, none, none, none] := fun x => ⟨.inr rfl, .inr rfl, .inr rfl, .inr rfl, .inr rfl, .inr rfl, .inr rfl, .inr rfl, .inl rfl, trivial⟩
    refine ⟨_, _, gd_name 8 nd, ?_, wk (accD (Mi.stepL acc r))⟩
    refine SD.nrm [some (legD l), some (legD o), some (fr rho), some (.lst ((Mi.cornersL rho).map p2D)), some (accD acc), none, none, none, some (rowD r)] rfl ?_
    cases acc with
    | none => exact sd_last (s1_ifT (ptd_w (PWD.of (pwd_or (x := true) (y := true) (PTD.of (ptd_isN (pd_var 4)) rfl) fun h => by cases h) rfl)) (sd_last (s1_set 4 (pd_var 8) nd)))
    | some b =>
      obtain ⟨b1, b2, b3⟩ := hacc b rfl
      have hsc : SzC r.1 b.1 := ⟨_, _, _, _, r1, b1, by decide⟩
      by_cases hb : Mi.betterL r b = true
      · rw [show Mi.stepL (some b) r = some r from if_pos hb]
        exact sd_last (s1_ifT (PTD.of (ptd_w (pwd_or (x := false) (PTD.of (ptd_isN (pd_var 4)) rfl) fun _ => (pwd_or (x := decide (r.1 < b.1)) (ptd_val (k_l_is_below (x := r.1) (y := b.1) c_l_is_below hr (pad_cons (pd_ixT (pd_var 8) pd_int) (pad_cons (pd_ixT (pd_var 4) pd_int) pad_nil)) hsc)) fun _ => (pwd_or1 (ptd_w (pwd_and (x := decide (r.1 = b.1)) (PTD.of (ptd_eqD hr (d1 := fr r.1) (d2 := fr b.1) (pd_ixT (pd_var 8) pd_int) (pd_ixT (pd_var 4) pd_int) rfl rfl) (eqv_fr r.1 b.1)) fun _ => (pwd_and1 (ptd_val (k_l_are_less (u := r.2) (v := b.2) c_l_are_less hr (pad_cons ((pd_slT (pd_var 8) (pod_some pd_int) pod_none).of rfl) (pad_cons ((pd_slT (pd_var 4) (pod_some pd_int) pod_none).of rfl) pad_nil)) ⟨⟨r2, r3⟩, b2, b3⟩))))))))) hb) (sd_last (s1_set 4 (pd_var 8) nd)))
      · rw [show Mi.stepL (some b) r = some b from if_neg hb]
        have hbf : Mi.betterL r b = false := by simpa using hb
        exact sd_last (s1_ifF (PTD.of (ptd_w (pwd_or (x := false) (PTD.of (ptd_isN (pd_var 4)) rfl) fun _ => (pwd_or (x := decide (r.1 < b.1)) (ptd_val (k_l_is_below (x := r.1) (y := b.1) c_l_is_below hr (pad_cons (pd_ixT (pd_var 8) pd_int) (pad_cons (pd_ixT (pd_var 4) pd_int) pad_nil)) hsc)) fun _ => (pwd_or1 (ptd_w (pwd_and (x := decide (r.1 = b.1)) (PTD.of (ptd_eqD hr (d1 := fr r.1) (d2 := fr b.1) (pd_ixT (pd_var 8) pd_int) (pd_ixT (pd_var 4) pd_int) rfl rfl) (eqv_fr r.1 b.1)) fun _ => (pwd_and1 (ptd_val (k_l_are_less (u := r.2) (v := b.2) c_l_are_less hr (pad_cons ((pd_slT (pd_var 8) (pod_some pd_int) pod_none).of rfl) (pad_cons ((pd_slT (pd_var 4) (pod_some pd_int) pod_none).of rfl) pad_nil)) ⟨⟨r2, r3⟩, b2, b3⟩))))))))) hbf) sd_nil)
  rw [List.length_map, List.take_of_length_le (Nat.le_refl _)]
  refine sd_last (s1_ret ((pd_var 4).of ?_))
  cases ef : rs.foldl Mi.stepL none with
  | none =>
    exfalso
    rw [ef] at hmem
    cases rs with
    | nil => simp at hmem
    | cons r rs =>
      obtain ⟨x, hx, _⟩ := Mi.nearL_fold rs r
      have : (r :: rs).foldl Mi.stepL none = some x := hx
      rw [ef] at this
      cases this
  | some r => rfl
def R_l_is_bad (ds : List D) (d : D) : Prop := ∃ (B : Bo) (T : Int) (l o : Leg), ds = [boD B, .int T, .tup [legD l, legD o]] ∧ BoOk B ∧ Tk B T ∧ LegOk l ∧ LegOk o ∧ d = .bl (decide ((Mi.nearL l o (B.rho T)).1 < ((B.R * B.R : Int) : Rat)))
def ltL (B : Bo) : Option Int := if B.S * B.S - 2 * B.R * B.R < 0 ∨ (B.S * B.S - 2 * B.R * B.R = 0 ∧ 0 < B.L) then none else feL B (10 ^ 12)
def R_l_least_ticks (ds : List D) (d : D) : Prop := ∃ B, ds = [boD B] ∧ BoOk B ∧ d = optD (ltL B)
theorem nearL_sz {l o : Leg} {rho : Rat} (hl : LegOk l) (ho : LegOk o) (hr : RhoOk rho) : Sz 12200 8100 (Mi.nearL l o rho).1 := (rows_sz hl ho hr _ (Mi.nearL_ok l o rho).1).1
theorem cal_l_is_bad {f : Addr} {fd : FuncData} (F : FnP K "_law_is_bad" s_l_is_bad f fd) (m : mg "_law_is_bad" = some (.ref f)) (c_l_reach : Cal P w K mg base "_law_reach" 1 ["_law_bounds_here"] (spP K R_r_of)) (c_l_is_below : Cal P w K mg base "_law_is_below" 1 ["_law_x", "_law_y"] (spP K R_l_is_below)) (c_l_nearest : Cal P w K mg base "_law_nearest" 6 ["_law_leg", "_law_other", "_law_rho_here"] (spP K R_l_nearest)) (c_l_rho : Cal P w K mg base "_law_rho" 2 ["_law_bounds_here", "_law_ticks_here"] (spP K R_rho_of))  : Cal P w K mg base "_law_is_bad" 7 ["_law_bounds_here", "_law_ticks_here", "_law_couple"] (spP K R_l_is_bad) := by
  refine cal_of F m (F.bindsN fun _ _ _ _ _ _ us hl => match us, hl with | [_, _, _], _ => rfl) (okP F sc_l_is_bad (fun ds d h => ?_) fun cdv A outer s H E hr M ds d hR => ?_)
  · obtain ⟨_, _, _, _, rfl, _⟩ := h
    rfl
  have nd := sc_l_is_bad.nd
  obtain ⟨B, T, l, o, rfl, hB, hT, hl, ho, rfl⟩ := hR
  obtain ⟨_, _, z3, _⟩ := nz_bo hB
  refine sd_cons (s1_set 3 (pd_call c_l_reach hr (pad_cons (pd_var 0) pad_nil) ⟨B, rfl, hB, rfl⟩) nd) ?_
  refine SD.nrm [some (boD B), some (.int T), some (.tup [legD l, legD o]), some (.int B.R)] rfl ?_
  refine sd_last (s1_ret (k_l_is_below (x := (Mi.nearL l o (B.rho T)).1) (y := ((B.R * B.R : Int) : Rat)) c_l_is_below hr (pad_cons (pd_ixT (pd_call c_l_nearest hr (pad_cons (pd_ixT (pd_var 2) pd_int) (pad_cons (pd_ixT (pd_var 2) pd_int) (pad_cons (pd_call c_l_rho hr (pad_cons (pd_var 0) (pad_cons (pd_var 1) pad_nil)) ⟨B, T, rfl, hB, hT, rfl⟩) pad_nil))) ⟨l, o, B.rho T, rfl, hl, ho, rho_ok hB hT, rfl⟩) pd_int) (pad_cons (pd_frI (pd_mulW (pd_var 3) (pd_var 3) ?_)) pad_nil)) ?_))
  · walk_at "mw"
  · exact ⟨_, _, _, _, nearL_sz hl ho (rho_ok hB hT), sz_nz (z3.mul z3), by decide⟩
theorem cal_l_least_ticks {f : Addr} {fd : FuncData} (F : FnP K "_law_least_ticks" s_l_least_ticks f fd) (m : mg "_law_least_ticks" = some (.ref f)) (c_l_first_enough : Cal P w K mg base "_law_first_enough" 3 ["_law_bounds_here", "_law_most"] (spP K R_l_first_enough)) (c_l_reach : Cal P w K mg base "_law_reach" 1 ["_law_bounds_here"] (spP K R_r_of)) (c_l_lag : Cal P w K mg base "_law_lag" 1 ["_law_bounds_here"] (spP K R_lag_of))  : Cal P w K mg base "_law_least_ticks" 4 ["_law_bounds_here"] (spP K R_l_least_ticks) := by
  refine cal_of F m (F.bindsN fun _ _ _ _ _ _ us hl => match us, hl with | [_], _ => rfl) (okP F sc_l_least_ticks (fun ds d h => ?_) fun cdv A outer s H E hr M ds d hR => ?_)
  · obtain ⟨_, rfl, _⟩ := h
    rfl
  have nd := sc_l_least_ticks.nd
  obtain ⟨B, rfl, hB, rfl⟩ := hR
  obtain ⟨z1, z2, z3, z4⟩ := nz_bo hB
  refine sd_cons (s1_par 1 2 (pd_ixT (pd_var 0) pd_int) (pd_call c_l_reach hr (pad_cons (pd_var 0) pad_nil) ⟨B, rfl, hB, rfl⟩) nd) ?_
  refine SD.nrm [some (boD B), some (.int B.S), some (.int B.R), none] rfl ?_
  refine sd_cons (s1_set 3 (pd_sub (pd_mulW (pd_var 1) (pd_var 1) ?_) (pd_mulW (pd_mulW pd_int (pd_var 2) ?_) (pd_var 2) ?_)) nd) ?_
  iterate 3 (· walk_at "mw")
  refine SD.nrm [some (boD B), some (.int B.S), some (.int B.R), some (.int (B.S * B.S - 2 * B.R * B.R))] rfl ?_
  have ek : (decide (B.S * B.S - 2 * B.R * B.R < 0) || (decide (B.S * B.S - 2 * B.R * B.R = 0) && decide (0 < B.L))) = decide (B.S * B.S - 2 * B.R * B.R < 0 ∨ (B.S * B.S - 2 * B.R * B.R = 0 ∧ 0 < B.L)) := by
    rw [Bool.eq_iff_iff]
    simp only [Bool.or_eq_true, Bool.and_eq_true, decide_eq_true_eq]
  unfold ltL
  by_cases hc : B.S * B.S - 2 * B.R * B.R < 0 ∨ (B.S * B.S - 2 * B.R * B.R = 0 ∧ 0 < B.L)
  · rw [if_pos hc]
    exact sd_stop (s1_ifT (PTD.of (ptd_w (pwd_or (ptd_lt (pd_var 3) pd_int) fun _ => (pwd_or1 (ptd_w (pwd_and (ptd_eqI (pd_var 3) pd_int) fun _ => (pwd_and1 (ptd_gt (pd_call c_l_lag hr (pad_cons (pd_var 0) pad_nil) ⟨B, rfl, hB, rfl⟩) pd_int))))))) (by rw [ek]; exact decide_eq_true hc)) (sd_last (s1_ret pd_non)))
  · rw [if_neg hc]
    refine sd_cons (s1_ifF (PTD.of (ptd_w (pwd_or (ptd_lt (pd_var 3) pd_int) fun _ => (pwd_or1 (ptd_w (pwd_and (ptd_eqI (pd_var 3) pd_int) fun _ => (pwd_and1 (ptd_gt (pd_call c_l_lag hr (pad_cons (pd_var 0) pad_nil) ⟨B, rfl, hB, rfl⟩) pd_int))))))) (by rw [ek]; exact decide_eq_false hc)) sd_nil) ?_
    refine sd_last (s1_ret (pd_call c_l_first_enough hr (pad_cons (pd_var 0) (pad_cons (pd_pow (i := 10) (j := 12) pd_int pd_int ?_) pad_nil)) ⟨B, 10 ^ 12, rfl, hB, by decide, rfl⟩))
    exact ⟨by decide, by decide, by decide⟩
end
end Wk
end
section
set_option Elab.async false
set_option linter.all false
set_option maxRecDepth 100000
set_option maxHeartbeats 4000000
namespace Wk
open PySem PySem.Spec PyProof.Rows L2 Fq
open Mi (Col Leg P2 pl dotQ sqAt)
def Bag (H : Hp) (b : Addr × Addr) (f : Nat) : Prop := ∃ (h s c : Int) (ns : List Int), H b.1 = some (.lst [.int h, .int s, .int c, .ref b.2]) ∧ b.2 ≠ b.1 ∧ H b.2 = some (.lst (ns.map V.int)) ∧ 0 ≤ h ∧ (0 ≤ s ∧ s < 2147483648) ∧ (0 ≤ c ∧ c + f ≤ 100000) ∧ (∀ n ∈ ns, 0 ≤ n) ∧ ns.length ≤ 63
theorem Bag.lst {H : Hp} {b : Addr × Addr} {f : Nat} (h : Bag H b f) : ∃ xs, H b.1 = some (.lst xs) := by
  obtain ⟨_, _, _, _, e, _⟩ := h
  exact ⟨_, e⟩
theorem Bag.mono {H : Hp} {b : Addr × Addr} {f g : Nat} (h : Bag H b f) (k : g ≤ f) : Bag H b g := by
  obtain ⟨h, s, c, ns, e1, e2, e3, e4, e5, e6, e7, e8⟩ := h
  exact ⟨h, s, c, ns, e1, e2, e3, e4, e5, ⟨e6.1, by omega⟩, e7, e8⟩
theorem Bag.same {H H' : Hp} {b : Addr × Addr} {f : Nat} (h : Bag H b f) (k : Same H H') : Bag H' b f := by
  obtain ⟨h, s, c, ns, e1, e2, e3, e4, e5, e6, e7, e8⟩ := h
  exact ⟨h, s, c, ns, k _ _ e1, e2, k _ _ e3, e4, e5, e6, e7, e8⟩
theorem Bag.kp {H H' : Hp} {b : Addr × Addr} {p : Addr} {f : Nat} (h : Bag H b f) (k : Kp p H H') (n : b.1 ≠ p) (nc : b.2 ≠ p) : Bag H' b f := by
  obtain ⟨h, s, c, ns, e1, e2, e3, e4, e5, e6, e7, e8⟩ := h
  exact ⟨h, s, c, ns, k _ _ n e1, e2, k _ _ nc e3, e4, e5, e6, e7, e8⟩
structure StB (K : PySem.W.Frag) (M : Mu) (b : Addr × Addr) (nb : Nat) (f : Nat) (H : Hp) (σ : L2.St) (env : DEnv) : Prop where
  en : En K M H σ env
  mb : M b.1
  at_ : σ[nb]? = some (some (.ref b.1))
  bag : Bag H b f
section
variable {K : PySem.W.Frag} {M : Mu} {b : Addr × Addr} {nb f g : Nat} {H H' : Hp} {σ : L2.St} {env env' : DEnv}
theorem StB.sm (h : StB K M b nb f H σ env) (k : Kp b.1 H H') (e : ∃ xs, H' b.1 = some (.lst xs)) : Sm M H H' :=
  ⟨fun a o n q => k a o (fun z => n (by rw [z]; exact h.mb)) q, fun a ma => by
    by_cases z : a = b.1
    · subst z; exact e
    · obtain ⟨xs, q⟩ := h.en.wd a ma
      exact ⟨xs, k a _ z q⟩⟩
theorem StB.go (h : StB K M b nb f H σ env) (k : Kp b.1 H H') (e : Bag H' b g) : StB K M b nb g H' σ env := ⟨h.en.sm (h.sm k e.lst), h.mb, h.at_, e⟩
theorem StB.same (h : StB K M b nb f H σ env) (k : Same H H') : StB K M b nb f H' σ env := h.go (kp_of k) (h.bag.same k)
theorem StB.less (h : StB K M b nb f H σ env) (k : g ≤ f) : StB K M b nb g H σ env := ⟨h.en, h.mb, h.at_, h.bag.mono k⟩
theorem StB.set {j : Nat} {d : D} {v : V} (h : StB K M b nb f H σ env) (r : Rep K M H d v) (hj : nb ≠ j) : StB K M b nb f H (σ.set j (some v)) (env.set j (some d)) := ⟨h.en.set r, h.mb, by rw [List.getElem?_set_ne (Ne.symm hj)]; exact h.at_, h.bag⟩
theorem StB.le (h : StB K M b nb f H σ env) (l : Le env env') : StB K M b nb f H σ env' := ⟨h.en.le l, h.mb, h.at_, h.bag⟩
end
def PB (X : Cx) (nb : Nat) (e : Expr) (env : DEnv) (c : Nat) (P : D → Prop) : Prop := ∀ M b f σ H, StB X.K M b nb (f + c) H σ env → ∀ Q : VK, (∀ v H' d, Kp b.1 H H' → Bag H' b f → Rep X.K M H' d v → P d → Q v H') → We X e σ H Q
def PAB (X : Cx) (nb : Nat) (es : List Expr) (env : DEnv) (c : Nat) (P : List D → Prop) : Prop := ∀ M b f σ H, StB X.K M b nb (f + c) H σ env → ∀ Q : List V → Hp → Prop, (∀ vs H' ds, Kp b.1 H H' → Bag H' b f → Reps X.K M H' ds vs → P ds → Q vs H') → Wa X es σ H Q
def PTB (X : Cx) (nb : Nat) (e : Expr) (env : DEnv) (c : Nat) (P : Bool → Prop) : Prop := ∀ M b f σ H, StB X.K M b nb (f + c) H σ env → ∀ Q : Bool → Hp → Prop, (∀ H' k, Kp b.1 H H' → Bag H' b f → P k → Q k H') → Wt X e σ H Q
def isI (p : Int → Prop) : D → Prop := fun d => ∃ i, d = .int i ∧ p i
section
variable {X : Cx} {nb : Nat} {env env1 env' : DEnv} {a b0 c0 e : Expr} {es : List Expr} {pos p p2 : Pos} {d d1 d2 : D} {ds cs : List D} {c c1 c2 c3 : Nat} {P P1 P2 : D → Prop} {PS : List D → Prop} {p1 q1 q2 : Int → Prop}
theorem PB.mono (h : PB X nb e env c P) (k : c ≤ c1) (q : ∀ d, P d → P1 d) : PB X nb e env c1 P1 := fun M b f σ H hS Q z =>
  h M b (f + (c1 - c)) σ H (by rw [show f + (c1 - c) + c = f + c1 by omega]; exact hS) Q fun v H' d k1 g r pd => z v H' d k1 (g.mono (by omega)) r (q d pd)
theorem PB.imp (h : PB X nb e env c P) (q : ∀ d, P d → P1 d) : PB X nb e env c P1 := h.mono (Nat.le_refl _) q
theorem pb_pd (h : ∀ M, PD X M e env d) : PB X nb e env 0 (fun x => x = d) := fun M b f σ H hS Q z => h M σ H hS.en Q fun v H' k r => z v H' d (kp_of k) (hS.bag.same k) r rfl
theorem pab_nil : PAB X nb [] env 0 (fun ds => ds = []) := fun M b f σ H hS Q z => ⟨_, pa_nil, z [] H [] Kp.refl hS.bag rfl rfl⟩
theorem pab_pad (h : ∀ M, PAD X M es env ds) : PAB X nb es env 0 (fun x => x = ds) := fun M b f σ H hS Q z => h M σ H hS.en Q fun v H' k r => z v H' ds (kp_of k) (hS.bag.same k) r rfl
theorem pab_cons (ha : PB X nb a env c1 P1) (hr : PAB X nb es env c2 PS) (hs : starEach (a :: es) X.env = (false, eval a X.env) :: starEach es X.env := by rfl) : PAB X nb (a :: es) env (c1 + c2) (fun xs => ∃ d ds, xs = d :: ds ∧ P1 d ∧ PS ds) := fun M b f σ H hS Q z =>
  ⟨_, pa_cons we wa hs, ha M b (f + c2) σ H (by rw [show f + c2 + c1 = f + (c1 + c2) by omega]; exact hS) _ fun v1 H1 x1 k1 g1 r1 pd1 => hr M b f σ H1 (hS.go k1 g1) _ fun vs H2 xs k2 g2 r2 pd2 => by
    have s2 := (hS.go k1 g1).sm k2 g2.lst
    exact z _ H2 (x1 :: xs) (k1.trans k2) g2 ⟨v1, vs, rfl, rep_sm (hS.go k1 g1).en.wd s2 r1, r2⟩ ⟨x1, xs, rfl, pd1, pd2⟩⟩
theorem pb_op0 {op : Operator} {g : Int → Int → Int} (ho : OpR X (binaryOp op) (rI0 fun i j => .int (g i j))) (ha : PB X nb a env c1 (isI q1)) (hb : PB X nb b0 env c2 (isI q2)) : PB X nb (.BinOp a op b0 pos) env (c1 + c2) (isI fun k => ∃ i j, q1 i ∧ q2 j ∧ k = g i j) := fun M b f σ H hS Q z =>
  ⟨_, pe_op ho we we, ha M b (f + c2) σ H (by rw [show f + c2 + c1 = f + (c1 + c2) by omega]; exact hS) _ fun v1 H1 x1 k1 g1 r1 ⟨i, e1, p1⟩ => hb M b f σ H1 (hS.go k1 g1) _ fun v2 H2 x2 k2 g2 r2 ⟨j, e2, p2⟩ => by
    subst e1 e2
    exact ⟨i, j, r1, r2, z _ H2 (.int (g i j)) (k1.trans k2) g2 rfl ⟨_, rfl, i, j, p1, p2, rfl⟩⟩⟩
theorem pb_add (ha : PB X nb a env c1 (isI q1)) (hb : PB X nb b0 env c2 (isI q2)) : PB X nb (.BinOp a .Add b0 pos) env (c1 + c2) (isI fun k => ∃ i j, q1 i ∧ q2 j ∧ k = i + j) := pb_op0 (g := fun i j => i + j) op_add ha hb
theorem pb_sub (ha : PB X nb a env c1 (isI q1)) (hb : PB X nb b0 env c2 (isI q2)) : PB X nb (.BinOp a .Sub b0 pos) env (c1 + c2) (isI fun k => ∃ i j, q1 i ∧ q2 j ∧ k = i - j) := pb_op0 (g := fun i j => i - j) op_sub ha hb
theorem pb_pdI {i : Int} (h : ∀ M, PD X M e env (.int i)) : PB X nb e env 0 (isI fun k => k = i) := (pb_pd h).imp fun d q => ⟨i, q, rfl⟩
def spB (K : PySem.W.Frag) (cost : Nat) (R : List D → (D → Prop) → Prop) : Sp := fun vs H Q _ => ∃ M b f ds us P, vs = .ref b.1 :: us ∧ M b.1 ∧ Wd M H ∧ Bag H b (f + cost) ∧ Reps K M H ds us ∧ R ds P ∧ ∀ v H' d, Kp b.1 H H' → Bag H' b f → Rep K M H' d v → P d → Q v H'
theorem pb_call {x y : Str} {k n cost : Nat} {ps : List Str} {R : List D → (D → Prop) → Prop} {py : Pos} (C : Cal X.prog X.w X.K X.mg X.base x k ps (spB X.K cost R)) (hr : Room n X.A) (ha : PAB X nb es env c PS) (hR : ∀ ds, PS ds → ∃ P0, R ds P0 ∧ ∀ d, P0 d → P d)
    (hy : X.N[nb]? = some y := by rfl) (vy : Vis X.env.scope y := by first | exact Or.inl rfl | exact Or.inr (Or.inl rfl) | exact Or.inr (Or.inr rfl)) (dy : (y == ("__debug__" : Str)) = false := by decide) (cy : (y == ("__classdict__" : Str)) = false := by decide)
    (hk : k ≤ n := by decide) (hg : Gl X x := by rfl) (hdb : (x == ("__debug__" : Str)) = false := by decide) (he : starEach (.Name y py :: es) X.env = (false, eval (.Name y py) X.env) :: starEach es X.env := by rfl) (hpl : (backTo pos (starEach es X.env)).any (·.1) = false := by rfl) :
    PB X nb (.Call (.Name x p) (.Name y py :: es) [] pos) env (c + cost) P := fun M b f σ H hS Q q => by
  obtain ⟨f0, fd, F, m, kp, B⟩ := C.ex
  refine ⟨_, pe_call F (hr.mono hk) hg m kp B .nil pass0 (pa_cons (pe_var hy vy dy cy) wa he) hdb he hpl, .ref b.1, hS.at_, ha M b (f + cost) σ H (by rw [show f + cost + c = f + (c + cost) by omega]; exact hS) _ fun vs H1 ds k1 g1 r1 pd => ?_⟩
  obtain ⟨P0, hP, himp⟩ := hR ds pd
  show spB X.K cost R ((V.ref b.1 :: vs) ++ []) H1 Q _
  rw [List.append_nil]
  exact ⟨M, b, f, ds, vs, P0, rfl, hS.mb, (hS.go k1 g1).en.wd, g1, r1, hP, fun v H2 d k2 g2 r2 pd2 => q v H2 d (k1.trans k2) g2 r2 (himp d pd2)⟩
theorem ptb_ptd {k : Bool} (h : ∀ M, PTD X M e env k) : PTB X nb e env 0 (fun x => x = k) := fun M b f σ H hS Q z => h M σ H hS.en Q fun H' s => z H' k (kp_of s) (hS.bag.same s) rfl
theorem ptb_eqI (ha : PB X nb a env c1 (isI q1)) (hb : PB X nb b0 env c2 (isI q2)) : PTB X nb (.Compare a [.Eq] [b0] pos) env (c1 + c2) (fun _ => True) := fun M b f σ H hS Q z =>
  ⟨_, pt_cmpR op_eq we we (nomark _), ha M b (f + c2) σ H (by rw [show f + c2 + c1 = f + (c1 + c2) by omega]; exact hS) _ fun v1 H1 x1 k1 g1 r1 ⟨i, e1, p1⟩ => hb M b f σ H1 (hS.go k1 g1) _ fun v2 H2 x2 k2 g2 r2 ⟨j, e2, p2⟩ => by
    subst e1 e2
    have r1' : v1 = .int i := r1
    have r2' : v2 = .int j := r2
    subst r1' r2'
    exact ⟨rfl, _, rfl, z H2 _ (k1.trans k2) g2 trivial⟩⟩
theorem pb_if {PT : Bool → Prop} (hc : PTB X nb c0 env c1 PT) (h1 : PB X nb a env c2 P) (h2 : PB X nb b0 env c2 P) : PB X nb (.IfExp c0 a b0 pos) env (c1 + c2) P := fun M b f σ H hS Q z =>
  ⟨_, pe_ifExp wt we we, hc M b (f + c2) σ H (by rw [show f + c2 + c1 = f + (c1 + c2) by omega]; exact hS) _ fun H1 k k1 g1 _ => by
    cases k with
    | true => exact h1 M b f σ H1 (hS.go k1 g1) _ fun v H2 d k2 g2 r2 pd => z v H2 d (k1.trans k2) g2 r2 pd
    | false => exact h2 M b f σ H1 (hS.go k1 g1) _ fun v H2 d k2 g2 r2 pd => z v H2 d (k1.trans k2) g2 r2 pd⟩
theorem rep_new {K : PySem.W.Frag} {M : Mu} {H : Hp} {q : Addr} {vs : List V} (w : Wd M H) (n : H q = none) (r : Reps K M H ds vs) : Rep K M (upd H q (.lst vs)) (.lst ds) (.ref q) := ⟨q, vs, rfl, w.notM n, upd_same, reps_same w (same_new n) r⟩
theorem pb_lst (h : PAB X nb es env c PS) (hl : ∀ ds, PS ds → ds.length ≤ 1000) : PB X nb (.List es pos) env c (fun d => ∃ ds, d = .lst ds ∧ PS ds) := fun M b f σ H hS Q z =>
  ⟨_, pe_lst wa, h M b f σ H hS _ fun vs H1 ds k1 g1 r1 pd => ⟨by rw [r1.length]; exact sl_small (hl ds pd), fun q nq => z _ _ (.lst ds) (k1.trans (kp_of (same_new nq))) (g1.same (same_new nq)) (rep_new (hS.go k1 g1).en.wd nq r1) ⟨ds, rfl, pd⟩⟩⟩
theorem pb_tup {k : Nat} (h : PAB X nb es env c PS) (hl : ∀ ds, PS ds → ds.length ≤ 1000) : PB X nb (.Tuple es k pos) env c (fun d => ∃ ds, d = .tup ds ∧ PS ds) := fun M b f σ H hS Q z =>
  ⟨_, pe_tup wa, h M b f σ H hS _ fun vs H1 ds k1 g1 r1 pd => ⟨by rw [r1.length]; exact sl_small (hl ds pd), fun q nq => z _ _ (.tup ds) (k1.trans (kp_of (same_new nq))) (g1.same (same_new nq)) ⟨q, vs, rfl, SqT.of upd_same, reps_same (hS.go k1 g1).en.wd (same_new nq) r1⟩ ⟨ds, rfl, pd⟩⟩⟩
theorem pb_ixL (ha : ∀ M, PD X M a env (.lst ds)) (hb : PB X nb b0 env c (isI fun i => 0 ≤ i ∧ i < ds.length)) (hs : PlainIx b0 := by exact fun _ _ => rfl) : PB X nb (.Subscript a b0 pos) env c (fun d => d ∈ ds) := fun M b f σ H hS Q z =>
  ⟨_, pe_ix ix_list we we hs, ha M σ H hS.en _ fun v1 H1 e1 ⟨t, vs, r1, n, r2, r3⟩ => hb M b f σ H1 (hS.same e1) _ fun v2 H2 x2 k2 g2 r4 ⟨i, e2, h0, h1⟩ => by
    subst e2
    have s2 := (hS.same e1).sm k2 g2.lst
    have w1 := hS.en.wd.same e1
    obtain ⟨j, rfl⟩ := Int.eq_ofNat_of_zero_le h0
    have hj : j < ds.length := by omega
    have hd : ds[j]? = some ds[j] := List.getElem?_eq_getElem hj
    obtain ⟨v, h1, h2⟩ := (reps_sm w1 s2 r3).atI (atI_nat hd)
    exact ⟨t, vs, (j : Int), v, r1, r4, SqL.of (k2 t _ (fun zz => n (by rw [zz]; exact hS.mb)) r2), h1, z v H2 _ ((kp_of e1).trans k2) g2 h2 (List.mem_of_getElem? hd)⟩⟩
end
inductive OB where
  | nx (E : DEnv → Prop) | rt (P : D → Prop)
def OkB (o : OB) (K : PySem.W.Frag) (M : Mu) (b : Addr × Addr) (nb f : Nat) (H0 : Hp) (D : Ends) : Prop := match o with
  | .nx E => ∀ σ H env, Kp b.1 H0 H → StB K M b nb f H σ env → E env → D.nx σ H
  | .rt P => ∀ v H d, Kp b.1 H0 H → Bag H b f → Rep K M H d v → P d → D.rt v H
theorem OkB.kp {o : OB} {K : PySem.W.Frag} {M : Mu} {b : Addr × Addr} {nb f : Nat} {H H' : Hp} {D : Ends} (h : OkB o K M b nb f H D) (k : Kp b.1 H H') : OkB o K M b nb f H' D := by
  cases o with
  | nx E => exact fun σ H1 env k1 s1 e1 => h σ H1 env (k.trans k1) s1 e1
  | rt P => exact fun v H1 d k1 g1 r1 p1 => h v H1 d (k.trans k1) g1 r1 p1
def SB (X : Cx) (nb : Nat) (sts : List Stmt) (env : DEnv) (c : Nat) (o : OB) : Prop := ∀ M b f (D : Ends) σ H, StB X.K M b nb (f + c) H σ env → OkB o X.K M b nb f H D → Wss X sts D σ H
def S1B (X : Cx) (nb : Nat) (st : Stmt) (env : DEnv) (c : Nat) (o : OB) : Prop := ∀ M b f (D : Ends) σ H, StB X.K M b nb (f + c) H σ env → OkB o X.K M b nb f H D → Ws X st D σ H
section
variable {X : Cx} {nb : Nat} {env env1 env' : DEnv} {a b0 c0 e tg iter : Expr} {es : List Expr} {st : Stmt} {sts body els : List Stmt} {pos p p2 : Pos} {d d1 d2 : D} {ds cs : List D} {c c1 c2 c3 : Nat} {P P1 P2 : D → Prop} {PS : List D → Prop} {E : DEnv → Prop} {o : OB}
theorem SB.nrm (env' : DEnv) (q : env = env') (h : SB X nb sts env' c o) : SB X nb sts env c o := q ▸ h
theorem SB.pre (h : SB X nb sts env' c o) (l : Le env env') : SB X nb sts env c o := fun M b f D σ H hS k => h M b f D σ H (hS.le l) k
theorem SB.mono (h : SB X nb sts env c o) (k : c ≤ c1) : SB X nb sts env c1 o := fun M b f D σ H hS q => h M b f D σ H (hS.less (by omega)) q
theorem sb_cons (h1 : S1B X nb st env c1 (.nx E)) (h2 : ∀ env1, E env1 → SB X nb sts env1 c2 o) : SB X nb (st :: sts) env (c1 + c2) o := fun M b f D σ H hS k =>
  ⟨_, pss_cons ws wss, h1 M b (f + c2) { D with nx := Wss X sts D } σ H (by rw [show f + c2 + c1 = f + (c1 + c2) by omega]; exact hS) fun σ' H' env1 k1 s1 e1 => h2 env1 e1 M b f D σ' H' s1 (k.kp k1)⟩
theorem sb_last (h1 : S1B X nb st env c o) : SB X nb [st] env c o := fun M b f D σ H hS k => ⟨_, pss_one ws, h1 M b f D σ H hS k⟩
theorem sb_nil (hE : E env) : SB X nb [] env 0 (.nx E) := fun M b f D σ H hS k => ⟨_, pss_nil, k σ H env Kp.refl hS hE⟩
theorem s1b_ret (h : PB X nb e env c P) : S1B X nb (.Return (some e) pos) env c (.rt P) := fun M b f D σ H hS k => ⟨_, ps_ret we, h M b f σ H hS _ fun v H1 d k1 g1 r1 p1 => k v H1 d k1 g1 r1 p1⟩
theorem s1b_set (n : Nat) {x : Str} {px : Pos} (h : PB X nb e env c P) (hN : X.N.Nodup) (hn : nb ≠ n := by decide) (hi : X.N[n]? = some x := by rfl) (hx : Loc X.env.scope x := by first | exact Or.inl rfl | exact Or.inr rfl) (hs : swapsWith e (some (.Name x px)) pos.line X.env = pure false := by rfl)
    (hf : X.fn x = true ∨ X.env.scope.names.lookup x = some .local := by first | exact .inl rfl | exact .inr rfl) : S1B X nb (.Assign [.Name x px] e pos) env c (.nx fun env' => ∃ d, P d ∧ env' = env.set n (some d)) := fun M b f D σ H hS k =>
  ⟨_, ps_set (i := n) hN hi hx we hs hf, h M b f σ H hS _ fun v H1 d k1 g1 r1 p1 => k _ H1 _ k1 ((hS.go k1 g1).set r1 hn) ⟨d, p1, rfl⟩⟩
theorem s1b_par (n m : Nat) {x y : Str} {px py pt : Pos} {kt k2 : Nat} {pt2 : Pos} (ha : PB X nb a env c1 P1) (hb : PB X nb b0 env c2 P2) (hN : X.N.Nodup) (hn : nb ≠ n := by decide) (hm : nb ≠ m := by decide) (hi : X.N[n]? = some x := by rfl) (hj : X.N[m]? = some y := by rfl) (hij : n ≠ m := by decide) (hx : X.env.scope.names.lookup x = some .local := by rfl) (hy : X.env.scope.names.lookup y = some .local := by rfl)
    (hw : swappedStores [.Tuple [.Name x px, .Name y py] kt pt] (.Tuple [a, b0] k2 pt2) X.env = pure (some [x, y]) := by rfl) (hs : swapsWithSole [.Tuple [.Name x px, .Name y py] kt pt] (.Tuple [a, b0] k2 pt2) pos.line X.env = pure false := by rfl) (hc : X.calm = true := by rfl)
    (s0 : starEach [a, b0] X.env = (false, eval a X.env) :: starEach [b0] X.env := by rfl) (s1 : starEach [b0] X.env = (false, eval b0 X.env) :: starEach [] X.env := by rfl) :
    S1B X nb (.Assign [.Tuple [.Name x px, .Name y py] kt pt] (.Tuple [a, b0] k2 pt2) pos) env (c1 + c2) (.nx fun env' => ∃ d1 d2, P1 d1 ∧ P2 d2 ∧ env' = (env.set n (some d1)).set m (some d2)) := fun M b f D σ H hS k =>
  ⟨_, ps_par (i := n) (j := m) hc hN hi hj hij hx hy (pa_cons we (pa_cons we pa_nil s1) s0) hw hs, ha M b (f + c2) σ H (by rw [show f + c2 + c1 = f + (c1 + c2) by omega]; exact hS) _ fun v1 H1 d1 k1 g1 r1 p1 => hb M b f σ H1 (hS.go k1 g1) _ fun v2 H2 d2 k2 g2 r2 p2 => by
    have s2 := (hS.go k1 g1).sm k2 g2.lst
    have r1' := rep_sm (hS.go k1 g1).en.wd s2 r1
    exact ⟨v1, v2, rfl, k _ H2 _ (k1.trans k2) ((((hS.go k1 g1).go k2 g2).set r1' hn).set r2 hm) ⟨d1, d2, p1, p2, rfl⟩⟩⟩
theorem s1b_if {PT : Bool → Prop} (hc : PTB X nb c0 env c1 PT) (h1 : PT true → SB X nb body env c2 o) (h2 : PT false → SB X nb els env c2 o) : S1B X nb (.If c0 body els pos) env (c1 + c2) o := fun M b f D σ H hS k =>
  ⟨_, ps_if wt wss wss, hc M b (f + c2) σ H (by rw [show f + c2 + c1 = f + (c1 + c2) by omega]; exact hS) _ fun H1 kk k1 g1 pt => by
    cases kk with
    | true => exact h1 pt M b f D σ H1 (hS.go k1 g1) (k.kp k1)
    | false => exact h2 pt M b f D σ H1 (hS.go k1 g1) (k.kp k1)⟩
end
section
variable {P : Program} {w : World} {K : PySem.W.Frag} {mg : Str → Option Value} {base : Heap}
theorem okB {x : Str} {st : Stmt} {f : Addr} {fd : FuncData} {N ps : List Str} {k cost : Nat} {R : List D → (D → Prop) → Prop} (F : FnP K x st f fd) (S : FnScope N ps (defScope st)) (hps : 1 ≤ ps.length) (hN : ps.length ≤ N.length) (len : ∀ ds P, R ds P → ds.length + 1 = ps.length)
    (body : ∀ (cdv : Value) (A : Around) (outer : List Env) (s : Shared) (H : Hp) (E : XK), Room k (A.deeper (envOfC x (defScope st) s.heap.objs.size f cdv)) → ∀ ds P0, R ds P0 → SB (BX P w K mg base N x (defScope st) f cdv A outer s H E) 0 (defBody st) (none :: env0 N.tail ds) cost (.rt P0)) : FnOk P w K mg base CX0 (k + 1) f fd ps (spB K cost R) := by
  refine F.ok S (fun vs H Q E h => ?_) fun cdv A outer s H vs Q E hr h => ?_
  · obtain ⟨M, b, g, ds, us, P0, rfl, _, _, _, r, hR, _⟩ := h
    rw [List.length_cons, r.length]
    exact len ds P0 hR
  · obtain ⟨M, b, g, ds, us, P0, rfl, mb, wd, bg, r, hR, q⟩ := h
    have hst : StB K M b 0 (g + cost) H (L2.start N (.ref b.1 :: us)) (none :: env0 N.tail ds) := by
      have e := en_start (K := K) (M := M) (H := H) (N := N.tail) wd r
      have hl := len ds P0 hR
      have hs : L2.start N (.ref b.1 :: us) = some (.ref b.1) :: L2.start N.tail us := by
        unfold L2.start
        rw [List.map_cons, List.cons_append, List.length_cons, List.length_tail]
        rw [show N.length - (us.length + 1) = N.length - 1 - us.length by omega]
      refine ⟨⟨wd, ?_, fun i d z => ?_⟩, mb, by rw [hs] <;> rfl, bg⟩
      · rw [hs, List.length_cons, List.length_cons, e.len]
      · cases i with
        | zero => simp at z
        | succ i =>
          rw [hs]
          exact e.at_ i d (by simpa using z)
    obtain ⟨t, ht, hq⟩ := body cdv A outer s H E hr ds P0 hR M b g { nx := fun _ H' => Q .non H', rt := Q } (L2.start N (.ref b.1 :: us)) H hst fun v H1 d k1 g1 r1 p1 => q v H1 d k1 g1 r1 p1
    exact ⟨t, PSs.nox ht, hq⟩
end
end Wk
end
section
set_option Elab.async false
set_option linter.all false
set_option maxRecDepth 100000
set_option maxHeartbeats 4000000
namespace Wk
open PySem PySem.Spec PyProof.Rows L2 Fq
open Mi (Col Leg P2 pl dotQ sqAt)
local macro_rules | `(tactic| walk_at "nz") => `(tactic| first | assumption | exact Nz.sn (by assumption) | exact Nz.sd (by assumption) | (apply Nz.mul <;> walk_at "nz") | (apply Nz.add <;> walk_at "nz") | (apply Nz.sub <;> walk_at "nz") | (apply Nz.neg <;> walk_at "nz") | exact (show Nz 40 _ by unfold Nz; decide))
local macro_rules | `(tactic| walk_at "mw") => `(tactic| (apply Nz.w; (· walk_at "nz"); (· walk_at "nz"); decide))
def fz (env : DEnv) (h s c : Int) (ns : List Int) : DEnv := env.set 0 (some (.lst [.int h, .int s, .int c, .lst (ns.map D.int)]))
structure TkS (K : PySem.W.Frag) (M : Mu) (b : Addr × Addr) (H0 H : Hp) (σ : L2.St) (env : DEnv) (h s c : Int) (ns : List Int) : Prop where
  k : Kp b.1 H0 H
  en : En K M H σ env
  mb : M b.1
  at_ : σ[0]? = some (some (.ref b.1))
  e1 : H b.1 = some (.lst [.int h, .int s, .int c, .ref b.2])
  e2 : b.2 ≠ b.1
  e3 : H b.2 = some (.lst (ns.map V.int))
theorem reps_of_ints {K : PySem.W.Frag} {M : Mu} {H : Hp} : ∀ ns : List Int, Reps K M H (ns.map D.int) (ns.map V.int)
  | [] => rfl
  | n :: ns => ⟨.int n, ns.map V.int, rfl, rfl, reps_of_ints ns⟩
section
variable {K : PySem.W.Frag} {M : Mu} {b : Addr × Addr} {H0 H H' : Hp} {σ : L2.St} {env env' : DEnv} {h s c : Int} {ns : List Int}
def Cut (M : Mu) (b : Addr × Addr) : Mu := fun a => M a ∧ a ≠ b.1 ∧ a ≠ b.2
theorem TkS.fz (t : TkS K M b H0 H σ env h s c ns) : En K (Cut M b) H σ (fz env h s c ns) := by
  have l0 : 0 < env.length := by
    rw [← t.en.len]
    exact (List.getElem?_eq_some_iff.mp t.at_).1
  refine ⟨fun a m => t.en.wd a m.1, by unfold Wk.fz; rw [List.length_set]; exact t.en.len, fun i d q => ?_⟩
  unfold Wk.fz at q
  by_cases e : 0 = i
  · subst e
    rw [List.getElem?_set_self l0] at q
    cases q
    exact ⟨_, t.at_, b.1, _, rfl, fun z => z.2.1 rfl, t.e1, .int h, _, rfl, rfl, .int s, _, rfl, rfl, .int c, _, rfl, rfl, .ref b.2, [], rfl, ⟨b.2, _, rfl, fun z => z.2.2 rfl, t.e3, reps_of_ints ns⟩, rfl⟩
  · rw [List.getElem?_set_ne e] at q
    obtain ⟨v, g1, g2⟩ := t.en.at_ i d q
    exact ⟨v, g1, rep_less (fun a m => m.1) g2⟩
theorem TkS.same (t : TkS K M b H0 H σ env h s c ns) (e : Same H H') : TkS K M b H0 H' σ env h s c ns := ⟨t.k.trans (kp_of e), t.en.same e, t.mb, t.at_, e _ _ t.e1, t.e2, e _ _ t.e3⟩
theorem TkS.set {j : Nat} {d : D} {v : V} (t : TkS K M b H0 H σ env h s c ns) (r : Rep K M H d v) (hj : 0 ≠ j) : TkS K M b H0 H (σ.set j (some v)) (env.set j (some d)) h s c ns := ⟨t.k, t.en.set r, t.mb, by rw [List.getElem?_set_ne (Ne.symm hj)]; exact t.at_, t.e1, t.e2, t.e3⟩
theorem TkS.le (t : TkS K M b H0 H σ env h s c ns) (l : Le env env') : TkS K M b H0 H σ env' h s c ns := ⟨t.k, t.en.le l, t.mb, t.at_, t.e1, t.e2, t.e3⟩
theorem TkS.put {h' s' c' : Int} (t : TkS K M b H0 H σ env h s c ns) : TkS K M b H0 (upd H b.1 (.lst [.int h', .int s', .int c', .ref b.2])) σ env h' s' c' ns :=
  ⟨fun a o n e => by rw [upd_ne n]; exact t.k a o n e, t.en.sm (sm_write t.en.wd t.mb), t.mb, t.at_, upd_same, t.e2, by rw [upd_ne t.e2]; exact t.e3⟩
end
inductive TO where
  | nx (env : DEnv) (h s c : Int) | rt (many : Int) (f : Nat)
def OkT (M : Mu) (b : Addr × Addr) (ns : List Int) (o : TO) (K : PySem.W.Frag) (H0 : Hp) (D : Ends) : Prop := match o with
  | .nx env h s c => ∀ σ H, TkS K M b H0 H σ env h s c ns → D.nx σ H
  | .rt many f => ∀ H i, Kp b.1 H0 H → Bag H b f → 0 ≤ i → i < many → D.rt (.int i) H
def TS (X : Cx) (sts : List Stmt) (env : DEnv) (h s c : Int) (ns : List Int) (o : TO) : Prop := ∀ M b D σ H H0, TkS X.K M b H0 H σ env h s c ns → OkT M b ns o X.K H0 D → Wss X sts D σ H
def T1 (X : Cx) (st : Stmt) (env : DEnv) (h s c : Int) (ns : List Int) (o : TO) : Prop := ∀ M b D σ H H0, TkS X.K M b H0 H σ env h s c ns → OkT M b ns o X.K H0 D → Ws X st D σ H
theorem get_list {X : Cx} : PGet X (rIxL X.K) := by
  intro pins s σ H o i ov iv Q I ro ri h
  obtain ⟨p, xs, k, z, rfl, rfl, hq, he, q⟩ := h
  cases ro
  obtain ⟨t, rfl⟩ := ri
  obtain ⟨its, r, pl, hz⟩ := I.list hq
  obtain ⟨j, h1, h2, h3, h4, h5⟩ := atI_get he
  obtain ⟨w, ew, rw'⟩ := r.get h2
  have hl := r.length
  have hn := line63
  by_cases h0 : 0 ≤ k
  · have hj : k.toNat = j := by
      rw [seqIndex_of h0 h5] at h1
      exact Option.some.inj h1
    exact wpAny_getItem_list pl.isList h0 (by omega) (by rw [hj]; simpa using ew) ⟨z, H, I, rw', q⟩
  · have hj : (k + (its.toArray.size : Int)).toNat = j := by
      rw [seqIndex_neg (by omega) h4] at h1
      rw [List.size_toArray, ← hl]
      exact Option.some.inj h1
    exact wpAny_getItem_list_neg pl.isList (by omega) (by rw [List.size_toArray] <;> omega) (by omega) (by rw [hj]; simpa using ew) ⟨z, H, I, rw', q⟩
section
variable {X : Cx} {env env1 env' : DEnv} {a b0 c0 e : Expr} {st : Stmt} {sts body els : List Stmt} {pos p p2 : Pos} {d : D} {h s c h1 s1 c1 : Int} {ns : List Int} {o : TO}
theorem TS.nrm (env' : DEnv) (q : env = env') (t : TS X sts env' h s c ns o) : TS X sts env h s c ns o := q ▸ t
theorem TS.pre (t : TS X sts env' h s c ns o) (l : Le env env') : TS X sts env h s c ns o := fun M b D σ H H0 k z => t M b D σ H H0 (k.le l) z
theorem ts_cons (g1 : T1 X st env h s c ns (.nx env1 h1 s1 c1)) (g2 : TS X sts env1 h1 s1 c1 ns o) : TS X (st :: sts) env h s c ns o := fun M b D σ H H0 k z =>
  ⟨_, pss_cons ws wss, g1 M b { D with nx := Wss X sts D } σ H H0 k fun σ' H' k' => g2 M b D σ' H' H0 k' z⟩
theorem ts_last (g1 : T1 X st env h s c ns o) : TS X [st] env h s c ns o := fun M b D σ H H0 k z => ⟨_, pss_one ws, g1 M b D σ H H0 k z⟩
theorem ts_stop {many : Int} {f : Nat} (g1 : T1 X st env h s c ns (.rt many f)) : TS X (st :: sts) env h s c ns (.rt many f) := fun M b D σ H H0 k z => ⟨_, pss_cons ws wss, g1 M b { D with nx := Wss X sts D } σ H H0 k z⟩
theorem TS.le (t : TS X sts env h s c ns (.nx env1 h1 s1 c1)) (l : Le env1 env') : TS X sts env h s c ns (.nx env' h1 s1 c1) := fun M b D σ H H0 k z => t M b D σ H H0 k fun σ' H' k' => z σ' H' (k'.le l)
theorem ts_nil : TS X [] env h s c ns (.nx env h s c) := fun M b D σ H H0 k z => ⟨_, pss_nil, z σ H k⟩
theorem t1_set (n : Nat) {x : Str} {px : Pos} (g : ∀ M, PD X M e (fz env h s c ns) d) (hf0 : Flat d) (hN : X.N.Nodup) (hn : 0 ≠ n := by decide) (hi : X.N[n]? = some x := by rfl) (hx : Loc X.env.scope x := by first | exact Or.inl rfl | exact Or.inr rfl) (hs : swapsWith e (some (.Name x px)) pos.line X.env = pure false := by rfl)
    (hf : X.fn x = true ∨ X.env.scope.names.lookup x = some .local := by first | exact .inl rfl | exact .inr rfl) : T1 X (.Assign [.Name x px] e pos) env h s c ns (.nx (env.set n (some d)) h s c) := fun M b D σ H H0 k z =>
  ⟨_, ps_set (i := n) hN hi hx we hs hf, g _ σ H k.fz _ fun v H1 e1 r1 => z _ H1 ((k.same e1).set (rep_flat hf0 r1) hn)⟩
theorem t1_ret {many i : Int} {f : Nat} (g : ∀ M, PD X M e (fz env h s c ns) (.int i)) (hi : 0 ≤ i ∧ i < many) (hb : 0 ≤ h ∧ (0 ≤ s ∧ s < 2147483648) ∧ (0 ≤ c ∧ c + f ≤ 100000)) (hns : (∀ n ∈ ns, 0 ≤ n) ∧ ns.length ≤ 63) : T1 X (.Return (some e) pos) env h s c ns (.rt many f) := fun M b D σ H H0 k z =>
  ⟨_, ps_ret we, g _ σ H k.fz _ fun v H1 e1 r1 => by
    have k1 := k.same e1
    rw [show v = .int i from r1]
    exact z H1 i k1.k ⟨h, s, c, ns, k1.e1, k1.e2, k1.e3, hb.1, hb.2.1, hb.2.2, hns.1, hns.2⟩ hi.1 hi.2⟩
theorem t1_if {kk : Bool} (g : ∀ M, PTD X M c0 (fz env h s c ns) kk) (g1 : kk = true → TS X body env h s c ns o) (g2 : kk = false → TS X els env h s c ns o) : T1 X (.If c0 body els pos) env h s c ns o := fun M b D σ H H0 k z =>
  ⟨_, ps_if wt wss wss, g _ σ H k.fz _ fun H1 e1 => by
    cases kk with
    | true => exact g1 rfl M b D σ H1 H0 (k.same e1) z
    | false => exact g2 rfl M b D σ H1 H0 (k.same e1) z⟩
theorem t1_put0 {x : Str} {px pk ps : Pos} {kk : Nat} {i : Int} (g : ∀ M, PD X M e (fz env h s c ns) (.int i))
    (hx : X.N[0]? = some x := by rfl) (vx : Vis X.env.scope x := by exact Or.inl rfl) (hd : (x == ("__debug__" : Str)) = false := by decide) (hcd : (x == ("__classdict__" : Str)) = false := by decide)
    (ha1 : ∀ v, assign (.Subscript (.Name x px) (.Constant (.int 0) kk pk) ps) X.env v = (do
      let ov ← holding [v] (eval (.Name x px) X.env)
      let iv ← holding [v, ov] (eval (.Constant (.int 0) kk pk) X.env)
      standAt ps
      holding [v, ov, iv] (setItem ov iv v)
      release [v, ov, iv] []) := by intro _; rfl)
    (hsw : swapsWithSole [.Subscript (.Name x px) (.Constant (.int 0) kk pk) ps] e pos.line X.env = pure false := by rfl) (hw : swappedStores [.Subscript (.Name x px) (.Constant (.int 0) kk pk) ps] e X.env = pure none := by rfl)
    (h1 : (assignEach [.Subscript (.Name x px) (.Constant (.int 0) kk pk) ps] X.env).map (·.2) = [assign (.Subscript (.Name x px) (.Constant (.int 0) kk pk) ps) X.env] := by rfl) :
    T1 X (.Assign [.Subscript (.Name x px) (.Constant (.int 0) kk pk) ps] e pos) env h s c ns (.nx env i s c) := fun M b D σ H H0 k z =>
  ⟨_, ps_asg we (pg_sub (pe_var hx vx hd hcd) pe_int set_list ha1) hsw hw h1, g _ σ H k.fz _ fun v H1 e1 r1 => by
    have k1 := k.same e1
    rw [show v = .int i from r1]
    exact ⟨_, k1.at_, b.1, _, 0, 0, rfl, rfl, k1.e1, rfl, z σ _ k1.put⟩⟩
theorem t1_put1 {x : Str} {px pk ps : Pos} {kk : Nat} {i : Int} (g : ∀ M, PD X M e (fz env h s c ns) (.int i))
    (hx : X.N[0]? = some x := by rfl) (vx : Vis X.env.scope x := by exact Or.inl rfl) (hd : (x == ("__debug__" : Str)) = false := by decide) (hcd : (x == ("__classdict__" : Str)) = false := by decide)
    (ha1 : ∀ v, assign (.Subscript (.Name x px) (.Constant (.int 1) kk pk) ps) X.env v = (do
      let ov ← holding [v] (eval (.Name x px) X.env)
      let iv ← holding [v, ov] (eval (.Constant (.int 1) kk pk) X.env)
      standAt ps
      holding [v, ov, iv] (setItem ov iv v)
      release [v, ov, iv] []) := by intro _; rfl)
    (hsw : swapsWithSole [.Subscript (.Name x px) (.Constant (.int 1) kk pk) ps] e pos.line X.env = pure false := by rfl) (hw : swappedStores [.Subscript (.Name x px) (.Constant (.int 1) kk pk) ps] e X.env = pure none := by rfl)
    (h1 : (assignEach [.Subscript (.Name x px) (.Constant (.int 1) kk pk) ps] X.env).map (·.2) = [assign (.Subscript (.Name x px) (.Constant (.int 1) kk pk) ps) X.env] := by rfl) :
    T1 X (.Assign [.Subscript (.Name x px) (.Constant (.int 1) kk pk) ps] e pos) env h s c ns (.nx env h i c) := fun M b D σ H H0 k z =>
  ⟨_, ps_asg we (pg_sub (pe_var hx vx hd hcd) pe_int set_list ha1) hsw hw h1, g _ σ H k.fz _ fun v H1 e1 r1 => by
    have k1 := k.same e1
    rw [show v = .int i from r1]
    exact ⟨_, k1.at_, b.1, _, 1, 1, rfl, rfl, k1.e1, rfl, z σ _ k1.put⟩⟩
theorem t1_inc2 {x : Str} {px pk ps p1 : Pos} {kk k2 : Nat} (hx : X.N[0]? = some x := by rfl) (vx : Vis X.env.scope x := by exact Or.inl rfl) (hd : (x == ("__debug__" : Str)) = false := by decide) (hcd : (x == ("__classdict__" : Str)) = false := by decide)
    (ha : ∀ ov iv new, augStore (.Constant (.int 2) kk pk) ov iv new = (do holding [new, ov, iv] (setItem ov iv new); release [new, ov, iv] []; pure .next) := by intros; rfl) :
    T1 X (.AugAssign (.Subscript (.Name x px) (.Constant (.int 2) kk pk) ps) .Add (.Constant (.int 1) k2 p1) pos) env h s c ns (.nx env h s (c + 1)) := fun M b D σ H H0 k z =>
  ⟨_, ps_augS (pe_var hx vx hd hcd) pe_int get_list pe_int ip_add set_list ha, _, k.at_, b.1, _, 2, _, rfl, rfl, SqL.of k.e1, rfl, c, 1, rfl, rfl, b.1, _, 2, 2, rfl, rfl, k.e1, rfl, z σ _ k.put⟩
end
abbrev ManyOk (n : Int) : Prop := 1 ≤ n ∧ n ≤ 1000000
def R_l_take (ds : List D) (P : D → Prop) : Prop := ∃ n, ds = [.int n] ∧ ManyOk n ∧ P = isI fun i => 0 ≤ i ∧ i < n
theorem cut_ints (ns : List Int) (lo hi : Option Int) : ∃ ms : List Int, cutD (ns.map D.int) lo hi = ms.map D.int ∧ (∀ n ∈ ms, n ∈ ns) ∧ ms.length ≤ ns.length := by
  refine ⟨(ns.drop (HT.sIx (ns.map D.int).length 0 lo)).take (HT.sIx (ns.map D.int).length (ns.map D.int).length hi - HT.sIx (ns.map D.int).length 0 lo), ?_, fun n h => List.mem_of_mem_drop (List.mem_of_mem_take h), ?_⟩
  · unfold cutD
    rw [← List.map_drop, ← List.map_take]
  · rw [List.length_take, List.length_drop]
    omega
theorem fmod_in {a n : Int} (h : 0 < n) : 0 ≤ a.fmod n ∧ a.fmod n < n := ⟨Int.fmod_nonneg_of_pos a h, Int.fmod_lt_of_pos a h⟩
section
variable {P : Program} {w : World} {K : PySem.W.Frag} {mg : Str → Option Value} {base : Heap}
theorem cal_l_take {f : Addr} {fd : FuncData} (F : FnP K "_law_take" s_l_take f fd) (m : mg "_law_take" = some (.ref f)) (m_int : mg "int" = none) : Cal P w K mg base "_law_take" 1 ["_law_bag_here", "_law_many"] (spB K 1 R_l_take) := by
  refine cal_of F m (F.bindsN fun _ _ _ _ _ _ us hl => match us, hl with | [_, _], _ => rfl) (okB F sc_l_take (by decide) (by decide) (fun ds d h => ?_) fun cdv A outer s H E hr ds P0 hR => ?_)
  · obtain ⟨_, rfl, _⟩ := h
    rfl
  have nd := sc_l_take.nd
  obtain ⟨many, rfl, ⟨m1, m2⟩, rfl⟩ := hR
  have zm : Nz 40 many := Nz.of (by omega) (by omega)
  have dm : CDivNW 0 many := cdiv_of zm (by omega) (by decide)
  intro M b f0 Dn σ H1 hS hO
  obtain ⟨h, s0, c, ns, e1, e2, e3, h0, hs0, hc0, hns, hlen⟩ := hS.bag
  have k0 : TkS K M b H1 H1 σ (none :: env0 N_l_take.tail [.int many]) h s0 c ns := ⟨Kp.refl, hS.en, hS.mb, hS.at_, e1, e2, e3⟩
  have hO' : OkT M b ns (.rt many f0) K H1 Dn := fun H2 i k1 g1 a1 a2 => hO _ H2 (.int i) k1 g1 rfl ⟨i, rfl, a1, a2⟩
  refine (show TS _ _ _ _ _ _ _ (.rt many f0) from ?_) M b Dn σ H1 H1 k0 hO'
  refine TS.nrm [none, some (.int many), none, none, none, none, none] rfl ?_
  have tail : ∀ h s c : Int, 0 ≤ h → (0 ≤ s ∧ s < 2147483648) → (0 ≤ c ∧ c + f0 ≤ 100000) → TS (BX P w K mg base N_l_take "_law_take" (defScope s_l_take) f cdv A outer ‹Shared› H E) ((defBody s_l_take).tail) [none, some (.int many), none, none, none, none, none] h s c ns (.rt many f0) := by
    intro h s c h0 hs hc
    have zs : Nz 40 s := Nz.of (by omega) (by omega)
    by_cases hp : 0 < h
    · refine ts_stop (t1_if (kk := true) (fun M => PTD.of (ptd_gt (pd_ixL (pd_var 0) pd_int) pd_int) (decide_eq_true hp)) (fun _ => ?_) (fun z => by cases z))
      refine ts_cons (t1_set 4 (d := .int (h.fmod many)) (fun M => pd_modN (pd_int1 m_int (pd_ixL (pd_var 0) pd_int)) (pd_var 1) (by omega)) trivial nd) ?_
      refine TS.nrm [none, some (.int many), none, none, some (.int (h.fmod many)), none, none] rfl ?_
      refine ts_cons (t1_put0 (i := h.fdiv many) (fun M => pd_fdivNW (pd_int1 m_int (pd_ixL (pd_var 0) pd_int)) (pd_var 1) ⟨dm.1, dm.2⟩)) ?_
      exact ts_last (t1_ret (fun M => pd_var 4) (fmod_in (by omega)) ⟨by rw [Int.fdiv_eq_ediv_of_nonneg _ (by omega)]; exact Int.ediv_nonneg h0 (by omega), hs, hc⟩ ⟨hns, hlen⟩)
    · refine ts_cons (t1_if (kk := false) (fun M => PTD.of (ptd_gt (pd_ixL (pd_var 0) pd_int) pd_int) (decide_eq_false hp)) (fun z => by cases z) (fun _ => ts_nil)) ?_
      have g1 := fmod_in (a := (s + 1) * 39373) (n := 1000000007) (by decide)
      refine ts_cons (t1_set 5 (d := .int (((s + 1) * 39373).fmod 1000000007)) (fun M => pd_modN (pd_int1 m_int (pd_mulW (pd_add (pd_ixL (pd_var 0) pd_int) pd_int) pd_int ?_)) pd_int (by decide)) trivial nd) ?_
      · walk_at "mw"
      generalize ((s + 1) * 39373).fmod 1000000007 = x at g1
      have zx : Nz 40 x := Nz.of (by omega) (by omega)
      refine TS.nrm [none, some (.int many), none, none, none, some (.int x), none] rfl ?_
      have g2 := fmod_in (a := x * x) (n := 998244353) (by decide)
      have g3 := fmod_in (a := (x * x).fmod 998244353 * 30011) (n := 998244353) (by decide)
      refine ts_cons (t1_set 6 (d := .int (((x * x).fmod 998244353 * 30011).fmod 998244353)) (fun M => pd_modN (pd_int1 m_int (pd_mulW (pd_modN (pd_int1 m_int (pd_mulW (pd_var 5) (pd_var 5) ?_)) pd_int (by decide)) pd_int ?_)) pd_int (by decide)) trivial nd) ?_
      · walk_at "mw"
      · exact Nz.w (a := 40) (b := 40) (Nz.of (by omega) (by omega)) (Nz.of (by decide) (by decide)) (by decide)
      generalize ((x * x).fmod 998244353 * 30011).fmod 998244353 = y at g3
      refine TS.nrm [none, some (.int many), none, none, none, some (.int x), some (.int y)] rfl ?_
      exact ts_last (t1_ret (fun M => pd_modN (pd_int1 m_int (pd_fdivNW (pd_var 6) pd_int ⟨by decide, by decide +kernel⟩)) (pd_var 1) (by omega)) (fmod_in (by omega)) ⟨h0, hs, hc⟩ ⟨hns, hlen⟩)
  by_cases hh : h = 0
  · have zs : Nz 40 s0 := Nz.of (by omega) (by omega)
    have zc : Nz 40 (c + 1) := Nz.of (by omega) (by omega)
    obtain ⟨ms, q1, q2, q3⟩ := cut_ints ns (some c) none
    obtain ⟨x, hx, x0⟩ : ∃ x : Int, L2.atI (ms.map D.int ++ [D.int 0]) 0 = some (D.int x) ∧ 0 ≤ x := by
      cases ms with
      | nil => exact ⟨0, rfl, by decide⟩
      | cons x ms => exact ⟨x, atI_nat (j := 0) rfl, hns x (q2 x List.mem_cons_self)⟩
    refine ts_cons (env1 := [none, some (.int many), none, none, none, none, none]) (h1 := if (10 : Int) ^ 18 ≤ x then x else 0) (s1 := (s0 * 48271 + x.fmod 2147483647 + 7919 * (c + 1)).fmod 2147483647) (c1 := c + 1) (t1_if (kk := true) (fun M => PTD.of (ptd_eqI (pd_ixL (pd_var 0) pd_int) pd_int) (decide_eq_true hh)) (fun _ => ?_) (fun z => by cases z)) ?_
    · -- cell
      refine ts_cons (t1_set 2 (d := .int x) (fun M => pd_ixL (ds := ms.map D.int ++ [D.int 0]) (PL.of (pl_cat (ds := cutD (ns.map D.int) (some c) none) (ds2 := [.int 0]) (pl_slL (pd_ixL (pd_var 0) pd_int) (pod_some (pd_ixL (pd_var 0) pd_int)) pod_none).pd (pl_lst (pad_cons pd_int pad_nil) (by decide)).pd ?_) (by rw [q1])).pd pd_int hx) trivial nd) ?_
      · rw [q1, List.length_map]
        show ms.length + 1 ≤ 1000
        omega
      refine TS.nrm [none, some (.int many), some (.int x), none, none, none, none] rfl ?_
      refine ts_cons t1_inc2 ?_
      refine ts_cons (env1 := [none, some (.int many), some (.int x), none, none, none, none]) (h1 := if (10 : Int) ^ 18 ≤ x then x else 0) (s1 := s0) (c1 := c + 1) ?_ ?_
      · by_cases hb : (10 : Int) ^ 18 ≤ x
        · rw [if_pos hb]
          exact t1_if (kk := true) (fun M => PTD.of (ptd_ge (pd_var 2) (pd_pow (i := 10) (j := 18) pd_int pd_int ⟨by decide, by decide, by decide⟩)) (decide_eq_true hb)) (fun _ => ts_last (t1_put0 (fun M => pd_var 2))) (fun z => by cases z)
        · rw [if_neg hb]
          subst hh
          exact t1_if (kk := false) (fun M => PTD.of (ptd_ge (pd_var 2) (pd_pow (i := 10) (j := 18) pd_int pd_int ⟨by decide, by decide, by decide⟩)) (decide_eq_false hb)) (fun z => by cases z) (fun _ => ts_nil)
      generalize (if (10 : Int) ^ 18 ≤ x then x else 0) = h2
      refine ts_cons (t1_set 3 (d := .int (s0 * 48271 + x.fmod 2147483647 + 7919 * (c + 1))) (fun M => pd_add (pd_add (pd_mulW (pd_ixL (pd_var 0) pd_int) pd_int ?_) (pd_modN (pd_int1 m_int (pd_var 2)) pd_int (by decide))) (pd_mulW pd_int (pd_ixL (pd_var 0) pd_int) ?_)) trivial nd) ?_
      · walk_at "mw"
      · walk_at "mw"
      refine TS.nrm [none, some (.int many), some (.int x), some (.int (s0 * 48271 + x.fmod 2147483647 + 7919 * (c + 1))), none, none, none] rfl ?_
      exact TS.le (ts_last (t1_put1 (fun M => pd_modN (pd_int1 m_int (pd_var 3)) pd_int (by decide)))) ⟨.inr rfl, .inr rfl, .inl rfl, .inl rfl, .inr rfl, .inr rfl, .inr rfl, trivial⟩
    · exact tail (if (10 : Int) ^ 18 ≤ x then x else 0) ((s0 * 48271 + x.fmod 2147483647 + 7919 * (c + 1)).fmod 2147483647) (c + 1) (by split <;> omega) (by have := fmod_in (a := s0 * 48271 + x.fmod 2147483647 + 7919 * (c + 1)) (n := 2147483647) (by decide); omega) (by omega)
  · refine ts_cons (t1_if (kk := false) (fun M => PTD.of (ptd_eqI (pd_ixL (pd_var 0) pd_int) pd_int) (decide_eq_false hh)) (fun z => by cases z) (fun _ => ts_nil)) ?_
    exact tail h s0 c h0 hs0 ⟨hc0.1, by omega⟩
end
end Wk
end
section
set_option Elab.async false
set_option linter.all false
set_option maxRecDepth 100000
set_option maxHeartbeats 4000000
namespace Wk
open PySem PySem.Spec PyProof.Rows L2 Fq
open Mi (Col Leg P2 pl dotQ sqAt)
local macro_rules | `(tactic| walk_at "nz") => `(tactic| first | assumption | exact Nz.sn (by assumption) | exact Nz.sd (by assumption) | (apply Nz.mul <;> walk_at "nz") | (apply Nz.add <;> walk_at "nz") | (apply Nz.sub <;> walk_at "nz") | (apply Nz.neg <;> walk_at "nz") | exact (show Nz 40 _ by unfold Nz; decide))
local macro_rules | `(tactic| walk_at "mw") => `(tactic| (apply Nz.w; (· walk_at "nz"); (· walk_at "nz"); decide))
theorem PAB.mono {X : Cx} {nb : Nat} {es : List Expr} {env : DEnv} {c c1 : Nat} {PS PS1 : List D → Prop} (h : PAB X nb es env c PS) (k : c ≤ c1) (q : ∀ ds, PS ds → PS1 ds) : PAB X nb es env c1 PS1 := fun M b f σ H hS Q z =>
  h M b (f + (c1 - c)) σ H (by rw [show f + (c1 - c) + c = f + c1 by omega]; exact hS) Q fun v H' d k1 g r pd => z v H' d k1 (g.mono (by omega)) r (q d pd)
def R_l_some (ds : List D) (P : D → Prop) : Prop := ∃ xs, ds = [.lst xs] ∧ (1 ≤ xs.length ∧ xs.length ≤ 1000) ∧ P = fun d => d ∈ xs
section
variable {X : Cx} {nb n : Nat} {env : DEnv} {e : Expr} {pos p py : Pos} {c : Nat} {q : Int → Prop} {PS : List D → Prop} {y : Str} {i : Int} {P : D → Prop}
theorem k_l_take (C : Cal X.prog X.w X.K X.mg X.base "_law_take" 1 ["_law_bag_here", "_law_many"] (spB X.K 1 R_l_take)) (hr : Room n X.A) (ha : PB X nb e env c (isI q)) (hq : ∀ n, q n → ManyOk n)
    (hy : X.N[nb]? = some y := by rfl) (vy : Vis X.env.scope y := by first | exact Or.inl rfl | exact Or.inr (Or.inl rfl) | exact Or.inr (Or.inr rfl)) (dy : (y == ("__debug__" : Str)) = false := by decide) (cy : (y == ("__classdict__" : Str)) = false := by decide)
    (hk : 1 ≤ n := by decide) (hg : Gl X "_law_take" := by rfl) (hs1 : starEach [e] X.env = (false, eval e X.env) :: starEach [] X.env := by rfl) (he : starEach [.Name y py, e] X.env = (false, eval (.Name y py) X.env) :: starEach [e] X.env := by rfl) (hpl : (backTo pos (starEach [e] X.env)).any (·.1) = false := by rfl) :
    PB X nb (.Call (.Name "_law_take" p) [.Name y py, e] [] pos) env (c + 1) (isI fun i => 0 ≤ i ∧ ∃ n, q n ∧ i < n) :=
  pb_call (c := c + 0) C hr (pab_cons ha pab_nil hs1) (fun ds ⟨d, r, e1, ⟨m, e2, hm⟩, e3⟩ => ⟨isI fun i => 0 ≤ i ∧ i < m, ⟨m, by rw [e1, e2, e3], hq m hm, rfl⟩, fun d ⟨i, e4, h0, h1⟩ => ⟨i, e4, h0, m, hm, h1⟩⟩) hy vy dy cy hk hg (by decide) he hpl
theorem k_l_takeI (C : Cal X.prog X.w X.K X.mg X.base "_law_take" 1 ["_law_bag_here", "_law_many"] (spB X.K 1 R_l_take)) (hr : Room n X.A) (ha : ∀ M, PD X M e env (.int i)) (hq : ManyOk i)
    (hy : X.N[nb]? = some y := by rfl) (vy : Vis X.env.scope y := by first | exact Or.inl rfl | exact Or.inr (Or.inl rfl) | exact Or.inr (Or.inr rfl)) (dy : (y == ("__debug__" : Str)) = false := by decide) (cy : (y == ("__classdict__" : Str)) = false := by decide)
    (hk : 1 ≤ n := by decide) (hg : Gl X "_law_take" := by rfl) (hs1 : starEach [e] X.env = (false, eval e X.env) :: starEach [] X.env := by rfl) (he : starEach [.Name y py, e] X.env = (false, eval (.Name y py) X.env) :: starEach [e] X.env := by rfl) (hpl : (backTo pos (starEach [e] X.env)).any (·.1) = false := by rfl) :
    PB X nb (.Call (.Name "_law_take" p) [.Name y py, e] [] pos) env 1 (isI fun k => 0 ≤ k ∧ k < i) :=
  (k_l_take (c := 0) (q := fun k => k = i) C hr (pb_pdI ha) (fun n hn => by rw [hn]; exact hq) hy vy dy cy hk hg hs1 he hpl).mono (by decide) fun d ⟨k, e1, h0, m, hm, h1⟩ => ⟨k, e1, h0, by rw [← hm]; exact h1⟩
theorem k_l_some (C : Cal X.prog X.w X.K X.mg X.base "_law_some" 2 ["_law_bag_here", "_law_things"] (spB X.K 1 R_l_some)) (hr : Room n X.A) (ha : PB X nb e env c (fun d => ∃ xs, d = .lst xs ∧ PS xs)) (hq : ∀ xs, PS xs → 1 ≤ xs.length ∧ xs.length ≤ 1000)
    (hy : X.N[nb]? = some y := by rfl) (vy : Vis X.env.scope y := by first | exact Or.inl rfl | exact Or.inr (Or.inl rfl) | exact Or.inr (Or.inr rfl)) (dy : (y == ("__debug__" : Str)) = false := by decide) (cy : (y == ("__classdict__" : Str)) = false := by decide)
    (hk : 2 ≤ n := by decide) (hg : Gl X "_law_some" := by rfl) (hs1 : starEach [e] X.env = (false, eval e X.env) :: starEach [] X.env := by rfl) (he : starEach [.Name y py, e] X.env = (false, eval (.Name y py) X.env) :: starEach [e] X.env := by rfl) (hpl : (backTo pos (starEach [e] X.env)).any (·.1) = false := by rfl) :
    PB X nb (.Call (.Name "_law_some" p) [.Name y py, e] [] pos) env (c + 1) (fun d => ∃ xs, PS xs ∧ d ∈ xs) :=
  pb_call (c := c + 0) C hr (pab_cons ha pab_nil hs1) (fun ds ⟨d, r, e1, ⟨xs, e2, hx⟩, e3⟩ => ⟨fun d => d ∈ xs, ⟨xs, by rw [e1, e2, e3], hq xs hx, rfl⟩, fun d h => ⟨xs, hx, h⟩⟩) hy vy dy cy hk hg (by decide) he hpl
theorem k_l_someI {xs : List D} (C : Cal X.prog X.w X.K X.mg X.base "_law_some" 2 ["_law_bag_here", "_law_things"] (spB X.K 1 R_l_some)) (hr : Room n X.A) (ha : ∀ M, PD X M e env (.lst xs)) (hq : 1 ≤ xs.length ∧ xs.length ≤ 1000)
    (hy : X.N[nb]? = some y := by rfl) (vy : Vis X.env.scope y := by first | exact Or.inl rfl | exact Or.inr (Or.inl rfl) | exact Or.inr (Or.inr rfl)) (dy : (y == ("__debug__" : Str)) = false := by decide) (cy : (y == ("__classdict__" : Str)) = false := by decide)
    (hk : 2 ≤ n := by decide) (hg : Gl X "_law_some" := by rfl) (hs1 : starEach [e] X.env = (false, eval e X.env) :: starEach [] X.env := by rfl) (he : starEach [.Name y py, e] X.env = (false, eval (.Name y py) X.env) :: starEach [e] X.env := by rfl) (hpl : (backTo pos (starEach [e] X.env)).any (·.1) = false := by rfl) :
    PB X nb (.Call (.Name "_law_some" p) [.Name y py, e] [] pos) env 1 (fun d => d ∈ xs) :=
  (k_l_some (c := 0) (PS := fun ys => ys = xs) C hr ((pb_pd ha).imp fun d e => ⟨xs, e, rfl⟩) (fun ys e => by rw [e]; exact hq) hy vy dy cy hk hg hs1 he hpl).mono (by decide) fun d ⟨ys, e1, h⟩ => by rw [← e1]; exact h
end
def R_l_bounds (ds : List D) (P : D → Prop) : Prop := ds = [] ∧ P = fun d => ∃ B, d = boD B ∧ BoOk B
def R_l_ticks (ds : List D) (P : D → Prop) : Prop := ∃ B, ds = [boD B] ∧ BoOk B ∧ P = isI fun T => Tk B T
theorem mem_ints {xs : List Int} {d : D} (h : d ∈ xs.map D.int) : ∃ i, d = .int i ∧ i ∈ xs := by
  obtain ⟨i, hi, rfl⟩ := List.mem_map.mp h
  exact ⟨i, rfl, hi⟩
section
variable {P : Program} {w : World} {K : PySem.W.Frag} {mg : Str → Option Value} {base : Heap}
theorem cal_l_some {f : Addr} {fd : FuncData} (F : FnP K "_law_some" s_l_some f fd) (m : mg "_law_some" = some (.ref f)) (c_l_take : Cal P w K mg base "_law_take" 1 ["_law_bag_here", "_law_many"] (spB K 1 R_l_take)) (m_len : mg "len" = none) : Cal P w K mg base "_law_some" 2 ["_law_bag_here", "_law_things"] (spB K 1 R_l_some) := by
  refine cal_of F m (F.bindsN fun _ _ _ _ _ _ us hl => match us, hl with | [_, _], _ => rfl) (okB F sc_l_some (by decide) (by decide) (fun ds d h => ?_) fun cdv A outer s H E hr ds P0 hR => ?_)
  · obtain ⟨_, rfl, _⟩ := h
    rfl
  have nd := sc_l_some.nd
  obtain ⟨xs, rfl, hx, rfl⟩ := hR
  refine SB.nrm [none, some (.lst xs)] rfl ?_
  exact sb_last (s1b_ret (pb_ixL (fun M => pd_var 1) (k_l_takeI (i := (xs.length : Int)) c_l_take hr (fun M => pd_lenL m_len (pd_var 1)) ⟨by omega, by omega⟩)))
theorem cal_l_bounds {f : Addr} {fd : FuncData} (F : FnP K "_law_bounds" s_l_bounds f fd) (m : mg "_law_bounds" = some (.ref f)) (c_l_take : Cal P w K mg base "_law_take" 1 ["_law_bag_here", "_law_many"] (spB K 1 R_l_take)) (c_l_some : Cal P w K mg base "_law_some" 2 ["_law_bag_here", "_law_things"] (spB K 1 R_l_some)) (m_max : mg "max" = none) : Cal P w K mg base "_law_bounds" 3 ["_law_bag_here"] (spB K 20 R_l_bounds) := by
  refine cal_of F m (F.bindsN fun _ _ _ _ _ _ us hl => match us, hl with | [_], _ => rfl) (okB F sc_l_bounds (by decide) (by decide) (fun ds d h => ?_) fun cdv A outer s H E hr ds P0 hR => ?_)
  · obtain ⟨rfl, _⟩ := h
    rfl
  have nd := sc_l_bounds.nd
  obtain ⟨rfl, rfl⟩ := hR
  refine SB.mono (c := 1 + (1 + ((1 + 1) + ((1 + 1) + (2 + 3))))) ?_ (by decide)
  refine SB.nrm [none, none, none, none, none, none, none] rfl ?_
  have z6 : CDivNW 0 6 := by constructor <;> decide +kernel
  have z4 : CDivNW 0 4 := by constructor <;> decide +kernel
  refine sb_cons (s1b_set 1 (k_l_someI (xs := ([1, 2, 3, 5, 7, 10, 13, 20, 60, 100] : List Int).map D.int) c_l_some hr (fun M => (pl_lst (pad_cons pd_int (pad_cons pd_int (pad_cons pd_int (pad_cons pd_int (pad_cons pd_int (pad_cons pd_int (pad_cons pd_int (pad_cons pd_int (pad_cons pd_int (pad_cons pd_int pad_nil)))))))))) (by decide)).pd) (by decide)) nd) fun env1 ⟨d, hd, e1⟩ => ?_
  obtain ⟨S, rfl, hS⟩ := mem_ints hd
  have hS2 : 1 ≤ S ∧ S ≤ 100 := by
    simp only [List.mem_cons, List.not_mem_nil, or_false] at hS
    omega
  have zS : Nz 10 S := nz_small (by omega) (by omega)
  subst e1
  refine SB.nrm [none, some (.int S), none, none, none, none, none] rfl ?_
  refine sb_cons (s1b_set 2 ((pb_add (c1 := 0) (c2 := 1) (q1 := fun k => k = 1) (pb_pdI fun M => pd_int) (k_l_takeI (i := if (S * 3).fdiv 4 > 1 then (S * 3).fdiv 4 else 1) c_l_take hr (fun M => pd_max2 rfl m_max pd_int (pd_fdivNW (pd_mulW (pd_var 1) pd_int ?_) pd_int ⟨z4.1, z4.2⟩)) ?_)).mono (by decide) fun _ h => h) nd) fun env1 ⟨d, ⟨near, e0, i, j, e2, ⟨e3, e4⟩, e5⟩, e1⟩ => ?_
  · walk_at "mw"
  · rw [Int.fdiv_eq_ediv_of_nonneg _ (by decide)]
    constructor <;> split <;> omega
  have hn : 1 ≤ near ∧ near ≤ 100 := by
    rw [Int.fdiv_eq_ediv_of_nonneg _ (by decide)] at e4
    split at e4 <;> omega
  clear e2 e3 e4 e5
  subst e1 e0
  refine SB.nrm [none, some (.int S), some (.int near), none, none, none, none] rfl ?_
  refine sb_cons (s1b_set 3 (pb_if (c1 := 1) (c2 := 1) (P := isI fun k => 0 ≤ k ∧ k ≤ 100) ((ptb_eqI (c1 := 1) (c2 := 0) (k_l_takeI (i := 2) c_l_take hr (fun M => pd_int) (by decide)) (pb_pdI (i := 0) fun M => pd_int))) ((k_l_takeI (i := 2 + S.fdiv 6) c_l_take hr (fun M => pd_add pd_int (pd_fdivNW (pd_var 1) pd_int ⟨z6.1, z6.2⟩)) ?_).imp fun d ⟨k, e1, h0, h1⟩ => ⟨k, e1, h0, ?_⟩) ((pb_pdI (i := 0) fun M => pd_int).mono (by decide) fun d ⟨k, e1, h0⟩ => ⟨k, e1, by omega⟩)) nd) fun env1 ⟨d, ⟨wind, e0, hw⟩, e1⟩ => ?_
  · rw [Int.fdiv_eq_ediv_of_nonneg _ (by decide)]
    constructor <;> omega
  · rw [Int.fdiv_eq_ediv_of_nonneg _ (by decide)] at h1
    omega
  subst e1 e0
  refine SB.nrm [none, some (.int S), some (.int near), some (.int wind), none, none, none] rfl ?_
  refine sb_cons (s1b_par 4 5 (c1 := 1) (c2 := 1) (k_l_someI (xs := ([0, 0, 1, 2, 5] : List Int).map D.int) c_l_some hr (fun M => (pl_lst (pad_cons pd_int (pad_cons pd_int (pad_cons pd_int (pad_cons pd_int (pad_cons pd_int pad_nil))))) (by decide)).pd) (by decide)) (k_l_someI (xs := ([0, 1, 2, 3, 7, 20] : List Int).map D.int) c_l_some hr (fun M => (pl_lst (pad_cons pd_int (pad_cons pd_int (pad_cons pd_int (pad_cons pd_int (pad_cons pd_int (pad_cons pd_int pad_nil)))))) (by decide)).pd) (by decide)) nd) fun env1 ⟨d1, d2, h1, h2, e1⟩ => ?_
  obtain ⟨clock, rfl, hc⟩ := mem_ints h1
  obtain ⟨fall, rfl, hf⟩ := mem_ints h2
  have hc2 : 0 ≤ clock ∧ clock ≤ 100 := by
    simp only [List.mem_cons, List.not_mem_nil, or_false] at hc
    omega
  have hf2 : 0 ≤ fall ∧ fall ≤ 100 := by
    simp only [List.mem_cons, List.not_mem_nil, or_false] at hf
    omega
  subst e1
  refine SB.nrm [none, some (.int S), some (.int near), some (.int wind), some (.int clock), some (.int fall), none] rfl ?_
  refine sb_cons (s1b_set 6 (P := isI fun k => S ≤ k ∧ k ≤ 1000) ((pb_add (c1 := 0) (c2 := 2) (q1 := fun k => k = S) (q2 := fun k => 0 ≤ k ∧ k ≤ 900) (pb_pdI fun M => pd_var 1) ((k_l_some (c := 1) (PS := fun xs => ∃ k : Int, (0 ≤ k ∧ k < 5 * S + 1) ∧ xs = ([0, 1, S, 3 * S, k] : List Int).map D.int) c_l_some hr ((pb_lst (PS := fun xs => ∃ k : Int, (0 ≤ k ∧ k < 5 * S + 1) ∧ xs = ([0, 1, S, 3 * S, k] : List Int).map D.int) (PAB.mono (pab_cons (pb_pd fun M => pd_int) (pab_cons (pb_pd fun M => pd_int) (pab_cons (pb_pd fun M => pd_var 1) (pab_cons (pb_pd fun M => pd_mulW pd_int (pd_var 1) ?_) (pab_cons (k_l_takeI (i := 5 * S + 1) c_l_take hr (fun M => pd_add (pd_mulW pd_int (pd_var 1) ?_) pd_int) ?_) pab_nil))))) (by decide) ?_) ?_)) ?_).imp ?_)).mono (by decide) ?_) nd) fun env1 ⟨d, ⟨way, e0, hw2⟩, e1⟩ => ?_
  · walk_at "mw"
  · walk_at "mw"
  · constructor <;> omega
  · rintro ds ⟨d1, r1, rfl, rfl, d2, r2, rfl, rfl, d3, r3, rfl, rfl, d4, r4, rfl, rfl, d5, r5, rfl, ⟨k, rfl, hk⟩, rfl⟩
    exact ⟨k, hk, rfl⟩
  · rintro ds ⟨k, hk, rfl⟩
    show 5 ≤ 1000
    decide
  · rintro ds ⟨k, hk, rfl⟩
    show 1 ≤ 5 ∧ 5 ≤ 1000
    decide
  · rintro d ⟨xs, ⟨k, hk, rfl⟩, hd⟩
    obtain ⟨i, rfl, hi⟩ := mem_ints hd
    refine ⟨i, rfl, ?_⟩
    simp only [List.mem_cons, List.not_mem_nil, or_false] at hi
    omega
  · rintro d ⟨k, rfl, i, j, rfl, hj, rfl⟩
    exact ⟨_, rfl, by omega⟩
  subst e1 e0
  refine SB.nrm [none, some (.int S), some (.int near), some (.int wind), some (.int clock), some (.int fall), some (.int way)] rfl ?_
  refine sb_last (s1b_ret ((pb_tup (PAB.mono (c := 0 + (0 + (0 + (0 + (0 + (0 + ((0 + 1) + (1 + ((0 + 1) + 0))))))))) (pab_cons (pb_pd fun M => pd_var 1) (pab_cons (pb_pd fun M => pd_var 2) (pab_cons (pb_pd fun M => pd_var 3) (pab_cons (pb_pd fun M => pd_var 4) (pab_cons (pb_pd fun M => pd_var 5) (pab_cons (pb_pd fun M => pd_var 6) (pab_cons (pb_add (q1 := fun k => k = 1) (pb_pdI fun M => pd_int) (k_l_takeI (i := 3) c_l_take hr (fun M => pd_int) (by decide))) (pab_cons (k_l_takeI (i := 3) c_l_take hr (fun M => pd_int) (by decide)) (pab_cons (pb_add (q1 := fun k => k = 1) (pb_pdI fun M => pd_int) (k_l_takeI (i := 6) c_l_take hr (fun M => pd_int) (by decide))) pab_nil))))))))) (by decide) (PS1 := fun xs => ∃ B, D.tup xs = boD B ∧ BoOk B) ?_) ?_).imp ?_))
  · rintro ds ⟨d1, r1, rfl, rfl, d2, r2, rfl, rfl, d3, r3, rfl, rfl, d4, r4, rfl, rfl, d5, r5, rfl, rfl, d6, r6, rfl, rfl, d7, r7, rfl, ⟨k7, rfl, _⟩, d8, r8, rfl, ⟨k8, rfl, _⟩, d9, r9, rfl, ⟨k9, rfl, _⟩, rfl⟩
    exact ⟨⟨S, near, wind, clock, fall, way, k7, k8, k9⟩, rfl, ⟨hS2.1, hS2.2, hn.1, hn.2, hw.1, hw.2, hc2.1, hc2.2, hf2.1, hf2.2, hw2.1, hw2.2⟩⟩
  · rintro ds ⟨B, e, _⟩
    cases e
    show 9 ≤ 1000
    decide
  · rintro d ⟨ds, rfl, B, e, hB⟩
    exact ⟨B, e, hB⟩
theorem cal_l_ticks {f : Addr} {fd : FuncData} (F : FnP K "_law_ticks" s_l_ticks f fd) (m : mg "_law_ticks" = some (.ref f)) (c_l_take : Cal P w K mg base "_law_take" 1 ["_law_bag_here", "_law_many"] (spB K 1 R_l_take)) (c_l_some : Cal P w K mg base "_law_some" 2 ["_law_bag_here", "_law_things"] (spB K 1 R_l_some)) (c_l_lag : Cal P w K mg base "_law_lag" 1 ["_law_bounds_here"] (spP K R_lag_of)) (m_max : mg "max" = none) : Cal P w K mg base "_law_ticks" 3 ["_law_bag_here", "_law_bounds_here"] (spB K 5 R_l_ticks) := by
  refine cal_of F m (F.bindsN fun _ _ _ _ _ _ us hl => match us, hl with | [_, _], _ => rfl) (okB F sc_l_ticks (by decide) (by decide) (fun ds d h => ?_) fun cdv A outer s H E hr ds P0 hR => ?_)
  · obtain ⟨_, rfl, _⟩ := h
    rfl
  have nd := sc_l_ticks.nd
  obtain ⟨B, rfl, hB, rfl⟩ := hR
  have hlb : 1 ≤ loB B ∧ B.L ≤ loB B ∧ loB B ≤ 300 := by
    have h1 := hB.c2
    have h2 := hB.f2
    unfold loB Bo.L
    split <;> omega
  have zl : Nz 10 (loB B) := nz_small (by omega) (by omega)
  refine SB.mono (c := 0 + 2) ?_ (by decide)
  refine SB.nrm [none, some (boD B), none] rfl ?_
  refine sb_cons (s1b_set 2 (pb_pd (d := .int (loB B)) fun M => pd_max2 rfl m_max pd_int (pd_call c_l_lag hr (pad_cons (pd_var 1) pad_nil) ⟨B, rfl, hB, rfl⟩)) nd) fun env1 ⟨d, e0, e1⟩ => ?_
  subst e1 e0
  refine SB.nrm [none, some (boD B), some (.int (loB B))] rfl ?_
  refine sb_last (s1b_ret ((pb_add (c1 := 0) (c2 := 2) (q1 := fun k => k = loB B) (q2 := fun k => 0 ≤ k ∧ k ≤ 9000) (pb_pdI fun M => pd_var 2) ((k_l_some (c := 1) (PS := fun xs => ∃ k : Int, (0 ≤ k ∧ k < 60) ∧ xs = ([0, 1, 2, loB B, 3 * loB B, 10 * loB B, k] : List Int).map D.int) c_l_some hr ((pb_lst (PS := fun xs => ∃ k : Int, (0 ≤ k ∧ k < 60) ∧ xs = ([0, 1, 2, loB B, 3 * loB B, 10 * loB B, k] : List Int).map D.int) (PAB.mono (pab_cons (pb_pd fun M => pd_int) (pab_cons (pb_pd fun M => pd_int) (pab_cons (pb_pd fun M => pd_int) (pab_cons (pb_pd fun M => pd_var 2) (pab_cons (pb_pd fun M => pd_mulW pd_int (pd_var 2) ?_) (pab_cons (pb_pd fun M => pd_mulW pd_int (pd_var 2) ?_) (pab_cons (k_l_takeI (i := 60) c_l_take hr (fun M => pd_int) (by decide)) pab_nil))))))) (by decide) ?_) ?_)) ?_).imp ?_)).mono (by decide) ?_))
  · walk_at "mw"
  · walk_at "mw"
  · rintro ds ⟨d1, r1, rfl, rfl, d2, r2, rfl, rfl, d3, r3, rfl, rfl, d4, r4, rfl, rfl, d5, r5, rfl, rfl, d6, r6, rfl, rfl, d7, r7, rfl, ⟨k, rfl, hk⟩, rfl⟩
    exact ⟨k, hk, rfl⟩
  · rintro ds ⟨k, hk, rfl⟩
    show 7 ≤ 1000
    decide
  · rintro ds ⟨k, hk, rfl⟩
    show 1 ≤ 7 ∧ 7 ≤ 1000
    decide
  · rintro d ⟨xs, ⟨k, hk, rfl⟩, hd⟩
    obtain ⟨i, rfl, hi⟩ := mem_ints hd
    refine ⟨i, rfl, ?_⟩
    simp only [List.mem_cons, List.not_mem_nil, or_false] at hi
    omega
  · rintro d ⟨k, rfl, i, j, rfl, hj, rfl⟩
    exact ⟨_, rfl, by omega, by omega, by omega⟩
end
end Wk
end
section
set_option Elab.async false
set_option linter.all false
set_option maxRecDepth 100000
set_option maxHeartbeats 4000000
namespace Wk
open PySem PySem.Spec PyProof.Rows L2 Fq
open Mi (Col Leg P2 pl dotQ sqAt)
local macro_rules | `(tactic| walk_at "nz") => `(tactic| first | assumption | exact Nz.sn (by assumption) | exact Nz.sd (by assumption) | (apply Nz.mul <;> walk_at "nz") | (apply Nz.add <;> walk_at "nz") | (apply Nz.sub <;> walk_at "nz") | (apply Nz.neg <;> walk_at "nz") | exact (show Nz 40 _ by unfold Nz; decide))
local macro_rules | `(tactic| walk_at "mw") => `(tactic| (apply Nz.w; (· walk_at "nz"); (· walk_at "nz"); decide))
structure OwB (K : PySem.W.Frag) (M : Mu) (b : Addr × Addr) (nb f : Nat) (H0 H : Hp) (σ : L2.St) (env : DEnv) (n : Nat) (p : Addr) (cs : List D) : Prop where
  st : StB K (Add M p) b nb f H σ env
  k0 : Kp b.1 H0 H
  w0 : Wd M H0
  mb : M b.1
  np : H0 p = none
  pb : p ≠ b.1
  pc : b.2 ≠ p
  at_ : σ[n]? = some (some (.ref p))
  ls : ∃ vs, H p = some (.lst vs) ∧ Reps K (Add M p) H cs vs
section
variable {K : PySem.W.Frag} {M : Mu} {b : Addr × Addr} {nb f g n : Nat} {H0 H H' : Hp} {σ : L2.St} {env env' : DEnv} {p : Addr} {cs cs' : List D}
theorem OwB.notM (h : OwB K M b nb f H0 H σ env n p cs) : ¬ M p := h.w0.notM h.np
theorem OwB.go (h : OwB K M b nb f H0 H σ env n p cs) (k : Kp b.1 H H') (e : Bag H' b g) : OwB K M b nb g H0 H' σ env n p cs :=
  ⟨h.st.go k e, h.k0.trans k, h.w0, h.mb, h.np, h.pb, h.pc, h.at_, let ⟨vs, a, r⟩ := h.ls; ⟨vs, k _ _ h.pb a, reps_sm h.st.en.wd (h.st.sm k e.lst) r⟩⟩
theorem OwB.less (h : OwB K M b nb f H0 H σ env n p cs) (k : g ≤ f) : OwB K M b nb g H0 H σ env n p cs := ⟨h.st.less k, h.k0, h.w0, h.mb, h.np, h.pb, h.pc, h.at_, h.ls⟩
theorem OwB.le (h : OwB K M b nb f H0 H σ env n p cs) (l : Le env env') : OwB K M b nb f H0 H σ env' n p cs := ⟨h.st.le l, h.k0, h.w0, h.mb, h.np, h.pb, h.pc, h.at_, h.ls⟩
theorem OwB.set {j : Nat} {d : D} {v : V} (h : OwB K M b nb f H0 H σ env n p cs) (r : Rep K (Add M p) H d v) (hb : nb ≠ j) (hj : n ≠ j) : OwB K M b nb f H0 H (σ.set j (some v)) (env.set j (some d)) n p cs :=
  ⟨h.st.set r hb, h.k0, h.w0, h.mb, h.np, h.pb, h.pc, by rw [List.getElem?_set_ne (Ne.symm hj)]; exact h.at_, h.ls⟩
theorem OwB.freeze (h : OwB K M b nb f H0 H σ env n p cs) : StB K M b nb f H σ (env.set n (some (.lst cs))) := by
  obtain ⟨vs, a, r⟩ := h.ls
  have ln : n < env.length := by
    rw [← h.st.en.len]
    exact (List.getElem?_eq_some_iff.mp h.at_).1
  refine ⟨⟨fun a m => h.st.en.wd a (.inl m), by rw [List.length_set]; exact h.st.en.len, fun i d q => ?_⟩, h.mb, h.st.at_, h.st.bag⟩
  by_cases e : n = i
  · subst e
    rw [List.getElem?_set_self ln] at q
    cases q
    exact ⟨_, h.at_, p, vs, rfl, h.notM, a, reps_less (fun _ m => .inl m) r⟩
  · rw [List.getElem?_set_ne e] at q
    obtain ⟨v, g1, g2⟩ := h.st.en.at_ i d q
    exact ⟨v, g1, rep_less (fun _ m => .inl m) g2⟩
theorem OwB.mut {vs : List V} (h : OwB K M b nb f H0 H σ env n p cs) (r : Reps K (Add M p) H cs' vs) : OwB K M b nb f H0 (upd H p (.lst vs)) σ env n p cs' := by
  have sw : Sm (Add M p) H (upd H p (.lst vs)) := sm_write h.st.en.wd (.inr rfl)
  have kp : Kp p H (upd H p (.lst vs)) := fun a o n e => by rw [upd_ne n]; exact e
  exact ⟨⟨h.st.en.sm sw, h.st.mb, h.st.at_, h.st.bag.kp kp (Ne.symm h.pb) h.pc⟩, fun a o n e => by rw [upd_ne (ne_of_none e h.np)]; exact h.k0 a o n e, h.w0, h.mb, h.np, h.pb, h.pc, h.at_, vs, upd_same, reps_sm h.st.en.wd sw r⟩
theorem OwB.cut (h : OwB K M b nb f H0 H σ env n p cs) : OwB K M b nb f (del H p) H σ env n p cs :=
  ⟨h.st, kp_of (same_del.mpr Kp.refl), fun a m => let ⟨xs, e⟩ := h.st.en.wd a (.inl m); ⟨xs, by rw [del_ne (fun z => h.notM (by rw [← z]; exact m))]; exact e⟩, h.mb, del_at, h.pb, h.pc, h.at_, h.ls⟩
theorem OwB.back {σ' : L2.St} {H1 : Hp} (h0 : Kp b.1 H0 H1) (w0 : Wd M H0) (np : H0 p = none) (h : OwB K M b nb f (del H1 p) H' σ' env' n p cs') : OwB K M b nb f H0 H' σ' env' n p cs' :=
  ⟨h.st, fun a o n e => h.k0 a o n (by rw [del_ne (ne_of_none e np)]; exact h0 a o n e), w0, h.mb, np, h.pb, h.pc, h.at_, h.ls⟩
end
def SMB (X : Cx) (nb n : Nat) (sts : List Stmt) (env : DEnv) (cs : List D) (c : Nat) (E : DEnv → List D → Prop) : Prop := ∀ M b f (D : Ends) σ H H0 p, OwB X.K M b nb (f + c) H0 H σ env n p cs → (∀ σ' H' env' cs', OwB X.K M b nb f H0 H' σ' env' n p cs' → E env' cs' → D.nx σ' H') → Wss X sts D σ H
def SM1B (X : Cx) (nb n : Nat) (st : Stmt) (env : DEnv) (cs : List D) (c : Nat) (E : DEnv → List D → Prop) : Prop := ∀ M b f (D : Ends) σ H H0 p, OwB X.K M b nb (f + c) H0 H σ env n p cs → (∀ σ' H' env' cs', OwB X.K M b nb f H0 H' σ' env' n p cs' → E env' cs' → D.nx σ' H') → Ws X st D σ H
def SMR (X : Cx) (nb n : Nat) (sts : List Stmt) (env : DEnv) (cs : List D) (c : Nat) (P : D → Prop) : Prop := ∀ M b f (D : Ends) σ H H0 p, OwB X.K M b nb (f + c) H0 H σ env n p cs → (∀ v H' d, Kp b.1 H0 H' → Bag H' b f → Rep X.K M H' d v → P d → D.rt v H') → Wss X sts D σ H
section
variable {X : Cx} {nb n : Nat} {env env1 env' : DEnv} {cs cs1 : List D} {a b0 c0 e tg iter : Expr} {es : List Expr} {st : Stmt} {sts body els : List Stmt} {pos p2 p3 : Pos} {d : D} {ds ys : List D} {c c1 c2 : Nat} {E E1 : DEnv → List D → Prop} {P P1 P2 : D → Prop} {PS : List D → Prop}
theorem SMB.nrm (env' : DEnv) (q : env = env') (h : SMB X nb n sts env' cs c E) : SMB X nb n sts env cs c E := q ▸ h
theorem SMB.mono (h : SMB X nb n sts env cs c E) (k : c ≤ c1) (q : ∀ env cs, E env cs → E1 env cs) : SMB X nb n sts env cs c1 E1 := fun M b f D σ H H0 p hO z => h M b f D σ H H0 p (hO.less (by omega)) fun σ' H' env' cs' o e => z σ' H' env' cs' o (q _ _ e)
theorem SM1B.mono (h : SM1B X nb n st env cs c E) (k : c ≤ c1) (q : ∀ env cs, E env cs → E1 env cs) : SM1B X nb n st env cs c1 E1 := fun M b f D σ H H0 p hO z => h M b f D σ H H0 p (hO.less (by omega)) fun σ' H' env' cs' o e => z σ' H' env' cs' o (q _ _ e)
theorem smb_cons (h1 : SM1B X nb n st env cs c1 E1) (h2 : ∀ env1 cs1, E1 env1 cs1 → SMB X nb n sts env1 cs1 c2 E) : SMB X nb n (st :: sts) env cs (c1 + c2) E := fun M b f D σ H H0 p hO z =>
  ⟨_, pss_cons ws wss, h1 M b (f + c2) { D with nx := Wss X sts D } σ H H0 p (by rw [show f + c2 + c1 = f + (c1 + c2) by omega]; exact hO) fun σ' H' env1 cs1 o e1 => h2 env1 cs1 e1 M b f D σ' H' H0 p o z⟩
theorem smb_last (h1 : SM1B X nb n st env cs c E) : SMB X nb n [st] env cs c E := fun M b f D σ H H0 p hO z => ⟨_, pss_one ws, h1 M b f D σ H H0 p hO z⟩
theorem smb_nil (h : E env cs) : SMB X nb n [] env cs 0 E := fun M b f D σ H H0 p hO z => ⟨_, pss_nil, z σ H env cs hO h⟩
theorem smr_cons (h1 : SM1B X nb n st env cs c1 E1) (h2 : ∀ env1 cs1, E1 env1 cs1 → SMR X nb n sts env1 cs1 c2 P) : SMR X nb n (st :: sts) env cs (c1 + c2) P := fun M b f D σ H H0 p hO z =>
  ⟨_, pss_cons ws wss, h1 M b (f + c2) { D with nx := Wss X sts D } σ H H0 p (by rw [show f + c2 + c1 = f + (c1 + c2) by omega]; exact hO) fun σ' H' env1 cs1 o e1 => h2 env1 cs1 e1 M b f D σ' H' H0 p o z⟩
theorem smr_ret {x : Str} (hP : P (.lst cs)) (hi : X.N[n]? = some x := by rfl) (hv : Vis X.env.scope x := by first | exact Or.inl rfl | exact Or.inr (Or.inl rfl) | exact Or.inr (Or.inr rfl)) (hd : (x == ("__debug__" : Str)) = false := by decide) (hcd : (x == ("__classdict__" : Str)) = false := by decide) :
    SMR X nb n [.Return (some (.Name x p2)) pos] env cs 0 P := fun M b f D σ H H0 p hO z => by
  obtain ⟨vs, a, r⟩ := hO.ls
  exact ⟨_, pss_one (ps_ret (pe_var hi hv hd hcd)), _, hO.at_, z _ H (.lst cs) hO.k0 hO.st.bag ⟨p, vs, rfl, hO.notM, a, reps_less (fun _ m => .inl m) r⟩ hP⟩
theorem sm1b_set (j : Nat) {x : Str} {px : Pos} (h : PB X nb e (env.set n (some (.lst cs))) c P) (hP : ∀ d, P d → Flat d) (hN : X.N.Nodup) (hb : nb ≠ j := by decide) (hj : n ≠ j := by decide) (hi : X.N[j]? = some x := by rfl) (hx : Loc X.env.scope x := by first | exact Or.inl rfl | exact Or.inr rfl) (hs : swapsWith e (some (.Name x px)) pos.line X.env = pure false := by rfl)
    (hf : X.fn x = true ∨ X.env.scope.names.lookup x = some .local := by first | exact .inl rfl | exact .inr rfl) : SM1B X nb n (.Assign [.Name x px] e pos) env cs c (fun env' cs' => ∃ d, P d ∧ env' = env.set j (some d) ∧ cs' = cs) := fun M b f D σ H H0 p hO z =>
  ⟨_, ps_set (i := j) hN hi hx we hs hf, h M b f σ H hO.freeze _ fun v H1 d k1 g1 r1 p1 => z _ H1 _ _ ((hO.go k1 g1).set (rep_flat (hP d p1) r1) hb hj) ⟨d, p1, rfl, rfl⟩⟩
theorem sm1b_par (j m : Nat) {x y : Str} {px py pt : Pos} {kt k2 : Nat} {pt2 : Pos} (ha : PB X nb a (env.set n (some (.lst cs))) c1 P1) (hb : PB X nb b0 (env.set n (some (.lst cs))) c2 P2) (f1 : ∀ d, P1 d → Flat d) (f2 : ∀ d, P2 d → Flat d) (hN : X.N.Nodup) (nj : nb ≠ j := by decide) (nm : nb ≠ m := by decide) (hnj : n ≠ j := by decide) (hnm : n ≠ m := by decide) (hi : X.N[j]? = some x := by rfl) (hj : X.N[m]? = some y := by rfl) (hij : j ≠ m := by decide) (hx : X.env.scope.names.lookup x = some .local := by rfl) (hy : X.env.scope.names.lookup y = some .local := by rfl)
    (hw : swappedStores [.Tuple [.Name x px, .Name y py] kt pt] (.Tuple [a, b0] k2 pt2) X.env = pure (some [x, y]) := by rfl) (hs : swapsWithSole [.Tuple [.Name x px, .Name y py] kt pt] (.Tuple [a, b0] k2 pt2) pos.line X.env = pure false := by rfl) (hc : X.calm = true := by rfl)
    (s0 : starEach [a, b0] X.env = (false, eval a X.env) :: starEach [b0] X.env := by rfl) (s1 : starEach [b0] X.env = (false, eval b0 X.env) :: starEach [] X.env := by rfl) :
    SM1B X nb n (.Assign [.Tuple [.Name x px, .Name y py] kt pt] (.Tuple [a, b0] k2 pt2) pos) env cs (c1 + c2) (fun env' cs' => ∃ d1 d2, P1 d1 ∧ P2 d2 ∧ env' = (env.set j (some d1)).set m (some d2) ∧ cs' = cs) := fun M b f D σ H H0 p hO z =>
  ⟨_, ps_par (i := j) (j := m) hc hN hi hj hij hx hy (pa_cons we (pa_cons we pa_nil s1) s0) hw hs, ha M b (f + c2) σ H (by rw [show f + c2 + c1 = f + (c1 + c2) by omega]; exact hO.freeze) _ fun v1 H1 d1 k1 g1 r1 p1 => hb M b f σ H1 (hO.freeze.go k1 g1) _ fun v2 H2 d2 k2 g2 r2 p2 => by
    have s2 := (hO.freeze.go k1 g1).sm k2 g2.lst
    have r1' := rep_sm (hO.freeze.go k1 g1).en.wd s2 r1
    exact ⟨v1, v2, rfl, z _ H2 _ _ ((((hO.go k1 g1).go k2 g2).set (rep_flat (f1 d1 p1) r1') nj hnj).set (rep_flat (f2 d2 p2) r2) nm hnm) ⟨d1, d2, p1, p2, rfl, rfl⟩⟩⟩
theorem sm1b_if {k : Bool} (hc : ∀ M, PTD X M c0 (env.set n (some (.lst cs))) k) (h1 : k = true → SMB X nb n body env cs c E) (h2 : k = false → SMB X nb n els env cs c E) : SM1B X nb n (.If c0 body els pos) env cs c E := fun M b f D σ H H0 p hO z =>
  ⟨_, ps_if wt wss wss, hc M σ H hO.freeze.en _ fun H1 e1 => by
    have hO1 := hO.go (kp_of e1) (hO.st.bag.same e1)
    cases k with
    | true => exact h1 rfl M b f D σ H1 H0 p hO1 z
    | false => exact h2 rfl M b f D σ H1 H0 p hO1 z⟩
theorem sm1b_app {x : Str} {px apos cpos spos : Pos} (h : ∀ M, PD X M e (env.set n (some (.lst cs))) d) (hf0 : Flat d) (hl : cs.length ≤ 1000) (hi : X.N[n]? = some x := by rfl) (hv : Vis X.env.scope x := by first | exact Or.inl rfl | exact Or.inr (Or.inl rfl) | exact Or.inr (Or.inr rfl)) (hd : (x == ("__debug__" : Str)) = false := by decide) (hcd : (x == ("__classdict__" : Str)) = false := by decide)
    (hs : swapsWith (.Call (.Attribute (.Name x px) "append" apos) [e] [] cpos) none spos.line X.env = pure false := by rfl) (s1 : starEach [e] X.env = (false, eval e X.env) :: starEach [] X.env := by rfl) (hp : ∀ to, PE X (.Name x px) to → PE X (.Call (.Attribute (.Name x px) "append" apos) [e] [] cpos) (tBM X.K "list" rAppend to (Wa X [e])) := by exact fun _ h => pe_bm PySem.F.plainAttrs_list PySem.F.slot_list_append PySem.F.type_list_append mt_append h wa) :
    SM1B X nb n (.Expr (.Call (.Attribute (.Name x px) "append" apos) [e] [] cpos) spos) env cs 0 (fun env' cs' => env' = env ∧ cs' = cs ++ [d]) := fun M b f D σ H H0 p hO k =>
  ⟨_, ps_expr (hp _ (pe_var hi hv hd hcd)) hs, _, hO.at_, .inl ⟨rfl, _, SqL.of hO.ls.choose_spec.1⟩, pad_cons (h M) pad_nil s1 σ H hO.freeze.en _ fun us H1 e1 r => by
    obtain ⟨v, rfl, r1⟩ := reps1 r
    have hO1 := hO.go (kp_of e1) (hO.st.bag.same e1)
    obtain ⟨vs, a, b⟩ := hO1.ls
    exact ⟨p, vs, v, rfl, rfl, a, Nat.lt_of_lt_of_le (by rw [b.length]; omega) (show 1001 ≤ sizeLine by decide), k σ _ env _ (hO1.mut (b.append (Reps.one (rep_flat hf0 r1)))) ⟨rfl, rfl⟩⟩⟩
abbrev rInsert : V → List V → Hp → VK → Prop := fun x vs H Q => ∃ (l : Addr) (xs : List V) (i : Int) (y : V), x = .ref l ∧ vs = [.int i, y] ∧ H l = some (.lst xs) ∧ xs.length < sizeLine ∧ 0 ≤ i ∧ i < 2 ^ 63 ∧ Q .non (upd H l (.lst (xs.take i.toNat ++ [y] ++ xs.drop i.toNat)))
theorem sm1b_ins {x : Str} {px apos cpos spos : Pos} {q : Int → Prop} (h : PAB X nb [a, b0] (env.set n (some (.lst cs))) c (fun xs => ∃ i, xs = [.int i, d] ∧ q i)) (hq : ∀ i, q i → 0 ≤ i ∧ i < 1000000) (hf0 : Flat d) (hl : cs.length ≤ 1000) (hi : X.N[n]? = some x := by rfl) (hv : Vis X.env.scope x := by first | exact Or.inl rfl | exact Or.inr (Or.inl rfl) | exact Or.inr (Or.inr rfl)) (hd : (x == ("__debug__" : Str)) = false := by decide) (hcd : (x == ("__classdict__" : Str)) = false := by decide)
    (hs : swapsWith (.Call (.Attribute (.Name x px) "insert" apos) [a, b0] [] cpos) none spos.line X.env = pure false := by rfl) (hp : ∀ to, PE X (.Name x px) to → PE X (.Call (.Attribute (.Name x px) "insert" apos) [a, b0] [] cpos) (tBM X.K "list" rInsert to (Wa X [a, b0])) := by exact fun _ h => pe_bm PySem.F.plainAttrs_list PySem.F.slot_list_insert PySem.F.type_list_insert mt_insert h wa) :
    SM1B X nb n (.Expr (.Call (.Attribute (.Name x px) "insert" apos) [a, b0] [] cpos) spos) env cs c (fun env' cs' => env' = env ∧ ∃ i : Nat, cs' = cs.take i ++ [d] ++ cs.drop i) := fun M b f D σ H H0 p hO k =>
  ⟨_, ps_expr (hp _ (pe_var hi hv hd hcd)) hs, _, hO.at_, .inl ⟨rfl, _, SqL.of hO.ls.choose_spec.1⟩, h M b f σ H hO.freeze _ fun us H1 xs k1 g1 r ⟨i, exs, hqi⟩ => by
    subst exs
    obtain ⟨v1, v, rfl, r0, r1⟩ := reps2 r
    have r0' : v1 = .int i := r0
    subst r0'
    have hO1 := hO.go k1 g1
    obtain ⟨vs, a, b⟩ := hO1.ls
    have := hq i hqi
    exact ⟨p, vs, i, v, rfl, rfl, a, Nat.lt_of_lt_of_le (by rw [b.length]; omega) (show 1001 ≤ sizeLine by decide), this.1, by omega, k σ _ env _ (hO1.mut (((b.take i.toNat).append (Reps.one (rep_flat hf0 r1))).append (b.drop i.toNat))) ⟨rfl, i.toNat, rfl⟩⟩⟩
theorem sm1b_for {envL : DEnv} (I : Nat → List D → Prop) {vs : List Nat} (hnb : nb ∉ vs) (hn : n ∉ vs) (hi : ∀ M, IDt X M tg iter env ds) (hl : Le env envL) (h0 : I 0 cs) (turn : ∀ (k : Nat) d cs, ds[k]? = some d → I k cs → ∃ env1, (∀ M, GDw X M vs tg d envL env1) ∧ SMB X nb n body env1 cs c (fun env2 cs2 => Le env2 envL ∧ I (k + 1) cs2))
    (hp : PassesOwn (model X.prog X.w) X.A X.env X.xe := by exact PassesOwn.never) (hc : X.calm = true := by rfl) (hs : ∀ x, foldedSetIterable iter X.env x = pure x := by intro _; rfl) : SM1B X nb n (.For tg iter body [] pos) env cs (ds.length * c) (fun env' cs' => env' = envL ∧ I ds.length cs') := fun M b f D σ H H0 p hO k =>
  ⟨_, ps_for hp hc wi wg wss hs, hi _ σ H hO.st.en _ fun J H1 e1 ⟨G, Y, W, hG, hY⟩ => by
    have hO1 := hO.go (kp_of e1) (hO.st.bag.same e1)
    refine for_it W (fun k σ' H' => Sm (Add M p) H1 H' ∧ ∃ cs', I k cs' ∧ OwB X.K M b nb (f + (ds.length - k) * c) H0 H' σ' envL n p cs') ⟨Sm.refl hO1.st.en.wd, cs, h0, hO1.le hl⟩ (fun k σ' H' _ q => hG H' q.1) (fun k x σ' H2 H3 hk q y => ?_) fun σ' H' q => ?_
    · obtain ⟨q1, cs', q2, q3⟩ := q
      obtain ⟨d, hd⟩ : ∃ d, ds[k]? = some d := ⟨ds[k], List.getElem?_eq_getElem hk⟩
      obtain ⟨s23, r⟩ := hY k H2 x H3 d q1 hd y
      obtain ⟨env1, g, bd⟩ := turn k d cs' hd q2
      have hO3 := q3.go (kp_of s23) (q3.st.bag.same s23)
      refine g _ σ' H3 x hO3.st.en r _ fun σ2 hE2 hw => ?_
      have keep : ∀ j, j ∉ vs → σ2[j]? = σ'[j]? := fun j hj => by
        have h1 : (L2.wipe σ2 vs)[j]? = (L2.wipe σ' vs)[j]? := by rw [hw]
        rw [L2.wipe_out hj, L2.wipe_out hj] at h1
        exact h1
      have hO4 : OwB X.K M b nb (f + (ds.length - (k + 1)) * c + c) H0 H3 σ2 env1 n p cs' := by
        have ef : f + (ds.length - (k + 1)) * c + c = f + (ds.length - k) * c := by
          rw [show ds.length - k = (ds.length - (k + 1)) + 1 by omega, Nat.add_mul]
          omega
        rw [ef]
        exact ⟨⟨hE2, hO3.st.mb, by rw [keep nb hnb]; exact hO3.st.at_, hO3.st.bag⟩, hO3.k0, hO3.w0, hO3.mb, hO3.np, hO3.pb, hO3.pc, by rw [keep n hn]; exact hO3.at_, hO3.ls⟩
      refine bd M b _ _ σ2 H3 (del H3 p) p hO4.cut fun σ3 H4 env4 cs4 hO5 ⟨l4, i4⟩ => ?_
      have sm34 : Sm (Add M p) H3 H4 := ⟨fun a o na e => hO5.k0 a o (fun z => na (.inl (by rw [z]; exact hO5.mb))) (by rw [del_ne (fun z => na (.inr z))]; exact e), hO5.st.en.wd⟩
      exact ⟨(q1.trans (sm_of (q1.2) s23)).trans sm34, cs4, i4, (OwB.back hO3.k0 hO3.w0 hO3.np hO5).le l4⟩
    · obtain ⟨q1, cs', q2, q3⟩ := q
      rw [Nat.sub_self, Nat.zero_mul, Nat.add_zero] at q3
      exact k σ' H' envL cs' q3 ⟨rfl, q2⟩⟩
mutual
theorem rep_addB {K : PySem.W.Frag} {M : Mu} {H H1 : Hp} {b p : Addr} (np : H p = none) (k : Kp b H H1) (hb : ∃ xs, H b = some (.lst xs)) (mb : M b) : ∀ {d : D} {v : V}, Rep K M H d v → Rep K (Add M p) H1 d v
  | .non, _, h => h
  | .bl _, _, h => h
  | .int _, _, h => h
  | .tup _, _, ⟨a, vs, e1, h1, h2⟩ => ⟨a, vs, e1, by
      obtain ⟨xs, q⟩ := hb
      rcases h1 with (h | ⟨o, h⟩) | h
      · exact .inl (.inl (k a _ (fun z => by rw [z, q] at h; cases h) h))
      · exact .inl (.inr ⟨o, k a _ (fun z => by rw [z, q] at h; cases h) h⟩)
      · exact .inr h, reps_addB np k hb mb h2⟩
  | .lst _, _, ⟨a, vs, e1, n, h1, h2⟩ => ⟨a, vs, e1, fun z => Or.elim z n (fun z => by rw [z, np] at h1; cases h1), k a _ (fun z => n (by rw [z]; exact mb)) h1, reps_addB np k hb mb h2⟩
theorem reps_addB {K : PySem.W.Frag} {M : Mu} {H H1 : Hp} {b p : Addr} (np : H p = none) (k : Kp b H H1) (hb : ∃ xs, H b = some (.lst xs)) (mb : M b) : ∀ {ds : List D} {vs : List V}, Reps K M H ds vs → Reps K (Add M p) H1 ds vs
  | [], _, h => h
  | _ :: _, _, ⟨v, r, e1, h1, h2⟩ => ⟨v, r, e1, rep_addB np k hb mb h1, reps_addB np k hb mb h2⟩
end
def PLB (X : Cx) (nb : Nat) (e : Expr) (env : DEnv) (c : Nat) (PS : List D → Prop) : Prop := ∀ M b f σ H, StB X.K M b nb (f + c) H σ env → ∀ Q : VK, (∀ p vs H' ds, H p = none → Kp b.1 H H' → Bag H' b f → H' p = some (.lst vs) → Reps X.K M H' ds vs → PS ds → Q (.ref p) H') → We X e σ H Q
theorem kp_free {b p : Addr} {H H' : Hp} (h : Kp b H H') (hb : ∃ xs, H' b = some (.lst xs)) (n : H' p = none) : H p = none := by
  cases e : H p with
  | none => rfl
  | some o =>
    by_cases z : p = b
    · subst z
      obtain ⟨xs, q⟩ := hb
      rw [n] at q
      cases q
    · have := h p o z e
      rw [n] at this
      cases this
theorem plb_lst (h : PAB X nb es env c PS) (hl : ∀ ds, PS ds → ds.length ≤ 1000) : PLB X nb (.List es pos) env c PS := fun M b f σ H hS Q z =>
  ⟨_, pe_lst wa, h M b f σ H hS _ fun vs H1 ds k1 g1 r1 pd => ⟨by rw [r1.length]; exact sl_small (hl ds pd), fun q nq => z q vs _ ds (kp_free k1 g1.lst nq) (k1.trans (kp_of (same_new nq))) (g1.same (same_new nq)) upd_same (reps_same (hS.go k1 g1).en.wd (same_new nq) r1) pd⟩⟩
theorem PLB.mono {PS1 : List D → Prop} (h : PLB X nb e env c PS) (k : c ≤ c1) (q : ∀ ds, PS ds → PS1 ds) : PLB X nb e env c1 PS1 := fun M b f σ H hS Q z =>
  h M b (f + (c1 - c)) σ H (by rw [show f + (c1 - c) + c = f + c1 by omega]; exact hS) Q fun p vs H' ds np k1 g a r pd => z p vs H' ds np k1 (g.mono (by omega)) a r (q ds pd)
theorem sb_own (n : Nat) {x : Str} {px : Pos} (h : PLB X nb e env c1 PS) (hfl : ∀ ds, PS ds → Flats ds) (hN : X.N.Nodup) (hs : ∀ ds, PS ds → SMR X nb n sts (env.set n none) ds c2 P) (hb : nb ≠ n := by decide) (hln : Nat.blt n env.length = true := by rfl) (hi : X.N[n]? = some x := by rfl) (hx : Loc X.env.scope x := by first | exact Or.inl rfl | exact Or.inr rfl) (hsw : swapsWith e (some (.Name x px)) pos.line X.env = pure false := by rfl)
    (hf : X.fn x = true ∨ X.env.scope.names.lookup x = some .local := by first | exact .inl rfl | exact .inr rfl) : SB X nb (.Assign [.Name x px] e pos :: sts) env (c1 + c2) (.rt P) := fun M b f D σ H hS k =>
  ⟨_, pss_cons (ps_set (i := n) hN hi hx we hsw hf) wss, h M b (f + c2) σ H (by rw [show f + c2 + c1 = f + (c1 + c2) by omega]; exact hS) _ fun p vs H1 ds np k1 g1 h1 r1 pd => by
    have hln' : n < env.length := Nat.le_of_ble_eq_true hln
    have hS1 := hS.go k1 g1
    have pb : p ≠ b.1 := fun z => by
      obtain ⟨xs, q⟩ := hS.bag.lst
      rw [← z, np] at q
      cases q
    have pc : b.2 ≠ p := fun z => by
      obtain ⟨_, _, _, _, _, _, q, _⟩ := hS.bag
      rw [z, np] at q
      cases q
    have wA : Wd (Add M p) H1 := fun a ma => by
      rcases ma with m | rfl
      · exact hS1.en.wd a m
      · exact ⟨vs, h1⟩
    have smb : Sm (Add M p) H H1 := ⟨fun a o na e => k1 a o (fun z => na (.inl (by rw [z]; exact hS.mb))) e, wA⟩
    refine hs ds pd M b f D _ H1 H p ⟨⟨⟨wA, by rw [List.length_set, List.length_set]; exact hS.en.len, fun i d z => ?_⟩, .inl hS.mb, by rw [List.getElem?_set_ne (Ne.symm hb)]; exact hS.at_, g1⟩, k1, hS.en.wd, hS.mb, np, pb, pc, by rw [List.getElem?_set_self (by rw [hS.en.len]; exact hln')], vs, h1, reps_flat (hfl ds pd) r1⟩ fun v H' d k2 g2 r2 p2 => k v H' d k2 g2 r2 p2
    by_cases e : n = i
    · subst e
      rw [List.getElem?_set_self hln'] at z
      cases z
    · rw [List.getElem?_set_ne e] at z
      obtain ⟨v, q1, q2⟩ := hS.en.at_ i d z
      refine ⟨v, by rw [List.getElem?_set_ne e]; exact q1, ?_⟩
      exact rep_addB np k1 hS.bag.lst hS.mb q2⟩
end
def R_l_mixed (ds : List D) (P : D → Prop) : Prop := ∃ cs : List Col, ds = [.lst (cs.map colD)] ∧ cs.length ≤ 8 ∧ P = fun d => ∃ ms : List Col, d = .lst (ms.map colD) ∧ ms.Perm cs
def Spaced (S : Int) (cs : List Col) : Prop := cs.Pairwise fun a b => S * S ≤ sqI a b
def Near (k : Int) (c : Col) : Prop := (-k ≤ c.1 ∧ c.1 ≤ k) ∧ -k ≤ c.2 ∧ c.2 ≤ k
def R_l_spaced (ds : List D) (P : D → Prop) : Prop := ∃ S many : Int, ds = [.int S, .int many] ∧ SOk S ∧ (2 ≤ many ∧ many ≤ 4) ∧ P = fun d => ∃ cs : List Col, d = .lst (cs.map colD) ∧ Spaced S cs ∧ (1 ≤ cs.length ∧ cs.length ≤ many) ∧ ∀ c ∈ cs, Near 16100 c
theorem ins_perm {cs : List Col} {c : Col} (i : Nat) : (cs.take i ++ [c] ++ cs.drop i).Perm (cs ++ [c]) := by
  refine List.Perm.trans (l₂ := c :: (cs.take i ++ cs.drop i)) ?_ ?_
  · rw [List.append_assoc]
    exact List.perm_middle
  · rw [List.take_append_drop]
    exact (List.perm_append_comm (l₁ := [c]) (l₂ := cs))
theorem col_get {cs : List Col} {k : Nat} {d : D} (h : (cs.map colD)[k]? = some d) : ∃ c, cs[k]? = some c ∧ d = colD c := by
  rw [List.getElem?_map] at h
  cases e : cs[k]? with
  | none => rw [e] at h; cases h
  | some c => rw [e] at h; exact ⟨c, rfl, by simpa using h.symm⟩
section
variable {P : Program} {w : World} {K : PySem.W.Frag} {mg : Str → Option Value} {base : Heap}
theorem cal_l_mixed {f : Addr} {fd : FuncData} (F : FnP K "_law_mixed" s_l_mixed f fd) (m : mg "_law_mixed" = some (.ref f)) (c_l_take : Cal P w K mg base "_law_take" 1 ["_law_bag_here", "_law_many"] (spB K 1 R_l_take)) (m_len : mg "len" = none) : Cal P w K mg base "_law_mixed" 2 ["_law_bag_here", "_law_things"] (spB K 8 R_l_mixed) := by
  refine cal_of F m (F.bindsN fun _ _ _ _ _ _ us hl => match us, hl with | [_, _], _ => rfl) (okB F sc_l_mixed (by decide) (by decide) (fun ds d h => ?_) fun cdv A outer s H E hr ds P0 hR => ?_)
  · obtain ⟨_, rfl, _⟩ := h
    rfl
  have nd := sc_l_mixed.nd
  obtain ⟨cs, rfl, hl, rfl⟩ := hR
  refine SB.mono (c := 0 + ((cs.map colD).length * 1 + 0)) ?_ (by rw [List.length_map]; omega)
  refine SB.nrm [none, some (.lst (cs.map colD)), none, none] rfl ?_
  refine sb_own 2 (PS := fun ds => ds = []) (plb_lst pab_nil (fun ds e => by rw [e]; exact Nat.zero_le _)) (fun ds e => by rw [e]; trivial) nd fun ds e => ?_
  subst e
  refine smr_cons (sm1b_for (envL := [none, some (.lst (cs.map colD)), none, none]) (fun k ds => ∃ ms : List Col, ds = ms.map colD ∧ ms.Perm (cs.take k)) (vs := [3]) (by decide) (by decide) (fun M => id_list (pd_var 1)) (Le.refl _) ⟨[], rfl, by rw [List.take_zero]⟩ (fun k d ds hd hI => ?_)) fun env1 ds ⟨e1, ms, e2, hp⟩ => ?_
  · obtain ⟨ms, rfl, hp⟩ := hI
    obtain ⟨c, hc, rfl⟩ := col_get hd
    have hkl := (List.getElem?_eq_some_iff.mp hc).1
    have hml : ms.length ≤ 8 := by
      rw [hp.length_eq, List.length_take]
      omega
    refine ⟨[none, some (.lst (cs.map colD)), none, some (colD c)], fun M => gdw_name 3 (by simp) nd, ?_⟩
    refine smb_last ?_
    have hins : ∀ env2 cs2, (env2 = ([none, some (.lst (cs.map colD)), none, some (colD c)] : DEnv) ∧ ∃ i : Nat, cs2 = (ms.map colD).take i ++ [colD c] ++ (ms.map colD).drop i) → (Le env2 [none, some (.lst (cs.map colD)), none, none] ∧ ∃ ms : List Col, cs2 = ms.map colD ∧ ms.Perm (cs.take (k + 1))) := by
      rintro env2 cs2 ⟨rfl, i, rfl⟩
      refine ⟨⟨.inr rfl, .inr rfl, .inr rfl, .inl rfl, trivial⟩, ms.take i ++ [c] ++ ms.drop i, by rw [List.map_append, List.map_append, List.map_take, List.map_drop] <;> rfl, ?_⟩
      rw [List.take_add_one, hc]
      exact (ins_perm i).trans (hp.append_right _)
    refine SM1B.mono (sm1b_ins (d := colD c) (c := 1) (q := fun i => 0 ≤ i ∧ i < ((ms.map colD).length : Int) + 1) (PAB.mono (c := 1 + (0 + 0)) (pab_cons (k_l_takeI (i := ((ms.map colD).length : Int) + 1) c_l_take hr (fun M => pd_add (pd_lenL m_len (pd_var 2)) pd_int) ?_) (pab_cons (pb_pd fun M => pd_var 3) pab_nil)) (by decide) ?_) ?_ ⟨trivial, trivial, trivial⟩ (by rw [List.length_map]; omega)) (by decide) hins
    · rw [List.length_map]
      constructor <;> omega
    · rintro xs ⟨d1, r1, rfl, ⟨i, rfl, hi⟩, d2, r2, rfl, rfl, rfl⟩
      exact ⟨i, rfl, hi⟩
    · rintro i hi
      rw [List.length_map] at hi
      omega
  · subst e1 e2
    refine smr_ret ⟨ms, rfl, ?_⟩
    rw [List.length_map, List.take_of_length_le (Nat.le_refl _)] at hp
    exact hp
end
end Wk
end
section
set_option Elab.async false
set_option linter.all false
set_option maxRecDepth 100000
set_option maxHeartbeats 4000000
namespace Wk
open PySem PySem.Spec PyProof.Rows L2 Fq
open Mi (Col Leg P2 pl dotQ sqAt)
local macro_rules | `(tactic| walk_at "nz") => `(tactic| first | assumption | exact Nz.sn (by assumption) | exact Nz.sd (by assumption) | (apply Nz.mul <;> walk_at "nz") | (apply Nz.add <;> walk_at "nz") | (apply Nz.sub <;> walk_at "nz") | (apply Nz.neg <;> walk_at "nz") | exact (show Nz 40 _ by unfold Nz; decide))
local macro_rules | `(tactic| walk_at "mw") => `(tactic| (apply Nz.w; (· walk_at "nz"); (· walk_at "nz"); decide))
theorem near_ok {k : Int} {c : Col} (h : Near k c) (hk : k ≤ 32000) : ColOk c := by
  obtain ⟨⟨a, b⟩, e, f⟩ := h
  exact ⟨Nz.of (by omega) (by omega), Nz.of (by omega) (by omega)⟩
def unc : D → Col
  | .tup [.int x, .int y] => (x, y)
  | _ => (0, 0)
def fClose (S : Int) (c : Col) (d : D) : Option D := if sqI (unc d) c < S * S then some d else none
theorem eqv_nil (xs : List D) : PyData.eqv (pyD (.lst xs)) (pyD (.lst [])) = decide (xs = []) := by
  cases xs with
  | nil => rfl
  | cons x xs =>
    show PyData.eqv (.list (pyD x :: pyDs xs)) (.list []) = _
    simp [PyData.eqv, PyData.eqvAll]
theorem close_none {S : Int} {c : Col} {ms : List Col} (h : (ms.map colD).filterMap (fClose S c) = []) : ∀ m ∈ ms, S * S ≤ sqI m c := by
  intro m hm
  rw [List.filterMap_eq_nil_iff] at h
  have := h (colD m) (List.mem_map.mpr ⟨m, hm, rfl⟩)
  unfold fClose at this
  have e : unc (colD m) = m := rfl
  rw [e] at this
  split at this
  · cases this
  · omega
theorem flat_col (c : Col) : Flat (colD c) := ⟨trivial, trivial, trivial⟩
theorem offL_len (S : Int) : 1 ≤ (offL S).length ∧ (offL S).length ≤ 1000 := by
  have := offB_len S
  unfold offL
  rw [List.length_append, List.length_map]
  omega
theorem cols_lay : ∀ cs : List Col, PyData.canLayAll0 (pyDs (cs.map colD)) = true
  | [] => rfl
  | c :: cs => by
    show (PyData.canLay0 (pyD (colD c)) && PyData.canLayAll0 (pyDs (cs.map colD))) = true
    rw [cols_lay cs]
    rfl
theorem cols_depth : ∀ cs : List Col, PyData.depthAll (pyDs (cs.map colD)) ≤ 10
  | [] => by decide
  | c :: cs => by
    have ih := cols_depth cs
    show PyData.depthAll (pyD (colD c) :: pyDs (cs.map colD)) ≤ 10
    simp only [PyData.depthAll]
    have : PyData.depth (pyD (colD c)) ≤ 10 := by
      simp [colD, pyD, pyDs, PyData.depth, PyData.depthAll]
    omega
theorem shaped_cols (cs : List Col) : SeqAt.shaped (pyD (.lst (cs.map colD))) = true := by
  unfold SeqAt.shaped
  rw [Bool.and_eq_true, decide_eq_true_iff]
  have h1 := cols_lay cs
  have h2 := cols_depth cs
  constructor
  · simpa [pyD, PyData.canLay0] using h1
  · simp only [pyD, PyData.depth]
    omega
theorem close_cols (S : Int) (col : Col) : ∀ ms : List Col, ∃ ks : List Col, (ms.map colD).filterMap (fClose S col) = ks.map colD
  | [] => ⟨[], rfl⟩
  | c :: ms => by
    obtain ⟨ks, h⟩ := close_cols S col ms
    rw [List.map_cons, List.filterMap_cons]
    by_cases hq : sqI c col < S * S
    · rw [show fClose S col (colD c) = some (colD c) from if_pos hq]
      exact ⟨c :: ks, by rw [List.map_cons, h]⟩
    · rw [show fClose S col (colD c) = none from if_neg hq]
      exact ⟨ks, h⟩
section
variable {P : Program} {w : World} {K : PySem.W.Frag} {mg : Str → Option Value} {base : Heap}
theorem cal_l_spaced {f : Addr} {fd : FuncData} (F : FnP K "_law_spaced" s_l_spaced f fd) (m : mg "_law_spaced" = some (.ref f)) (c_l_take : Cal P w K mg base "_law_take" 1 ["_law_bag_here", "_law_many"] (spB K 1 R_l_take)) (c_l_some : Cal P w K mg base "_law_some" 2 ["_law_bag_here", "_law_things"] (spB K 1 R_l_some)) (c_l_offsets : Cal P w K mg base "_law_offsets" 2 ["_law_spacing"] (spL K R_l_offsets)) (c_l_squared : Cal P w K mg base "_law_squared" 1 ["_law_one", "_law_other"] (spP K R_l_squared)) (m_len : mg "len" = none) (m_range : mg "range" = none) : Cal P w K mg base "_law_spaced" 3 ["_law_bag_here", "_law_spacing", "_law_many"] (spB K 40 R_l_spaced) := by
  refine cal_of F m (F.bindsN fun _ _ _ _ _ _ us hl => match us, hl with | [_, _, _], _ => rfl) (okB F sc_l_spaced (by decide) (by decide) (fun ds d h => ?_) fun cdv A outer s H E hr ds P0 hR => ?_)
  · obtain ⟨_, _, rfl, _⟩ := h
    rfl
  have nd := sc_l_spaced.nd
  obtain ⟨S, many, rfl, hS, hm, rfl⟩ := hR
  have zS : Nz 10 S := nz_small (by have := hS.1; omega) (by have := hS.2; omega)
  have zm : Nz 10 many := nz_small (by omega) (by omega)
  refine SB.mono (c := 2 + ((rngD 0 (4 * many).toNat).length * 2 + 0)) ?_ (by rw [rngD_len]; omega)
  refine SB.nrm [none, some (.int S), some (.int many), none, none, none, none, none, none] rfl ?_
  have mok : ManyOk (2 * S + 1) := by
    have := hS.1
    have := hS.2
    constructor <;> omega
  refine sb_own 3 (PS := fun ds => ∃ c : Col, ds = [c].map colD ∧ Near 100 c) ((plb_lst (c := 2 + 0) (pab_cons (c1 := 2) (c2 := 0) (pb_tup (PS := fun xs => ∃ c : Col, D.tup xs = colD c ∧ Near 100 c) (PAB.mono (c := 2) (pab_cons (c1 := 1) (pb_sub (c1 := 1) (c2 := 0) (q2 := fun k => k = S) (k_l_takeI (i := 2 * S + 1) c_l_take hr (fun M => pd_add (pd_mulW pd_int (pd_var 1) ?_) pd_int) mok) (pb_pdI fun M => pd_var 1)) (pab_cons (c1 := 1) (c2 := 0) (pb_sub (c1 := 1) (c2 := 0) (q2 := fun k => k = S) (k_l_takeI (i := 2 * S + 1) c_l_take hr (fun M => pd_add (pd_mulW pd_int (pd_var 1) ?_) pd_int) mok) (pb_pdI fun M => pd_var 1)) pab_nil)) (by decide) ?_) ?_) pab_nil) ?_).mono (by decide) ?_) ?_ nd fun ds ⟨c0, e0, hc0⟩ => ?_
  · walk_at "mw"
  · walk_at "mw"
  · rintro ds ⟨d1, r1, rfl, ⟨i1, rfl, a1, b1, ⟨h1, h2⟩, q1, rfl⟩, d2, r2, rfl, ⟨i2, rfl, a2, b2, ⟨h3, h4⟩, q2, rfl⟩, rfl⟩
    have := hS.1
    have := hS.2
    exact ⟨(a1 - S, a2 - S), by rw [q1, q2] <;> rfl, ⟨by show -100 ≤ a1 - S; omega, by show a1 - S ≤ 100; omega⟩, by show -100 ≤ a2 - S; omega, by show a2 - S ≤ 100; omega⟩
  · rintro ds ⟨c, e, _⟩
    cases e
    show 2 ≤ 1000
    decide
  · rintro ds ⟨d1, r1, rfl, _, rfl⟩
    show 1 ≤ 1000
    decide
  · rintro ds ⟨d1, r1, rfl, ⟨xs, rfl, c, e, hc⟩, rfl⟩
    exact ⟨c, by rw [e] <;> rfl, hc⟩
  · rintro ds ⟨c, rfl, _⟩
    exact flats_col _
  subst e0
  refine smr_cons (sm1b_for (envL := [none, some (.int S), some (.int many), none, none, none, none, none, none]) (fun k ds => ∃ ms : List Col, ds = ms.map colD ∧ Spaced S ms ∧ (1 ≤ ms.length ∧ ms.length ≤ many) ∧ ∀ c ∈ ms, Near (100 + 1000 * k) c) (vs := [4]) (by decide) (by decide) (fun M => id_range1 (i := 4 * many) m_range (pd_mulW pd_int (pd_var 2) ?_)) (Le.refl _) ⟨[c0], rfl, List.pairwise_singleton .., ⟨Nat.le_refl _, by show ((1 : Nat) : Int) ≤ many; omega⟩, fun c hc => ?_⟩ (fun k d ds hd hI => ?_)) fun env1 ds ⟨e1, ms, e2, h1, h2, h3⟩ => ?_
  · walk_at "mw"
  · rw [List.mem_singleton.mp hc]
    unfold Near at *
    omega
  · obtain ⟨hk, rfl⟩ := rngD_get hd
    obtain ⟨ms, rfl, h1, h2, h3⟩ := hI
    have hk16 : k < 16 := by omega
    have hlen : (ms.map colD).length = ms.length := List.length_map ..
    refine ⟨[none, some (.int S), some (.int many), none, some (.int (0 + (k : Int))), none, none, none, none], fun M => gdw_name 4 (by simp) nd, ?_⟩
    refine SMB.mono (c := (1 + 1) + (0 + 0)) (E := fun env2 cs2 => Le env2 [none, some (.int S), some (.int many), none, none, none, none, none, none] ∧ ∃ ms : List Col, cs2 = ms.map colD ∧ Spaced S ms ∧ (1 ≤ ms.length ∧ ms.length ≤ many) ∧ ∀ c ∈ ms, Near (100 + 1000 * ((k + 1 : Nat) : Int)) c) ?_ (by decide) (fun _ _ h => h)
    refine smb_cons (sm1b_par 5 6 (c1 := 1) (c2 := 1) (k_l_someI (xs := ms.map colD) c_l_some hr (fun M => pd_var 3) (by rw [hlen]; omega)) (k_l_someI (xs := (offL S).map colD) c_l_some hr (fun M => (pl_call c_l_offsets hr (pad_cons (pd_var 1) pad_nil) ⟨S, rfl, hS, rfl⟩).pd) (by rw [List.length_map]; exact offL_len S)) (fun d hd => ?_) (fun d hd => ?_) nd) fun env2 cs2 ⟨d1, d2, hd1, hd2, e3, e4⟩ => ?_
    · obtain ⟨c, _, rfl⟩ := List.mem_map.mp hd
      exact flat_col c
    · obtain ⟨c, _, rfl⟩ := List.mem_map.mp hd
      exact flat_col c
    obtain ⟨u, hu, rfl⟩ := List.mem_map.mp hd1
    obtain ⟨v, hv, rfl⟩ := List.mem_map.mp hd2
    subst e3 e4
    refine SMB.nrm [none, some (.int S), some (.int many), none, some (.int (0 + (k : Int))), some (colD u), some (colD v), none, none] rfl ?_
    have nu := h3 u hu
    have nv := offL_ok hS v hv
    have nc : Near (100 + 1000 * ((k + 1 : Nat) : Int)) (u.1 + v.1, u.2 + v.2) := by
      unfold Near SmC at *
      simp only
      omega
    have ncm : ∀ c ∈ ms, Near (100 + 1000 * ((k + 1 : Nat) : Int)) c := fun c hc => by
      have := h3 c hc
      unfold Near at *
      omega
    refine smb_cons (sm1b_set 7 (P := fun d => d = colD (u.1 + v.1, u.2 + v.2)) (pb_pd fun M => pd_tup (pad_cons (pd_add (pd_ixT (pd_var 5) pd_int) (pd_ixT (pd_var 6) pd_int)) (pad_cons (pd_add (pd_ixT (pd_var 5) pd_int) (pd_ixT (pd_var 6) pd_int)) pad_nil))) (fun d e => by rw [e]; exact flat_col _) nd) fun env2 cs2 ⟨d, e3, e4, e5⟩ => ?_
    subst e3 e4 e5
    refine SMB.nrm [none, some (.int S), some (.int many), none, some (.int (0 + (k : Int))), some (colD u), some (colD v), some (colD (u.1 + v.1, u.2 + v.2)), none] rfl ?_
    generalize hcc : ((u.1 + v.1, u.2 + v.2) : Col) = col at *
    have okc : ColOk col := near_ok nc (by omega)
    have okm : ∀ c ∈ ms, ColOk c := fun c hc => near_ok (h3 c hc) (by omega)
    have wk : Le [none, some (.int S), some (.int many), none, some (.int (0 + (k : Int))), some (colD u), some (colD v), some (colD col), none] [none, some (.int S), some (.int many), none, none, none, none, none, none] := ⟨.inr rfl, .inr rfl, .inr rfl, .inr rfl, .inl rfl, .inl rfl, .inl rfl, .inl rfl, .inr rfl, trivial⟩
    have hf : ∀ d ∈ ms.map colD, ∃ c ∈ ms, d = colD c := fun d hd => by
      obtain ⟨c, hc, rfl⟩ := List.mem_map.mp hd
      exact ⟨c, hc, rfl⟩
    refine smb_last (sm1b_if (k := decide (((ms.map colD).length : Int) < many) && decide ((ms.map colD).filterMap (fClose S col) = [])) (fun M => ptd_w (pwd_and (ptd_lt (pd_lenL m_len (pd_var 3)) (pd_var 2)) fun _ => (pwd_and1 (PTD.of (ptd_eqD hr (d1 := .lst ((ms.map colD).filterMap (fClose S col))) (d2 := .lst []) (pl_lc (ds := ms.map colD) (own := [("_law_one", 8)]) (f := fClose S col) (fun d => [none, some (.int S), some (.int many), some (.lst (ms.map colD)), some (.int (0 + (k : Int))), some (colD u), some (colD v), some (colD col), some d]) (blkOk_by (N := N_l_spaced) (sc := defScope s_l_spaced) (by decide +kernel)) nd (id_list (pd_var 3)) (fun d hd s H0 C cl fp => ?_) (by rw [hlen]; omega)).pd (pl_lst pad_nil (Nat.zero_le _)).pd ?_ rfl) (eqv_nil _))))) (fun ht => ?_) (fun ht => ?_))
    · obtain ⟨c, hc, rfl⟩ := hf d hd
      refine ⟨gdw_name 8 (by simp) nd, ?_⟩
      by_cases hq : sqI c col < S * S
      · rw [show fClose S col (colD c) = some (colD c) from if_pos hq]
        refine ⟨flat_col c, ptsd_one (PTD.of (ptd_lt (pd_call c_l_squared hr (pad_cons (pd_var 8) (pad_cons (pd_var 7) pad_nil)) ⟨c, col, rfl, okm c hc, okc, rfl⟩) (pd_mulW (pd_var 1) (pd_var 1) ?_)) (decide_eq_true hq)), pd_var 8⟩
        walk_at "mw"
      · rw [show fClose S col (colD c) = none from if_neg hq]
        refine ptsd_one (PTD.of (ptd_lt (pd_call c_l_squared hr (pad_cons (pd_var 8) (pad_cons (pd_var 7) pad_nil)) ⟨c, col, rfl, okm c hc, okc, rfl⟩) (pd_mulW (pd_var 1) (pd_var 1) ?_)) (decide_eq_false hq))
        walk_at "mw"
    · obtain ⟨ks, hks⟩ := close_cols S col ms
      rw [hks]
      exact shaped_cols ks
    · rw [Bool.and_eq_true, decide_eq_true_iff, decide_eq_true_iff, hlen] at ht
      have hcl := close_none ht.2
      refine smb_last (SM1B.mono (sm1b_app (d := colD col) (fun M => pd_var 7) (flat_col _) (by rw [hlen]; omega)) (Nat.le_refl _) ?_)
      rintro env2 cs2 ⟨rfl, rfl⟩
      refine ⟨wk, ms ++ [col], by rw [List.map_append] <;> rfl, ?_, ?_, ?_⟩
      · unfold Spaced
        rw [List.pairwise_append]
        exact ⟨h1, List.pairwise_singleton .., fun a ha b hb => by rw [List.mem_singleton.mp hb]; exact hcl a ha⟩
      · rw [List.length_append, List.length_singleton]
        omega
      · intro c hc
        rcases List.mem_append.mp hc with hc | hc
        · exact ncm c hc
        · rw [List.mem_singleton.mp hc]
          exact nc
    · exact smb_nil ⟨wk, ms, rfl, h1, h2, ncm⟩
  · subst e1 e2
    refine smr_ret ⟨ms, rfl, h1, h2, fun c hc => ?_⟩
    have := h3 c hc
    rw [rngD_len] at this
    unfold Near at *
    omega
end
end Wk
end
section
set_option Elab.async false
set_option linter.all false
set_option maxRecDepth 100000
set_option maxHeartbeats 4000000
namespace TZ
open PySem PySem.Spec PyProof.Rows L2
open PySem.Sem (wp)
theorem nolen_zip : typeLookup (.type "zip") "__len__" = pure none := by rw [typeLookup_type, builtinLookup_eq_fast]; kernel_rfl
theorem nohint_zip : typeLookup (.type "zip") "__length_hint__" = pure none := by rw [typeLookup_type, builtinLookup_eq_fast]; kernel_rfl
structure Cells where
  (z TI TO i1 i2 l1 l2 S : Addr)
def Cells.ch (c : Cells) : List Addr := [c.z, c.TI, c.TO, c.i1, c.i2, c.S]
theorem sqL_keep {K : PySem.W.Frag} {H H' : Hp} (e : Same H H') {a : Addr} {xs : List V} (h : SqL K H a xs) : SqL K H' a xs := by
  rcases h with (h | ⟨o, h⟩) | h
  · exact .inl (.inl (e a _ h))
  · exact .inl (.inr ⟨o, e a _ h⟩)
  · exact .inr h
structure Zs (c : Cells) (i : Nat) (h : Heap) : Prop where
  hTI : IsPair h c.TI (.ref c.i1) (.ref c.i2)
  hTO : ∃ o, h.get? c.TO = some o
  h1 : h.IsListIter c.i1 c.l1 i
  h2 : h.IsListIter c.i2 c.l2 i
  hz : (IsZip h c.z c.TI c.TO .none ∧ ∃ a b, IsPair h c.TO a b) ∨ ∃ T f oT, IsZipHeld h c.z c.TI c.TO T f ∧ h.get? T = some oT ∧ T ≠ c.z ∧ T ≠ c.i1 ∧ T ≠ c.i2 ∧ T ≠ c.S
def Pairs (vx vy : List V) (Ts : List Addr) (H : Hp) : Prop := ∀ (j : Nat) (T : Addr), Ts[j]? = some T → ∃ x y, vx[j]? = some x ∧ vy[j]? = some y ∧ H T = some (.tup [x, y])
theorem Pairs.same {vx vy : List V} {Ts : List Addr} {H H' : Hp} (h : Pairs vx vy Ts H) (e : Same H H') : Pairs vx vy Ts H' := fun j T q => let ⟨x, y, a, b, c⟩ := h j T q; ⟨x, y, a, b, e _ _ c⟩
theorem Pairs.snoc {vx vy : List V} {Ts : List Addr} {H H' : Hp} {T : Addr} {x y : V} (h : Pairs vx vy Ts H) (e : Same H H') (hx : vx[Ts.length]? = some x) (hy : vy[Ts.length]? = some y) (hT : H' T = some (.tup [x, y])) : Pairs vx vy (Ts ++ [T]) H' := fun j U q => by
  rcases Nat.lt_or_ge j Ts.length with z | z
  · rw [List.getElem?_append_left z] at q
    exact h.same e j U q
  · rw [List.getElem?_append_right z] at q
    have ej : j = Ts.length := by
      rcases Nat.eq_zero_or_pos (j - Ts.length) with z2 | z2
      · omega
      · rw [List.getElem?_eq_none (by simp; omega)] at q
        cases q
    subst ej
    rw [Nat.sub_self] at q
    have : T = U := by simpa using q
    subst this
    exact ⟨x, y, hx, hy, hT⟩
section
variable {X : Cx} {pins : List (Addr × Obj)} {σ : L2.St}
theorem ext_zip {A : Around} (hh : A.handled = none) (c : Cells) (D : ZipApart c.z c.TI c.TO c.i1 c.i2 c.l1 c.l2) (hS : c.S ∉ [c.z, c.TI, c.TO, c.i1, c.i2]) (vx vy : List V) (res : Value) {R : Result → Shared → Prop} :
    ∀ (k i : Nat) (s : Shared) (H : Hp) (cap : Nat) (Ts : List Addr), min vx.length vy.length - i = k → i ≤ min vx.length vy.length → Inv X pins σ H s → SqL X.K H c.l1 vx → SqL X.K H c.l2 vy → Zs c i s.heap → (∀ b ∈ c.ch, FpOk X pins H b) →
    s.heap.get? c.S = some { cls := .type "list", dict := none, data := .seq (Ts.map Value.ref).toArray cap, slots := #[] } → Ts.length = i → Pairs vx vy Ts H →
    (∀ s' H' cap' Ts', Inv X pins σ H' s' → Same H H' → s'.heap.get? c.S = some { cls := .type "list", dict := none, data := .seq (List.map Value.ref Ts').toArray cap', slots := #[] } → Ts'.length = min vx.length vy.length → Pairs vx vy Ts' H' → R (.ok (.ret res)) s') →
    codeAny (model X.prog X.w) A (.builtin "list.extend.loop" ⟨[.ref c.S, .ref c.z, res], []⟩) R s := by
  intro k
  induction k with
  | zero =>
    intro i s H cap Ts hk hi I q1 q2 st hf hSl hTs hP hR
    have hin : i = min vx.length vy.length := by omega
    obtain ⟨its, rv, p, hz1⟩ := I.list q1
    obtain ⟨its2, rv2, p2, hz2⟩ := I.list q2
    have hl1 := rv.length
    have hl2 := rv2.length
    have hend : its.toArray[i]? = none ∨ its2.toArray[i]? = none := by
      rcases Nat.le_total vx.length vy.length with z | z
      · exact .inl (by simp; omega)
      · exact .inr (by simp; omega)
    refine codeAny_builtin F.entry_extend_loop ?_
    rw [Around.under_plainId F.plain_extend_loop _]
    show wpAny _ A.in1 (pyNext (.ref c.z) >>= _) _ _ s
    have fin : ∀ h' : Heap, (∀ b o, b ≠ c.z → b ≠ c.TO → b ≠ c.i1 → b ≠ c.i2 → s.heap.get? b = some o → h'.get? b = some o) → R (.ok (.ret res)) { s with heap := h' } := fun h' hk => by
      have I1 : Inv X pins σ H { s with heap := h' } := I.turnedL (t' := s.toks) (ch := c.ch) (fun b o hb q => hk b o (fun e => hb (by simp [Cells.ch, e])) (fun e => hb (by simp [Cells.ch, e])) (fun e => hb (by simp [Cells.ch, e])) (fun e => hb (by simp [Cells.ch, e])) q) hf
      have hS' : c.S ≠ c.z ∧ c.S ≠ c.TI ∧ c.S ≠ c.TO ∧ c.S ≠ c.i1 ∧ c.S ≠ c.i2 := by simpa [not_or] using hS
      exact hR { s with heap := h' } H cap Ts I1 (Same.refl H) (hk _ _ hS'.1 hS'.2.2.1 hS'.2.2.2.1 hS'.2.2.2.2 hSl) (by omega) hP
    rcases st.hz with ⟨hz, a, b, hTO⟩ | ⟨T, f, oT, hz, hT, r1, r2, r3, r4⟩
    · exact wpAny_bind (wpAny_pyNext_zip_end hh D hz st.hTI hTO st.h1 st.h2 p.isList p2.isList hend fun h' hk => wpAny_pure (fin h' fun b o n1 n2 n3 n4 e => hk b o n1 n2 n3 n4 e))
    · exact wpAny_bind (wpAny_pyNext_zip_end_held hh D hz hT st.hTI st.h1 st.h2 p.isList p2.isList hend fun h' hk => wpAny_pure (fin h' fun b o n1 n2 n3 n4 e => hk b o n1 n3 n4 e))
  | succ k ih =>
    intro i s H cap Ts hk hi I q1 q2 st hf hSl hTs hP hR
    have hlt : i < min vx.length vy.length := by omega
    obtain ⟨its, rv, p, hz1⟩ := I.list q1
    obtain ⟨its2, rv2, p2, hz2⟩ := I.list q2
    have hx : vx[i]? = some vx[i] := List.getElem?_eq_getElem (by omega)
    have hy : vy[i]? = some vy[i] := List.getElem?_eq_getElem (by omega)
    obtain ⟨u, hu, ru⟩ := rv.get hx
    obtain ⟨u2, hu2, ru2⟩ := rv2.get hy
    have hu' : its.toArray[i]? = some u := by simpa using hu
    have hu2' : its2.toArray[i]? = some u2 := by simpa using hu2
    have hS' : c.S ≠ c.z ∧ c.S ≠ c.TI ∧ c.S ≠ c.TO ∧ c.S ≠ c.i1 ∧ c.S ≠ c.i2 := by simpa [not_or] using hS
    have lt : ∀ {b o}, s.heap.get? b = some o → s.heap.objs.size ≠ b := fun e => Nat.ne_of_gt (Heap.lt_size e)
    have n1 : s.heap.objs.size ≠ c.i1 := let ⟨_, e, _⟩ := st.h1; lt e
    have n2 : s.heap.objs.size ≠ c.i2 := let ⟨_, e, _⟩ := st.h2; lt e
    have nTI : s.heap.objs.size ≠ c.TI := lt st.hTI
    have nS : s.heap.objs.size ≠ c.S := lt hSl
    have nTO : s.heap.objs.size ≠ c.TO := let ⟨_, e⟩ := st.hTO; lt e
    have nz : s.heap.objs.size ≠ c.z := by
      rcases st.hz with ⟨hz, _⟩ | ⟨T, f, oT, hz, _⟩
      · exact lt hz
      · exact lt hz
    have fin : ∀ h' : Heap, (∃ o, h'.get? c.TO = some o) → IsPair h' s.heap.objs.size u u2 → h'.IsListIter c.i1 c.l1 (i + 1) → h'.IsListIter c.i2 c.l2 (i + 1) → (∃ T f oT, IsZipHeld h' c.z c.TI c.TO T f ∧ h'.get? T = some oT ∧ T ≠ c.z ∧ T ≠ c.i1 ∧ T ≠ c.i2 ∧ T ≠ c.S) → (∀ b o, b ≠ c.z → b ≠ c.TO → b ≠ c.i1 → b ≠ c.i2 → s.heap.get? b = some o → h'.get? b = some o) →
        codeAny (model X.prog X.w) A (.builtin "list.extend.loop" ⟨[.ref c.S, .ref c.z, res], []⟩) R { s with heap := h'.update c.S (Obj.mapSeq (·.push (Value.ref s.heap.objs.size))) } := by
      intro h' ⟨oTO, hoTO⟩ hT a1 a2 hzz hk
      have hS1 := hk _ _ hS'.1 hS'.2.2.1 hS'.2.2.2.1 hS'.2.2.2.2 hSl
      have oth : ∀ b, b ≠ c.S → (h'.update c.S (Obj.mapSeq (·.push (Value.ref s.heap.objs.size)))).get? b = h'.get? b := fun b hb => Heap.get?_update_other _ _ (Ne.symm hb)
      have hT2 : (h'.update c.S (Obj.mapSeq (·.push (Value.ref s.heap.objs.size)))).get? s.heap.objs.size = some { cls := .type "tuple", data := .seq #[u, u2] } := (oth _ nS).trans hT
      have new : ObjOk X.prog X.w (upd H s.heap.objs.size (.tup [vx[i], vy[i]])) (h'.update c.S (Obj.mapSeq (·.push (Value.ref s.heap.objs.size)))) s.heap.objs.size (.tup [vx[i], vy[i]]) :=
        ⟨by show 2 ≤ sizeLine; decide, [u, u2], .cons ru (.cons ru2 .nil), ⟨_, hT2, rfl, _, rfl⟩⟩
      have I1 : Inv X pins σ (upd H s.heap.objs.size (.tup [vx[i], vy[i]])) { s with heap := h'.update c.S (Obj.mapSeq (·.push (Value.ref s.heap.objs.size))) } :=
        I.turnedNew (t' := s.toks) (ch := c.ch) (fun b o hb q => (oth b (fun e => hb (by simp [Cells.ch, e]))).trans (hk b o (fun e => hb (by simp [Cells.ch, e])) (fun e => hb (by simp [Cells.ch, e])) (fun e => hb (by simp [Cells.ch, e])) (fun e => hb (by simp [Cells.ch, e])) q)) hf (Nat.le_refl _) new
      have hn : H s.heap.objs.size = none := I.hok.fresh (Nat.le_refl _)
      have sm : Same H (upd H s.heap.objs.size (.tup [vx[i], vy[i]])) := Wk.same_new hn
      have lt2 : ∀ b ∈ c.ch, b ≠ s.heap.objs.size := fun b hb => by
        have e' : b = c.z ∨ b = c.TI ∨ b = c.TO ∨ b = c.i1 ∨ b = c.i2 ∨ b = c.S := by simpa [Cells.ch] using hb
        rcases e' with e | e | e | e | e | e
        · rw [e]; exact Ne.symm nz
        · rw [e]; exact Ne.symm nTI
        · rw [e]; exact Ne.symm nTO
        · rw [e]; exact Ne.symm n1
        · rw [e]; exact Ne.symm n2
        · rw [e]; exact Ne.symm nS
      have hS3 := Heap.get?_update_self (Obj.mapSeq (·.push (Value.ref s.heap.objs.size))) hS1 rfl
      have earr : (List.map Value.ref (Ts ++ [s.heap.objs.size])).toArray = (Ts.map Value.ref).toArray.push (Value.ref s.heap.objs.size) := by simp
      obtain ⟨cap3, hS4⟩ : ∃ cap3, (h'.update c.S (Obj.mapSeq (·.push (Value.ref s.heap.objs.size)))).get? c.S = some { cls := .type "list", dict := none, data := .seq (List.map Value.ref (Ts ++ [s.heap.objs.size])).toArray cap3, slots := #[] } := ⟨_, by rw [hS3, earr]; rfl⟩
      obtain ⟨T0, f0, oT0, b1, b2, b3, b4, b5, b6⟩ := hzz
      refine ih (i + 1) _ _ cap3 (Ts ++ [s.heap.objs.size]) (by omega) hlt I1 (sqL_keep sm q1) (sqL_keep sm q2) ⟨?_, ⟨oTO, (oth _ (Ne.symm hS'.2.2.1)).trans hoTO⟩, a1.at fun o e => (oth _ (Ne.symm hS'.2.2.2.1)).trans e, a2.at fun o e => (oth _ (Ne.symm hS'.2.2.2.2)).trans e, .inr ⟨T0, f0, oT0, (oth _ (Ne.symm hS'.1)).trans b1, (oth _ b6).trans b2, b3, b4, b5, b6⟩⟩ (fun b hb => ?_) hS4 (by rw [List.length_append, hTs] <;> rfl) (hP.snoc sm (by rw [hTs]; exact hx) (by rw [hTs]; exact hy) upd_same) fun s' H' cap' Ts' I' sm' e' l' p' => hR s' H' cap' Ts' I' (sm.trans sm') e' l' p'
      · exact (oth _ (Ne.symm hS'.2.1)).trans (hk _ _ D.TIz D.TITO D.TIi1 D.TIi2 st.hTI)
      · obtain ⟨f1, f2⟩ := hf b hb
        exact ⟨by rw [upd_ne (lt2 b hb)]; exact f1, f2⟩
    refine codeAny_builtin F.entry_extend_loop ?_
    rw [Around.under_plainId F.plain_extend_loop _]
    show wpAny _ A.in1 (pyNext (.ref c.z) >>= _) _ _ s
    have sz : (Ts.map Value.ref).toArray.size = i := by simp [hTs]
    rcases st.hz with ⟨hz, a, b, hTO⟩ | ⟨T, f, oT, hz, hT, r1, r2, r3, r4⟩
    · refine wpAny_bind (wpAny_pyNext_zip_item D hz st.hTI hTO st.h1 st.h2 p.isList p2.isList hu' hu2' fun h' a1 a2 a3 a4 a5 a6 hk => ?_)
      have hS1 := hk _ _ hS'.1 hS'.2.2.1 hS'.2.2.2.1 hS'.2.2.2.2 hSl
      show wpAny _ A.in1 (updateSeq c.S (·.push _) >>= _) _ _ _
      refine wpAny_bind ?_
      refine wpAny_updateSeq hS1 rfl (wpAny_pure ⟨plainId_quiet F.plain_extend_loop _, fin h' ⟨_, a2⟩ a5 a3 a4 ⟨s.heap.objs.size, false, _, a1, a5, nz, n1, n2, nS⟩ hk⟩) (by rw [sz]; omega) (by rw [Array.size_push, sz]; omega)
    · refine wpAny_bind (wpAny_pyNext_zip_item_held D hz hT st.hTI st.h1 st.h2 p.isList p2.isList hu' hu2' fun h' a1 a3 a4 a5 a6 hk => ?_)
      have hS1 := hk _ _ hS'.1 hS'.2.2.2.1 hS'.2.2.2.2 hSl
      show wpAny _ A.in1 (updateSeq c.S (·.push _) >>= _) _ _ _
      refine wpAny_bind ?_
      refine wpAny_updateSeq hS1 rfl (wpAny_pure ⟨plainId_quiet F.plain_extend_loop _, fin h' (let ⟨oq, eq⟩ := st.hTO; ⟨oq, hk _ _ D.TOz D.TOi1 D.TOi2 eq⟩) a5 a3 a4 ⟨T, true, oT, a1, hk _ _ r1 r2 r3 hT, r1, r2, r3, r4⟩ fun b o m1 _ m3 m4 e => hk b o m1 m3 m4 e⟩) (by rw [sz]; omega) (by rw [Array.size_push, sz]; omega)
theorem collect_zip {A : Around} {E : Value → Shared → Prop} {s : Shared} {H : Hp} {Q : List Value → Shared → Prop} (hh : A.handled = none) {z TI TO i1 i2 l1 l2 : Addr} {a b : Value} (D : ZipApart z TI TO i1 i2 l1 l2) (vx vy : List V) (I : Inv X pins σ H s) (q1 : SqL X.K H l1 vx) (q2 : SqL X.K H l2 vy)
    (hz : IsZip s.heap z TI TO .none) (hTI : IsPair s.heap TI (.ref i1) (.ref i2)) (hTO : IsPair s.heap TO a b) (h1 : s.heap.IsListIter i1 l1 0) (h2 : s.heap.IsListIter i2 l2 0) (hf : ∀ b ∈ [z, TI, TO, i1, i2], FpOk X pins H b)
    (hQ : ∀ s' H' Ts, Inv X pins σ H' s' → Same H H' → Ts.length = min vx.length vy.length → Pairs vx vy Ts H' → Q (Ts.map Value.ref) s') : wpAny (model X.prog X.w) A (collect (.ref z)) Q E s := by
  have lt : ∀ {b o}, s.heap.get? b = some o → s.heap.objs.size ≠ b := fun e => Nat.ne_of_gt (Heap.lt_size e)
  have n1 : s.heap.objs.size ≠ i1 := let ⟨_, e, _⟩ := h1; lt e
  have n2 : s.heap.objs.size ≠ i2 := let ⟨_, e, _⟩ := h2; lt e
  have hSf : s.heap.objs.size ∉ [z, TI, TO, i1, i2] := by simp [lt hz, lt hTI, lt hTO, n1, n2]
  have hSz : s.heap.objs.size ≠ z := lt hz
  have fS : FpOk X pins H s.heap.objs.size := I.fpOk (Nat.le_refl _) (I.hok.fresh (Nat.le_refl _))
  unfold collect
  refine wpAny_bind (wpAny_runValue (codeAny_builtin F.entry_proto_collect ?_))
  rw [Around.under_plainId F.plain_proto_collect _]
  show wpAny _ A.in1 (newList [] >>= fun l => again (.builtin "list.__iadd__" ⟨[l, .ref z], []⟩)) _ _ s
  refine wpAny_bind (wpAny_newObj_type ?_)
  refine wpAny_pure ⟨plainId_quiet F.plain_list_iadd _, codeAny_builtin F.entry_list_iadd ?_⟩
  rw [Around.under_plainId F.plain_list_iadd _]
  have up : ∀ b o, s.heap.get? b = some o → (s.heap.push { cls := .type "list", data := .seq ([] : List Value).toArray }).get? b = some o := fun b o e => Heap.get?_push_of_some _ e
  have hz1 : IsZip (s.heap.push { cls := .type "list", data := .seq ([] : List Value).toArray }) z TI TO .none := up _ _ hz
  have hT : ({ s with heap := s.heap.push { cls := .type "list", data := .seq ([] : List Value).toArray } } : Shared).TypeIs (.ref z) "zip" := ⟨_, hz1, rfl⟩
  show wpAny _ A.in1 (Builtin.List.listExtendWith (.ref s.heap.objs.size) (.ref z) (.ref s.heap.objs.size)) _ _ _
  unfold Builtin.List.listExtendWith
  refine wpAny_bind (wpAny_typeOf hT ?_)
  have g1 : Builtin.List.listSameRef (.ref s.heap.objs.size) (.ref z) = false := by simp [Builtin.List.listSameRef, hSz]
  have g2 : (Value.type "zip" == Value.type "list") = false := by decide
  have g3 : (Value.type "zip" == Value.type "tuple") = false := by decide
  simp only [g1, g2, g3, Bool.or_false, Bool.false_eq_true, if_false]
  refine wpAny_bind (wpAny_pyIter_zip (s := { s with heap := s.heap.push { cls := .type "list", data := .seq ([] : List Value).toArray } }) hz1 ?_)
  refine wpAny_bind (wpAny_holding ?_)
  unfold Builtin.List.listLengthHint
  refine wpAny_bind (wpAny_specialOf hT nolen_zip ?_)
  show wpAny _ A.in1 (specialOf (Value.ref z) (Str.ofString "__length_hint__") >>= _) _ _ _
  refine wpAny_bind (wpAny_specialOf hT nohint_zip ?_)
  refine wpAny_pure ?_
  show wpAny _ A.in1 (rule "list.extend.makes-room" >>= fun _ => Builtin.List.listTouch (.ref s.heap.objs.size) >>= fun _ =>
    again (.builtin "list.extend.loop" ⟨[.ref s.heap.objs.size, .ref z, .ref s.heap.objs.size], []⟩)) _ _ _
  refine wpAny_bind (wpAny_rule ?_)
  have hS₁ : (s.heap.push { cls := .type "list", data := .seq ([] : List Value).toArray }).get? s.heap.objs.size = some { cls := .type "list", data := .seq ([] : List Value).toArray } := Heap.get?_push_size _ rfl
  refine wpAny_bind ?_
  show wpAny _ A.in1 (updateSeq s.heap.objs.size (·.push .none) >>= fun _ => updateSeq s.heap.objs.size (·.pop)) _ _ _
  refine wpAny_bind (wpAny_updateSeq hS₁ rfl ?_)
  have hS₂ := Heap.get?_update_self (Obj.mapSeq (·.push Value.none)) hS₁ rfl
  refine wpAny_updateSeq hS₂ rfl ?_
  have hS₃ := Heap.get?_update_self (Obj.mapSeq (·.pop)) hS₂ rfl
  have oth : ∀ b o, b ≠ s.heap.objs.size → s.heap.get? b = some o →
      (((s.heap.push { cls := .type "list", data := .seq ([] : List Value).toArray }).update s.heap.objs.size (Obj.mapSeq (·.push Value.none))).update s.heap.objs.size (Obj.mapSeq (·.pop))).get? b = some o :=
    fun b o hb e => (Heap.get?_update_other _ _ (Ne.symm hb)).trans ((Heap.get?_update_other _ _ (Ne.symm hb)).trans (up b o e))
  obtain ⟨f0, f1, f2, f3, f4, f5⟩ := fS
  have I3 : Inv X pins σ H { s with heap := ((s.heap.push { cls := .type "list", data := .seq ([] : List Value).toArray }).update s.heap.objs.size (Obj.mapSeq (·.push Value.none))).update s.heap.objs.size (Obj.mapSeq (·.pop)) } :=
    I.turned (t' := s.toks) oth f0 f1 f3 f4 f5
  refine wpAny_pure ⟨plainId_quiet F.plain_extend_loop _, ext_zip hh ⟨z, TI, TO, i1, i2, l1, l2, s.heap.objs.size⟩ D hSf vx vy _ _ 0 _ H _ [] rfl (Nat.zero_le _) I3 q1 q2 ⟨oth _ _ (Ne.symm (lt hTI)) hTI, ⟨_, oth _ _ (Ne.symm (lt hTO)) hTO⟩, h1.at fun o e => oth _ o (Ne.symm (lt e)) e, h2.at fun o e => oth _ o (Ne.symm (lt e)) e, .inl ⟨oth _ _ (Ne.symm (lt hz)) hz, a, b, oth _ _ (Ne.symm (lt hTO)) hTO⟩⟩ (fun b hb => ?_) hS₃ rfl (fun j T e => by simp at e) fun s' H' cap' Ts' I' sm' hS' l' p' => ?_⟩
  · have e' : b = z ∨ b = TI ∨ b = TO ∨ b = i1 ∨ b = i2 ∨ b = s.heap.objs.size := by simpa [Cells.ch] using hb
    rcases e' with e | e | e | e | e | e
    · exact hf b (by simp [e])
    · exact hf b (by simp [e])
    · exact hf b (by simp [e])
    · exact hf b (by simp [e])
    · exact hf b (by simp [e])
    · rw [e]; exact ⟨f0, f1, f2, f3, f4, f5⟩
  · show wpAny _ A (load s.heap.objs.size >>= _) _ _ s'
    refine wpAny_bind (wpAny_load hS' ?_)
    have e : ((List.map Value.ref Ts').toArray).toList = Ts'.map Value.ref := by simp
    refine wpAny_pure ?_
    have := hQ s' H' Ts' I' sm' l' p'
    simpa using this
theorem code_tuple_zip {A : Around} {E : Value → Shared → Prop} {s : Shared} {H : Hp} {Q₁ : Value → Shared → Prop} (hh : A.handled = none) {z TI TO i1 i2 l1 l2 : Addr} {a b : Value} (D : ZipApart z TI TO i1 i2 l1 l2) (vx vy : List V) (I : Inv X pins σ H s) (q1 : SqL X.K H l1 vx) (q2 : SqL X.K H l2 vy)
    (hz : IsZip s.heap z TI TO .none) (hTI : IsPair s.heap TI (.ref i1) (.ref i2)) (hTO : IsPair s.heap TO a b) (h1 : s.heap.IsListIter i1 l1 0) (h2 : s.heap.IsListIter i2 l2 0) (hf : ∀ b ∈ [z, TI, TO, i1, i2], FpOk X pins H b)
    (h : ∀ s' H' Ts, Inv X pins σ H' s' → Same H H' → Ts.length = min vx.length vy.length → Pairs vx vy Ts H' → Q₁ (.ref s'.heap.objs.size) { s' with heap := s'.heap.push { cls := .type "tuple", data := .seq (Ts.map Value.ref).toArray } }) :
    codeAny (model X.prog X.w) A (.call (.builtin "tuple.__new__") ⟨[.type "tuple", .ref z], []⟩) (wants Q₁ E) s := by
  obtain ⟨its, rv, p, hsz⟩ := I.list q1
  refine codeAny_of_tree ?_
  show wpAny _ A.in1 (do checkBuiltinCall "tuple.__new__" ⟨[.type "tuple", .ref z], []⟩; again (.builtin "tuple.__new__" ⟨[.type "tuple", .ref z], []⟩)) _ _ s
  refine wpAny_bind (wpAny_of_eq (F.newCall_tuple_1 _) (wpAny_pure ⟨plainId_quiet F.plain_tuple_new _, codeAny_builtin F.entry_tuple_new ?_⟩))
  rw [Around.under_plainId F.plain_tuple_new _]
  have hsub := sub_tuple_self
  have hinit := init_tuple_lookup
  have hmh := madeHere_tuple
  have hTI' : s.TypeIs (.ref z) "zip" := ⟨_, hz, rfl⟩
  have hh1 : A.in1.handled = none := hh
  wp_walk using wpAny_typeOf hTI', collect_zip (A := A.in1) hh1 D vx vy I q1 q2 hz hTI hTO h1 h2 hf
  intro s' H' Ts I' sm' l' p'
  show wpAny _ _ (Builtin.Tuple.tupleExact (Ts.map Value.ref).toArray >>= fun v => ret v) _ _ _
  unfold Builtin.Tuple.tupleExact
  refine wpAny_bind (wpAny_newObj_type ?_ (by show (Ts.map Value.ref).toArray.size ≤ sizeLine; simp [l']; omega))
  refine wpAny_pure ?_
  exact h s' H' Ts I' sm' l' p'
end
end TZ
end
section
set_option Elab.async false
set_option linter.all false
set_option maxRecDepth 100000
set_option maxHeartbeats 4000000
namespace TZ
open PySem PySem.Spec PyProof.Rows L2
open PySem.Sem (wp)
section
variable {X : Cx} {pins : List (Addr × Obj)} {σ : L2.St}
theorem call_tuple_zip {A : Around} {E : Value → Shared → Prop} {s : Shared} {H : Hp} {Q : Value → Shared → Prop} (hh : A.handled = none) {z TI TO i1 i2 l1 l2 : Addr} {a b : Value} (D : ZipApart z TI TO i1 i2 l1 l2) (vx vy : List V) (I : Inv X pins σ H s) (q1 : SqL X.K H l1 vx) (q2 : SqL X.K H l2 vy)
    (hz : IsZip s.heap z TI TO .none) (hTI : IsPair s.heap TI (.ref i1) (.ref i2)) (hTO : IsPair s.heap TO a b) (h1 : s.heap.IsListIter i1 l1 0) (h2 : s.heap.IsListIter i2 l2 0) (hf : ∀ b ∈ [z, TI, TO, i1, i2], FpOk X pins H b)
    (hQ : ∀ s' H' Ts, Inv X pins σ H' s' → Same H H' → Ts.length = min vx.length vy.length → Pairs vx vy Ts H' → Q (.ref s'.heap.objs.size) { s' with heap := s'.heap.push { cls := .type "tuple", data := .seq (Ts.map Value.ref).toArray } }) :
    wpAny (model X.prog X.w) A (call (.type "tuple") [.ref z]) Q E s := by
  refine callType_codes (Q₁ := fun obj s₁ => s₁.TypeIs obj "tuple" ∧ Q obj s₁) F.called_tuple (F.typeCall_tuple_1 _) F.entry_object_init
    (code_tuple_zip (A := A.in1) hh D vx vy I q1 q2 hz hTI hTO h1 h2 hf fun s' H' Ts I' sm' l' p' => ⟨⟨_, Heap.get?_push_size _ rfl, rfl⟩, hQ s' H' Ts I' sm' l' p'⟩) fun obj s₁ h₁ => ?_
  exact ⟨h₁.1, F.args_object_init_2 obj _, object_init_meets F.called_tuple.init.lookup F.called_tuple.made (by decide) X.prog X.w A.in1 _ s₁ ⟨h₁.1, rfl, h₁.2⟩⟩
def tTupZip (K : PySem.W.Frag) (ta : TA) : TE := fun σ H Q => ta σ H fun vs H1 => ∃ a b xs ys, vs = [.ref a, .ref b] ∧ SqL K H1 a xs ∧ SqL K H1 b ys ∧ ∀ Ts H2 p, Same H1 H2 → Ts.length = min xs.length ys.length → Pairs xs ys Ts H2 → H2 p = none → Q (.ref p) (upd H2 p (.tup (Ts.map V.ref)))
theorem refs_vals : ∀ Ts : List Addr, Vals (Ts.map V.ref) (Ts.map Value.ref)
  | [] => .nil
  | T :: Ts => .cons rfl (refs_vals Ts)
theorem pe_tupZip {e e2 : Expr} {ta : TA} {p pos p2 pos2 : Pos} (hgt : Gl X "tuple") (hmt : X.mg "tuple" = none) (hgz : Gl X "zip") (hmz : X.mg "zip" = none) (ha : PA X [e, e2] ta) (hc : X.calm = true := by rfl)
    (hs0 : starEach [.Call (.Name "zip" p2) [e, e2] [] pos2] X.env = (false, eval (.Call (.Name "zip" p2) [e, e2] [] pos2) X.env) :: starEach [] X.env := by rfl)
    (hs : starEach [e, e2] X.env = (false, eval e X.env) :: starEach [e2] X.env := by rfl) (hpl : (backTo pos2 (starEach [e2] X.env)).any (·.1) = false := by rfl) :
    PE X (.Call (.Name "tuple" p) [.Call (.Name "zip" p2) [e, e2] [] pos2] [] pos) (tTupZip X.K ta) := by
  refine ⟨fun pins s σ H Q I h => ?_⟩
  have hzip : wpAny (model X.prog X.w) X.A (eval (.Call (.Name "zip" p2) [e, e2] [] pos2) X.env) (fun v s1 => ∃ H1 z TI TO i1 i2 a b xs ys, v = .ref z ∧ Inv X pins σ H1 s1 ∧ SqL X.K H1 a xs ∧ SqL X.K H1 b ys ∧ ZipApart z TI TO i1 i2 a b ∧ IsZip s1.heap z TI TO .none ∧ IsPair s1.heap TI (.ref i1) (.ref i2) ∧ (∃ x y, IsPair s1.heap TO x y) ∧ s1.heap.IsListIter i1 a 0 ∧ s1.heap.IsListIter i2 b 0 ∧ (∀ b ∈ [z, TI, TO, i1, i2], FpOk X pins H1 b) ∧
      ∀ Ts H2 p, Same H1 H2 → Ts.length = min xs.length ys.length → Pairs xs ys Ts H2 → H2 p = none → Q (.ref p) (upd H2 p (.tup (Ts.map V.ref)))) X.xe s := by
    refine Call_ (ld_blt I hgz hmz PyProof.Rows.boot_zip (PyProof.Rows.callWith_type1 (thn (ha.run pos2 pins s σ H _ I h) fun us s1 ⟨vs, H1, I1, r1, q1⟩ => ?_) hs hpl))
    obtain ⟨a, b, xs, ys, ex, hqx, hqy, q⟩ := q1
    subst ex
    cases r1 with
    | cons r rr =>
      cases rr with
      | cons r' rr =>
        cases rr
        cases r
        cases r'
        obtain ⟨its, rv, p1, _⟩ := I1.list hqx
        obtain ⟨its2, rv2, p2, _⟩ := I1.list hqy
        have la : a < s1.heap.objs.size := p1.lt
        have lb : b < s1.heap.objs.size := p2.lt
        refine call_zip_2 p1.isList p2.isList fun h' hz hTI hTO h1 h2 hsz hk => ?_
        have I2 : Inv X pins σ H1 { s1 with heap := h' } := I1.kept (t' := s1.toks) hk
        refine ⟨H1, s1.heap.objs.size + 4, _, _, _, _, a, b, xs, ys, rfl, I2, hqx, hqy, PySem.W.ktu_apart s1.heap.objs.size a b la lb, hz, hTI, ⟨_, _, hTO⟩, h1, h2, fun c hcm => ?_, q⟩
        have e' : c = s1.heap.objs.size + 4 ∨ c = s1.heap.objs.size + 2 ∨ c = s1.heap.objs.size + 3 ∨ c = s1.heap.objs.size ∨ c = s1.heap.objs.size + 1 := by simpa using hcm
        have hle : s1.heap.objs.size ≤ c := by
          rcases e' with z | z | z | z | z
          · rw [z]; exact Nat.le_add_right _ _
          · rw [z]; exact Nat.le_add_right _ _
          · rw [z]; exact Nat.le_add_right _ _
          · rw [z]; exact Nat.le_refl _
          · rw [z]; exact Nat.le_add_right _ _
        exact I1.fpOk hle (I1.hok.fresh hle)
  refine Call_ (ld_blt I hgt hmt boot_tuple (PyProof.Rows.callWith_type1 (args_cons (thn hzip fun v s1 ⟨H1, z, TI, TO, i1, i2, a, b, xs, ys, ev, I1, qx, qy, D, hz, hTI, ⟨x0, y0, hTO⟩, h1, h2, hf, q⟩ => args_nil ?_) hs0) hs0))
  subst ev
  refine call_tuple_zip (I1.ok.hd hc) D xs ys I1 qx qy hz hTI hTO h1 h2 hf fun s' H' Ts I' sm' l' p' => ?_
  obtain ⟨its, rv, pl, hsz⟩ := I1.list qx
  have hn : Ts.length ≤ sizeLine := by omega
  have I2 : Inv X pins σ (upd H' s'.heap.objs.size (.tup (Ts.map V.ref))) { s' with heap := s'.heap.push { cls := .type "tuple", data := .seq (Ts.map Value.ref).toArray } } :=
    I'.laid (t' := s'.toks) (fun b o e => Heap.get?_push_of_some _ e) (Nat.le_refl _) (show ObjOk X.prog X.w _ _ _ (.tup (Ts.map V.ref)) from ⟨by rw [List.length_map]; exact hn, Ts.map Value.ref, refs_vals Ts, IsTup.new _ _⟩)
  exact ⟨.ref s'.heap.objs.size, _, I2, rfl, q Ts H' _ sm' l' p' (I'.hok.fresh (Nat.le_refl _))⟩
end
end TZ
namespace Wk
open PySem PySem.Spec PyProof.Rows L2 Fq TZ
open Mi (Col Leg P2 pl dotQ sqAt)
section
variable {X : Cx} {nb : Nat} {env : DEnv} {e e2 : Expr} {p pos p2 pos2 : Pos} {c1 c2 : Nat} {P1 P2 : List D → Prop}
theorem pairs_reps {K : PySem.W.Frag} {M : Mu} {H : Hp} : ∀ {xs ys : List D} {vx vy : List V} {Ts : List Addr}, Reps K M H xs vx → Reps K M H ys vy → Ts.length = min vx.length vy.length → Pairs vx vy Ts H → Reps K M H (zipD xs ys) (Ts.map V.ref) := by
  intro xs
  induction xs with
  | nil =>
    intro ys vx vy Ts rx ry hl hp
    have e : vx = [] := rx
    subst e
    have : Ts = [] := List.length_eq_zero_iff.mp (by simpa using hl)
    subst this
    exact rfl
  | cons x xs ih =>
    intro ys vx vy Ts rx ry hl hp
    obtain ⟨v, r, rfl, h1, h2⟩ := rx
    cases ys with
    | nil =>
      have e : vy = [] := ry
      subst e
      have : Ts = [] := List.length_eq_zero_iff.mp (by simpa using hl)
      subst this
      exact rfl
    | cons y ys =>
      obtain ⟨v2, r2, rfl, h3, h4⟩ := ry
      cases Ts with
      | nil => simp at hl
      | cons T Ts =>
        obtain ⟨a, b, ea, eb, hT⟩ := hp 0 T rfl
        have ea' : v = a := by simpa using ea
        have eb' : v2 = b := by simpa using eb
        subst ea' eb'
        exact ⟨.ref T, Ts.map V.ref, rfl, ⟨T, [v, v2], rfl, SqT.of hT, v, [v2], rfl, h1, v2, [], rfl, h3, rfl⟩, ih h2 h4 (by simp at hl; omega) fun j U q => hp (j + 1) U (by simpa using q)⟩
theorem pb_tupZip (hmt : X.mg "tuple" = none) (hmz : X.mg "zip" = none) (ha : PB X nb e env c1 (fun d => ∃ xs, d = .lst xs ∧ P1 xs)) (hb : PB X nb e2 env c2 (fun d => ∃ ys, d = .lst ys ∧ P2 ys)) (hgt : Gl X "tuple" := by rfl) (hgz : Gl X "zip" := by rfl) (hc : X.calm = true := by rfl)
    (hs0 : starEach [.Call (.Name "zip" p2) [e, e2] [] pos2] X.env = (false, eval (.Call (.Name "zip" p2) [e, e2] [] pos2) X.env) :: starEach [] X.env := by rfl)
    (hs : starEach [e, e2] X.env = (false, eval e X.env) :: starEach [e2] X.env := by rfl) (hs2 : starEach [e2] X.env = (false, eval e2 X.env) :: starEach [] X.env := by rfl) (hpl : (backTo pos2 (starEach [e2] X.env)).any (·.1) = false := by rfl) :
    PB X nb (.Call (.Name "tuple" p) [.Call (.Name "zip" p2) [e, e2] [] pos2] [] pos) env (c1 + c2) (fun d => ∃ xs ys, d = .tup (zipD xs ys) ∧ P1 xs ∧ P2 ys) := fun M b f σ H hS Q z =>
  ⟨_, pe_tupZip hgt hmt hgz hmz (pa_cons we (pa_cons we pa_nil hs2) hs) hc hs0 hs hpl, ha M b (f + c2) σ H (by rw [show f + c2 + c1 = f + (c1 + c2) by omega]; exact hS) _ fun v1 H1 d1 k1 g1 r1 ⟨xs, e1, p1⟩ => hb M b f σ H1 (hS.go k1 g1) _ fun v2 H2 d2 k2 g2 r2 ⟨ys, e2, p2⟩ => by
    subst e1 e2
    have s2 := (hS.go k1 g1).sm k2 g2.lst
    have w2 := ((hS.go k1 g1).go k2 g2).en.wd
    obtain ⟨t, vs, rfl, n, q1, q2⟩ := rep_sm (hS.go k1 g1).en.wd s2 r1
    obtain ⟨t2, vs2, rfl, n2, q3, q4⟩ := r2
    refine ⟨t, t2, vs, vs2, rfl, SqL.of q1, SqL.of q3, fun Ts H3 q sm hl hp hq => ?_⟩
    have rr := pairs_reps (reps_same w2 sm q2) (reps_same w2 sm q4) hl hp
    exact z _ _ (.tup (zipD xs ys)) ((k1.trans k2).trans (kp_of (sm.trans (same_new hq)))) (g2.same (sm.trans (same_new hq))) ⟨q, _, rfl, SqT.of upd_same, reps_same (w2.same sm) (same_new hq) rr⟩ ⟨xs, ys, rfl, p1, p2⟩⟩
end
end Wk
end
section
set_option Elab.async false
set_option linter.all false
set_option maxRecDepth 100000
set_option maxHeartbeats 4000000
namespace Wk
open PySem PySem.Spec PyProof.Rows L2 Fq
open Mi (Col Leg P2 pl dotQ sqAt)
local macro_rules | `(tactic| walk_at "nz") => `(tactic| first | assumption | exact Nz.sn (by assumption) | exact Nz.sd (by assumption) | (apply Nz.mul <;> walk_at "nz") | (apply Nz.add <;> walk_at "nz") | (apply Nz.sub <;> walk_at "nz") | (apply Nz.neg <;> walk_at "nz") | exact (show Nz 40 _ by unfold Nz; decide))
local macro_rules | `(tactic| walk_at "mw") => `(tactic| (apply Nz.w; (· walk_at "nz"); (· walk_at "nz"); decide))
section
variable {X : Cx} {nb : Nat} {env env1 env' : DEnv} {a b0 c0 e tg iter elt : Expr} {es ifs : List Expr} {st : Stmt} {sts body els : List Stmt} {pos p p2 : Pos} {d d1 d2 : D} {ds cs : List D} {c c1 c2 c3 n k : Nat} {P P1 P2 : D → Prop} {PS : List D → Prop} {E E1 : DEnv → Prop} {o : OB}
theorem pb_callP {x : Str} {ps : List Str} {R : List D → D → Prop} {a0 : Expr} (C : Cal X.prog X.w X.K X.mg X.base x k ps (spP X.K R)) (hr : Room n X.A) (ha : PAB X nb (a0 :: es) env c PS) (hR : ∀ ds, PS ds → ∃ d, R ds d ∧ P d) (hk : k ≤ n := by decide) (hg : Gl X x := by rfl)
    (hdb : (x == ("__debug__" : Str)) = false := by decide) (he : starEach (a0 :: es) X.env = (false, eval a0 X.env) :: starEach es X.env := by rfl) (hpl : (backTo pos (starEach es X.env)).any (·.1) = false := by rfl) : PB X nb (.Call (.Name x p) (a0 :: es) [] pos) env c P := fun M b f σ H hS Q q => by
  obtain ⟨f0, fd, F, m, kp, B⟩ := C.ex
  refine ⟨_, pe_call F (hr.mono hk) hg m kp B .nil pass0 wa hdb he hpl, ha M b f σ H hS _ fun vs H1 ds k1 g1 r1 pd => ?_⟩
  obtain ⟨d, hd, pd2⟩ := hR ds pd
  rw [List.append_nil]
  exact ⟨M, ds, d, hd, (hS.go k1 g1).en.wd, r1, fun v H2 e2 r2 => q v H2 d (k1.trans (kp_of e2)) (g1.same e2) r2 pd2⟩
theorem SB.imp (h : SB X nb sts env c (.nx E1)) (q : ∀ env1, E1 env1 → ∃ env2, Le env1 env2 ∧ E env2) : SB X nb sts env c (.nx E) := fun M b f D σ H hS k => h M b f D σ H hS fun σ' H' env1 k1 s1 e1 =>
  let ⟨env2, l, e2⟩ := q env1 e1
  k σ' H' env2 k1 (s1.le l) e2
theorem S1B.imp (h : S1B X nb st env c (.nx E1)) (q : ∀ env1, E1 env1 → ∃ env2, Le env1 env2 ∧ E env2) : S1B X nb st env c (.nx E) := fun M b f D σ H hS k => h M b f D σ H hS fun σ' H' env1 k1 s1 e1 =>
  let ⟨env2, l, e2⟩ := q env1 e1
  k σ' H' env2 k1 (s1.le l) e2
theorem S1B.mono (h : S1B X nb st env c o) (k : c ≤ c1) : S1B X nb st env c1 o := fun M b f D σ H hS q => h M b f D σ H (hS.less (by omega)) q
theorem ptb_andT {PT : Bool → Prop} {pos : Pos} (ha : ∀ M, PTD X M a env true) (hb : PTB X nb b0 env c PT) : PTB X nb (.BoolOp .And [a, b0] pos) env c PT := fun M b f σ H hS z =>
  fun q => ⟨_, PW.pt (pw_and wt (pw_and1 wt)), ha M σ H hS.en _ fun H1 e1 => by
    exact hb M b f σ H1 (hS.same e1) _ fun H2 k2 kk g pt => q H2 k2 ((kp_of e1).trans kk) g pt⟩
theorem s1b_asg {vs : List Nat} (hnb : nb ∉ vs) (h : PB X nb e env c P) (hg : ∀ d, P d → ∃ env', (∀ M, GDw X M vs tg d env env') ∧ E env') (hs : swapsWithSole [tg] e pos.line X.env = pure false := by rfl) (hw : swappedStores [tg] e X.env = pure none := by rfl) (h1 : (assignEach [tg] X.env).map (·.2) = [assign tg X.env] := by rfl) : S1B X nb (.Assign [tg] e pos) env c (.nx E) := fun M b f D σ H hS k =>
  ⟨_, ps_asg we wg hs hw h1, h M b f σ H hS _ fun v H1 d k1 g1 r1 p1 => by
    obtain ⟨env', g, hE⟩ := hg d p1
    have hS1 := hS.go k1 g1
    refine g M σ H1 v hS1.en r1 _ fun σ2 hE2 hw2 => k σ2 H1 env' k1 ⟨hE2, hS1.mb, ?_, hS1.bag⟩ hE
    have h1 : (L2.wipe σ2 vs)[nb]? = (L2.wipe σ vs)[nb]? := by rw [hw2]
    rw [L2.wipe_out hnb, L2.wipe_out hnb] at h1
    rw [h1]
    exact hS1.at_⟩
theorem s1b_setLc (n : Nat) {x : Str} {px spos : Pos} {scope : Scope} {own : List (Str × Nat)} {f : D → Option D} (env1 : D → DEnv) (ok : BlkOk X.N X.env.scope scope own) (hN : X.N.Nodup) (hi : ∀ M, IDt X M tg iter env ds) (turn : ∀ M, ∀ d ∈ ds, LcTurn X M scope (own.map (·.2)) tg elt ifs env (env1 d) d (f d)) (hl : ds.length ≤ 1000) (hn : nb ≠ n := by decide)
    (hy : X.N[n]? = some x := by rfl) (hyl : X.env.scope.names.lookup x = some .local := by rfl) (hsw : swapsWith (.ListComp elt [⟨tg, iter, ifs, 0⟩] scope pos) (some (.Name x px)) spos.line X.env = pure true := by exact sw_true rfl rfl rfl (by decide +kernel))
    (hc : X.calm = true := by rfl) (hs : ∀ x, foldedSetIterable iter X.env x = pure x := by intro _; rfl) : S1B X nb (.Assign [.Name x px] (.ListComp elt [⟨tg, iter, ifs, 0⟩] scope pos) spos) env 0 (.nx fun env' => env' = env.set n (some (.lst (ds.filterMap f)))) := fun M b g D σ H hS hO =>
  ⟨_, ps_setLc (i := n) (g := WgB X scope tg) (tt := WtB X scope ifs) (te := WeB X scope elt) hc hN hy hyl hsw wi ok (fun s H C cl fp => ⟨fun pins s' σ H' v u Q I r h => wg.run pins s' σ H' v u Q I r (h s H C cl fp)⟩) (fun s H C cl fp => ⟨fun pins s' σ H' Q I h => (wts _).run pins s' σ H' Q I (h s H C cl fp)⟩)
    (fun s H C cl fp => ⟨fun pins s' σ H' Q I h => we.run pins s' σ H' Q I (h s H C cl fp)⟩) hs, lc_read env1 hS.en (hi M) (turn M) hl fun p us H' np e1 h1 r => hO _ H' _ (kp_of e1) ((hS.same e1).set (d := .lst (ds.filterMap f)) ⟨p, us, rfl, hS.en.wd.notM np, h1, r⟩ hn) rfl⟩
theorem s1b_for (I : Nat → DEnv → Prop) {vs : List Nat} (hnb : nb ∉ vs) (hi : ∀ M, IDt X M tg iter env ds) (h0 : I 0 env) (turn : ∀ (k : Nat) d env, ds[k]? = some d → I k env → ∃ env1, (∀ M, GDw X M vs tg d env env1) ∧ SB X nb body env1 c (.nx (I (k + 1))))
    (hp : PassesOwn (model X.prog X.w) X.A X.env X.xe := by exact PassesOwn.never) (hc : X.calm = true := by rfl) (hs : ∀ x, foldedSetIterable iter X.env x = pure x := by intro _; rfl) : S1B X nb (.For tg iter body [] pos) env (ds.length * c) (.nx (I ds.length)) := fun M b f D σ H hS k =>
  ⟨_, ps_for hp hc wi wg wss hs, hi _ σ H hS.en _ fun J H1 e1 ⟨G, Y, W, hG, hY⟩ => by
    have hS1 := hS.same e1
    refine for_it W (fun k σ' H' => Kp b.1 H1 H' ∧ Sm M H1 H' ∧ ∃ env', I k env' ∧ StB X.K M b nb (f + (ds.length - k) * c) H' σ' env') ⟨Kp.refl, Sm.refl hS1.en.wd, env, h0, hS1⟩ (fun k σ' H' _ q => hG H' q.2.1) (fun k x σ' H2 H3 hk q y => ?_) fun σ' H' q => ?_
    · obtain ⟨q0, q1, env', q2, q3⟩ := q
      obtain ⟨d, hd⟩ : ∃ d, ds[k]? = some d := ⟨ds[k], List.getElem?_eq_getElem hk⟩
      obtain ⟨s23, r⟩ := hY k H2 x H3 d q1 hd y
      obtain ⟨env1, g, bd⟩ := turn k d env' hd q2
      have hS3 := q3.same s23
      refine g _ σ' H3 x hS3.en r _ fun σ2 hE2 hw => ?_
      have keep : σ2[nb]? = σ'[nb]? := by
        have h1 : (L2.wipe σ2 vs)[nb]? = (L2.wipe σ' vs)[nb]? := by rw [hw]
        rw [L2.wipe_out hnb, L2.wipe_out hnb] at h1
        exact h1
      have ef : f + (ds.length - (k + 1)) * c + c = f + (ds.length - k) * c := by
        rw [show ds.length - k = (ds.length - (k + 1)) + 1 by omega, Nat.add_mul]
        omega
      have hS4 : StB X.K M b nb (f + (ds.length - (k + 1)) * c + c) H3 σ2 env1 := by
        rw [ef]
        exact ⟨hE2, hS3.mb, by rw [keep]; exact hS3.at_, hS3.bag⟩
      refine bd M b _ _ σ2 H3 hS4 fun σ3 H4 env4 k4 s4 i4 => ?_
      exact ⟨(q0.trans (kp_of s23)).trans k4, (q1.trans (sm_of q1.2 s23)).trans (hS3.sm k4 s4.bag.lst), env4, i4, s4⟩
    · obtain ⟨q0, q1, env', q2, q3⟩ := q
      rw [Nat.sub_self, Nat.zero_mul, Nat.add_zero] at q3
      exact k σ' H' env' ((kp_of e1).trans q0) q3 q2⟩
end
structure FlightOk (S : Int) (ls : List Leg) : Prop where
  legs : LegsOk ls
  few : ls.length ≤ 4
  froms : Spaced S (ls.map Prod.fst)
  tos : Spaced S (ls.map Prod.snd)
  free : ∀ (i j : Nat) l o, i < j → ls[i]? = some l → ls[j]? = some o → Mi.crossB l o = false
def R_l_legs (ds : List D) (P : D → Prop) : Prop := ∃ S many : Int, ds = [.int S, .int many] ∧ SOk S ∧ (2 ≤ many ∧ many ≤ 4) ∧ P = fun d => ∃ ls, d = lsD ls ∧ FlightOk S ls
def shift (x y : Int) (c : Col) : Col := (c.1 + x, c.2 + y)
def fShift (x y : Int) (d : D) : Option D := match d with
  | .tup [.int a, .int b] => some (colD (a + x, b + y))
  | _ => none
theorem fShift_all (x y : Int) : ∀ cs : List Col, (cs.map colD).filterMap (fShift x y) = (cs.map (shift x y)).map colD
  | [] => rfl
  | c :: cs => by
    rw [List.map_cons, List.map_cons, List.map_cons, List.filterMap_cons]
    show colD (shift x y c) :: _ = _
    rw [fShift_all x y cs]
theorem sqI_shift (x y : Int) (a b : Col) : sqI (shift x y a) (shift x y b) = sqI a b := by
  unfold sqI shift
  simp only
  rw [show a.1 + x - (b.1 + x) = a.1 - b.1 by omega, show a.2 + y - (b.2 + y) = a.2 - b.2 by omega]
theorem spaced_shift {S x y : Int} {cs : List Col} (h : Spaced S cs) : Spaced S (cs.map (shift x y)) := by
  unfold Spaced at *
  rw [List.pairwise_map]
  exact h.imp fun {a b} q => by rw [sqI_shift]; exact q
theorem sqI_comm (a b : Col) : sqI a b = sqI b a := by
  unfold sqI
  grind
theorem spaced_perm {S : Int} {cs es : List Col} (h : Spaced S cs) (p : es.Perm cs) : Spaced S es := (p.symm.pairwise h fun {a b} q => by rw [sqI_comm]; exact q)
theorem spaced_take {S : Int} {cs : List Col} (h : Spaced S cs) (n : Nat) : Spaced S (cs.take n) := List.Pairwise.sublist (List.take_sublist n cs) h
theorem zip_legs (fs ts : List Col) : zipD (fs.map colD) (ts.map colD) = (fs.zip ts).map legD := by
  unfold zipD
  rw [List.zip_map, List.map_map, ]
  rfl
theorem map_fst_zip : ∀ {fs ts : List Col}, fs.length ≤ ts.length → (fs.zip ts).map Prod.fst = fs
  | [], _, _ => rfl
  | f :: fs, [], h => by simp at h
  | f :: fs, t :: ts, h => by rw [List.zip_cons_cons, List.map_cons, map_fst_zip (by simpa using h)]
theorem map_snd_zip : ∀ {fs ts : List Col}, ts.length ≤ fs.length → (fs.zip ts).map Prod.snd = ts
  | [], [], _ => rfl
  | [], t :: ts, h => by simp at h
  | f :: fs, [], h => rfl
  | f :: fs, t :: ts, h => by rw [List.zip_cons_cons, List.map_cons, map_snd_zip (by simpa using h)]
section
variable {P : Program} {w : World} {K : PySem.W.Frag} {mg : Str → Option Value} {base : Heap}
theorem cal_l_legs {f : Addr} {fd : FuncData} (F : FnP K "_law_legs" s_l_legs f fd) (m : mg "_law_legs" = some (.ref f)) (c_l_take : Cal P w K mg base "_law_take" 1 ["_law_bag_here", "_law_many"] (spB K 1 R_l_take)) (c_l_spaced : Cal P w K mg base "_law_spaced" 3 ["_law_bag_here", "_law_spacing", "_law_many"] (spB K 40 R_l_spaced)) (c_l_mixed : Cal P w K mg base "_law_mixed" 2 ["_law_bag_here", "_law_things"] (spB K 8 R_l_mixed)) (c_l_uncrossed : Cal P w K mg base "_law_uncrossed" 3 ["_law_legs_here"] (spP K R_l_uncrossed)) (m_len : mg "len" = none) (m_min : mg "min" = none) (m_tuple : mg "tuple" = none) (m_zip : mg "zip" = none) : Cal P w K mg base "_law_legs" 4 ["_law_bag_here", "_law_spacing", "_law_many"] (spB K 100 R_l_legs) := by
  refine cal_of F m (F.bindsN fun _ _ _ _ _ _ us hl => match us, hl with | [_, _, _], _ => rfl) (okB F sc_l_legs (by decide) (by decide) (fun ds d h => ?_) fun cdv A outer s H E hr ds P0 hR => ?_)
  · obtain ⟨_, _, rfl, _⟩ := h
    rfl
  have nd := sc_l_legs.nd
  obtain ⟨S, many, rfl, hS, hm, rfl⟩ := hR
  have zS : Nz 10 S := nz_small (by have := hS.1; omega) (by have := hS.2; omega)
  refine SB.mono (c := (40 + 40) + ((1 + 0) + 2) + (0 + (0 + 8))) ?_ (by decide)
  refine SB.nrm [none, some (.int S), some (.int many), none, none, none, none, none, none, none] rfl ?_
  rw [Nat.add_assoc]
  have spc : ∀ {pp1 pp2 pp3 pp4 pp5 : Pos}, PB (BX P w K mg base N_l_legs "_law_legs" (defScope s_l_legs) f cdv A outer s H E) 0 (.Call (.Name "_law_spaced" pp1) [.Name "_law_bag_here" pp2, .Name "_law_spacing" pp3, .Name "_law_many" pp4] [] pp5) [none, some (.int S), some (.int many), none, none, none, none, none, none, none] 40 (fun d => ∃ cs : List Col, d = .lst (cs.map colD) ∧ Spaced S cs ∧ (1 ≤ cs.length ∧ cs.length ≤ many) ∧ ∀ c ∈ cs, Near 16100 c) := by
    intro pp1 pp2 pp3 pp4 pp5
    refine (pb_call (c := 0) c_l_spaced hr (pab_pad (ds := [.int S, .int many]) fun M => pad_cons (pd_var 1) (pad_cons (pd_var 2) pad_nil)) (fun ds e => ⟨_, ⟨S, many, e, hS, hm, rfl⟩, fun d h => h⟩)).mono (by decide) fun _ h => h
  refine sb_cons (s1b_par 3 4 spc spc nd) fun env1 ⟨d1, d2, ⟨fs, e1, f1, f2, f3⟩, ⟨ts, e2, t1, t2, t3⟩, e3⟩ => ?_
  subst e1 e2 e3
  refine SB.nrm [none, some (.int S), some (.int many), some (.lst (fs.map colD)), some (.lst (ts.map colD)), none, none, none, none, none] rfl ?_
  refine sb_cons (E := fun env2 => ∃ us : List Col, env2 = [none, some (.int S), some (.int many), some (.lst (fs.map colD)), some (.lst (us.map colD)), none, none, none, none, none] ∧ Spaced S us ∧ (1 ≤ us.length ∧ us.length ≤ many) ∧ ∀ c ∈ us, Near 16600 c) (s1b_if (ptb_eqI (c1 := 1) (c2 := 0) (k_l_takeI (i := 4) c_l_take hr (fun M => pd_int) (by decide)) (pb_pdI (i := 0) fun M => pd_int)) (fun _ => ?_) (fun _ => ?_)) fun env2 ⟨us, e4, u1, u2, u3⟩ => ?_
  · have mok : ManyOk (4 * S + 1) := by
      have := hS.1
      have := hS.2
      constructor <;> omega
    refine SB.mono (c := 2 + 0) ?_ (by decide)
    refine sb_cons (s1b_asg (vs := [5, 6]) (by decide) (P := fun d => ∃ x y : Int, d = .tup [.int x, .int y] ∧ (0 ≤ x ∧ x < 4 * S + 1) ∧ (0 ≤ y ∧ y < 4 * S + 1)) (E := fun env3 => ∃ x y : Int, env3 = [none, some (.int S), some (.int many), some (.lst (fs.map colD)), some (.lst (ts.map colD)), some (.int x), some (.int y), none, none, none] ∧ (0 ≤ x ∧ x < 4 * S + 1) ∧ (0 ≤ y ∧ y < 4 * S + 1)) ((pb_tup (PS := fun ds => ∃ x y : Int, ds = [.int x, .int y] ∧ (0 ≤ x ∧ x < 4 * S + 1) ∧ (0 ≤ y ∧ y < 4 * S + 1)) (PAB.mono (c := 1 + (1 + 0)) (pab_cons (k_l_takeI (i := 4 * S + 1) c_l_take hr (fun M => pd_add (pd_mulW pd_int (pd_var 1) ?_) pd_int) mok) (pab_cons (k_l_takeI (i := 4 * S + 1) c_l_take hr (fun M => pd_add (pd_mulW pd_int (pd_var 1) ?_) pd_int) mok) pab_nil)) (by decide) ?_) ?_).imp ?_) ?_) fun env3 ⟨x, y, e7, ⟨x0, x1⟩, ⟨y0, y1⟩⟩ => ?_
    · walk_at "mw"
    · walk_at "mw"
    · rintro ds ⟨d1, r1, rfl, ⟨x, rfl, hx⟩, d2, r2, rfl, ⟨y, rfl, hy⟩, rfl⟩
      exact ⟨x, y, rfl, hx, hy⟩
    · rintro ds ⟨x, y, rfl, _⟩
      show 2 ≤ 1000
      decide
    · rintro d ⟨ds, rfl, x, y, rfl, hx, hy⟩
      exact ⟨x, y, rfl, hx, hy⟩
    · rintro d ⟨x, y, rfl, hx, hy⟩
      exact ⟨_, fun M => gdw_tup (gdws_cons (gdw_name 5 (by simp) nd) (gdws_cons (gdw_name 6 (by simp) nd) gdws_nil)), x, y, rfl, hx, hy⟩
    subst e7
    refine SB.nrm [none, some (.int S), some (.int many), some (.lst (fs.map colD)), some (.lst (ts.map colD)), some (.int x), some (.int y), none, none, none] rfl ?_
    refine sb_last ((s1b_setLc 4 (ds := fs.map colD) (own := [("_law_a", 8), ("_law_b", 9)]) (f := fShift x y) (fun d => match d with | .tup [p, q] => [none, some (.int S), some (.int many), some (.lst (fs.map colD)), some (.lst (ts.map colD)), some (.int x), some (.int y), none, some p, some q] | _ => []) (blkOk_by (N := N_l_legs) (sc := defScope s_l_legs) (by decide +kernel)) nd (fun M => id_list (pd_var 3)) (fun M d hd s H0 C cl fp => ?_) (by rw [List.length_map]; omega)).imp fun env4 e8 => ?_)
    · obtain ⟨c, hc, rfl⟩ := List.mem_map.mp hd
      exact ⟨gdw_tup (gdws_cons (gdw_name 8 (by simp) nd) (gdws_cons (gdw_name 9 (by simp) nd) gdws_nil)), flat_col _, ptsd_nil, pd_tup (pad_cons (pd_add (pd_var 8) (pd_var 5)) (pad_cons (pd_add (pd_var 9) (pd_var 6)) pad_nil))⟩
    · subst e8
      rw [fShift_all]
      refine ⟨[none, some (.int S), some (.int many), some (.lst (fs.map colD)), some (.lst ((fs.map (shift x y)).map colD)), none, none, none, none, none], ⟨.inr rfl, .inr rfl, .inr rfl, .inr rfl, .inr rfl, .inl rfl, .inl rfl, .inr rfl, .inr rfl, .inr rfl, trivial⟩, fs.map (shift x y), rfl, spaced_shift f1, by rw [List.length_map]; exact f2, fun c hc => ?_⟩
      obtain ⟨c0, hc0, rfl⟩ := List.mem_map.mp hc
      have := f3 c0 hc0
      have h1 := hS.1
      have h2 := hS.2
      unfold Near shift at *
      simp only
      omega
  · refine SB.mono (c := 0) ?_ (by decide)
    refine sb_nil ⟨ts, rfl, t1, t2, fun c hc => ?_⟩
    have := t3 c hc
    unfold Near at *
    omega
  subst e4
  have hcount : ∃ n : Nat, (n : Int) = (if ((us.map colD).length : Int) < ((fs.map colD).length : Int) then ((us.map colD).length : Int) else ((fs.map colD).length : Int)) ∧ n ≤ us.length ∧ n ≤ fs.length := by
    rw [List.length_map, List.length_map]
    split
    · exact ⟨us.length, rfl, Nat.le_refl _, by omega⟩
    · exact ⟨fs.length, rfl, by omega, Nat.le_refl _⟩
  obtain ⟨n, en, nu, nf⟩ := hcount
  refine sb_cons (s1b_set 7 (P := fun d => d = .int n) (pb_pd fun M => (pd_min2 rfl m_min (pd_lenL m_len (pd_var 3)) (pd_lenL m_len (pd_var 4))).of (by rw [← en])) nd) fun env2 ⟨d, e5, e6⟩ => ?_
  subst e5 e6
  refine SB.nrm [none, some (.int S), some (.int many), some (.lst (fs.map colD)), some (.lst (us.map colD)), none, none, some (.int n), none, none] rfl ?_
  have cf : cutD (fs.map colD) none (some (n : Int)) = (fs.take n).map colD := by rw [cut_pre (by rw [List.length_map]; omega), List.map_take]
  have cu : cutD (us.map colD) none (some (n : Int)) = (us.take n).map colD := by rw [cut_pre (by rw [List.length_map]; omega), List.map_take]
  refine sb_last (s1b_ret (pb_callP c_l_uncrossed hr ((pab_cons (c1 := 0 + 8) (c2 := 0) (pb_tupZip (c1 := 0) (c2 := 8) (P1 := fun xs => xs = (fs.take n).map colD) (P2 := fun ys => ∃ ms : List Col, ys = ms.map colD ∧ ms.Perm (us.take n)) m_tuple m_zip ((pb_pd fun M => ((PL.of (pl_slL (pd_var 3) pod_none (pod_some (pd_var 7))) cf)).pd).imp fun d e => ⟨_, e, rfl⟩) ((pb_call (c := 0) c_l_mixed hr (pab_pad (ds := [.lst ((us.take n).map colD)]) fun M => pad_cons (PL.of (pl_slL (pd_var 4) pod_none (pod_some (pd_var 7))) cu).pd pad_nil) (fun ds e => ⟨_, ⟨us.take n, e, by rw [List.length_take]; omega, rfl⟩, fun d h => h⟩)).mono (by decide) fun d ⟨ms, e, hp⟩ => ⟨_, e, ms, rfl, hp⟩)) pab_nil)) (fun ds hds => ?_)))
  obtain ⟨d1, r1, rfl, ⟨xs, ys, rfl, rfl, ms, rfl, hp⟩, rfl⟩ := hds
  have hml : ms.length = n := by rw [hp.length_eq, List.length_take]; omega
  have hfl : (fs.take n).length = n := by rw [List.length_take]; omega
  have hfst := map_fst_zip (fs := fs.take n) (ts := ms) (by omega)
  have hsnd := map_snd_zip (fs := fs.take n) (ts := ms) (by omega)
  have hlen : ((fs.take n).zip ms).length = n := by rw [List.length_zip, hfl, hml, Nat.min_self]
  have hlegs : LegsOk ((fs.take n).zip ms) := by
    refine ⟨fun l hl => ?_, by rw [hlen]; omega⟩
    have h1 : l.1 ∈ ((fs.take n).zip ms).map Prod.fst := List.mem_map.mpr ⟨l, hl, rfl⟩
    have h2 : l.2 ∈ ((fs.take n).zip ms).map Prod.snd := List.mem_map.mpr ⟨l, hl, rfl⟩
    rw [hfst] at h1
    rw [hsnd] at h2
    exact ⟨near_ok (f3 _ (List.mem_of_mem_take h1)) (by decide), near_ok (u3 _ (List.mem_of_mem_take (hp.mem_iff.mp h2))) (by decide)⟩
  have hg := Mi.un_goes ((fs.take n).zip ms)
  have h4 : ((fs.take n).zip ms).length ≤ 4 := by rw [hlen]; omega
  refine ⟨lsD (Mi.un ((fs.take n).zip ms)), ⟨(fs.take n).zip ms, by rw [zip_legs] <;> rfl, hlegs, rfl⟩, _, rfl, goes_ok hg hlegs, ?_, ?_, ?_, ?_⟩
  · have : (Mi.un ((fs.take n).zip ms)).length = ((fs.take n).zip ms).length := by
      rw [← List.length_map (f := Prod.snd), hg.tos.length_eq, List.length_map]
    omega
  · rw [hg.froms, hfst]
    exact spaced_take f1 n
  · refine spaced_perm (cs := us.take n) (spaced_take u1 n) ?_
    have := hg.tos
    rw [hsnd] at this
    exact this.trans hp
  · intro i j l o hij hi hj
    exact Mi.fc_none (Mi.un_ok h4) hij hi hj
end
end Wk
end
section
set_option Elab.async false
set_option linter.all false
set_option maxRecDepth 100000
set_option maxHeartbeats 4000000
namespace Wk
open Mi (Col Leg P2 pl dotQ sqAt)
theorem castI {a b : Int} (h : a ≤ b) : (a : Rat) ≤ (b : Rat) := by exact_mod_cast h
theorem tr_of {S W R n d : Int} {r : Rat} (hd : 0 < d) (e : r * (d : Rat) = (n : Rat)) (h : Enough.enP S W R n d) : Geo.Tr ((S : Rat) * S / 2) (r * r * ((W : Rat) * W - (S : Rat) * S / 2)) ((R : Rat) * R) := by
  obtain ⟨h1, h2⟩ := h
  have hd' : (0 : Rat) < (d : Rat) := by exact_mod_cast hd
  have g1 := castI h1
  have g2 := castI h2
  simp only [Rat.intCast_sub, Rat.intCast_mul, Rat.intCast_add, Rat.intCast_ofNat] at g1 g2
  rw [← e] at g1 g2
  have z0 : ((0 : Int) : Rat) = 0 := rfl
  generalize (S : Rat) = S at *
  generalize (W : Rat) = W at *
  generalize (R : Rat) = R at *
  generalize (d : Rat) = D at *
  have hD2 : 0 < D * D := Rat.mul_pos hd' hd'
  have hD2' : 0 < 2 * (D * D) := by grind
  have hD4 : 0 < 4 * ((D * D) * (D * D)) := by
    have := Rat.mul_pos hD2 hD2
    grind
  have ep : (S * S / 2 - r * r * (W * W - S * S / 2) - R * R) * (2 * (D * D)) = S * S * D * D - 2 * R * R * D * D - r * D * (r * D) * (2 * W * W - S * S) := by grind
  refine ⟨?_, ?_⟩
  · refine Rat.le_of_mul_le_mul_right ?_ hD2'
    rw [ep, Rat.zero_mul]
    exact g1
  · refine Rat.le_of_mul_le_mul_right ?_ hD4
    have e1 : 4 * (r * r * (W * W - S * S / 2)) * (R * R) * (4 * (D * D * (D * D))) = 8 * R * R * D * D * (r * D * (r * D) * (2 * W * W - S * S)) := by grind
    have e2 : (S * S / 2 - r * r * (W * W - S * S / 2) - R * R) * (S * S / 2 - r * r * (W * W - S * S / 2) - R * R) * (4 * (D * D * (D * D))) = ((S * S / 2 - r * r * (W * W - S * S / 2) - R * R) * (2 * (D * D))) * ((S * S / 2 - r * r * (W * W - S * S / 2) - R * R) * (2 * (D * D))) := by grind
    rw [e1, e2, ep]
    exact g2
theorem sq_far {S W R : Int} {l o : Leg} {r : Rat} {p : P2} (hS : 0 ≤ S) (hW : S ≤ W) (r0 : 0 ≤ r) (r1 : r ≤ 1) (hu : S * S ≤ sqI l.1 o.1) (hv : S * S ≤ sqI l.2 o.2) (hc : Mi.crossB l o = false) (hm : sqI l.1 l.2 ≤ W * W) (hn : sqI o.1 o.2 ≤ W * W)
    (hT : Geo.Tr ((S : Rat) * S / 2) (r * r * ((W : Rat) * W - (S : Rat) * S / 2)) ((R : Rat) * R)) (hp : Mi.Reg r p) : ((R * R : Int) : Rat) ≤ sqAt l o p := by
  have hc' := of_decide_eq_false hc
  have c1 := castI hS
  have c2 := castI hW
  have c3 := castI hu
  have c4 := castI hv
  have c5 := castI (show (0 : Int) ≤ _ from Int.not_lt.mp hc')
  have c6 := castI hm
  have c7 := castI hn
  unfold sqI at c3 c4 c6 c7
  have z0 : ((0 : Int) : Rat) = 0 := rfl
  simp only [Rat.intCast_sub, Rat.intCast_mul, Rat.intCast_add, z0] at c1 c2 c3 c4 c5 c6 c7
  obtain ⟨p0, p1, p2, p3, p4, p5⟩ := hp
  unfold sqAt dotQ Mi.gap pl
  simp only [Rat.intCast_sub, Rat.intCast_mul]
  obtain ⟨⟨a1, a2⟩, b1, b2⟩ := l
  obtain ⟨⟨x1, x2⟩, y1, y2⟩ := o
  simp only at *
  generalize (a1 : Rat) = a1 at *
  generalize (a2 : Rat) = a2 at *
  generalize (b1 : Rat) = b1 at *
  generalize (b2 : Rat) = b2 at *
  generalize (x1 : Rat) = x1 at *
  generalize (x2 : Rat) = x2 at *
  generalize (y1 : Rat) = y1 at *
  generalize (y2 : Rat) = y2 at *
  generalize (S : Rat) = S at *
  generalize (W : Rat) = W at *
  generalize (R : Rat) = R at *
  have key := Geo.apart (ux := x1 - a1) (uy := x2 - a2) (mx := b1 - a1) (my := b2 - a2) (nx := y1 - x1) (ny := y2 - x2) (S := S) (W := W) (R := R) (r := r) (s := p.1) (t := p.2) c1 c2 r0 r1
    (by clear hT c4 c5 c6 c7; grind) (by clear hT c3 c5 c6 c7; grind) (by clear hT c3 c4 c6 c7; grind) (by clear hT c3 c4 c5 c7; grind) (by clear hT c3 c4 c5 c6; grind) hT p0 p1 p2 p3 p4 p5
  clear hT c3 c4 c5 c6 c7
  have e : (x1 + p.2 * (y1 - x1) - (a1 + p.1 * (b1 - a1))) * (x1 + p.2 * (y1 - x1) - (a1 + p.1 * (b1 - a1))) + (x2 + p.2 * (y2 - x2) - (a2 + p.1 * (b2 - a2))) * (x2 + p.2 * (y2 - x2) - (a2 + p.1 * (b2 - a2))) =
      (x1 - a1 + p.2 * (y1 - x1) - p.1 * (b1 - a1)) * (x1 - a1 + p.2 * (y1 - x1) - p.1 * (b1 - a1)) + (x2 - a2 + p.2 * (y2 - x2) - p.1 * (b2 - a2)) * (x2 - a2 + p.2 * (y2 - x2) - p.1 * (b2 - a2)) := by grind
  rw [e]
  exact key
theorem spaced_at {S : Int} {cs : List Col} (h : Spaced S cs) {i j : Nat} {a b : Col} (hij : i < j) (hi : cs[i]? = some a) (hj : cs[j]? = some b) : S * S ≤ sqI a b := by
  obtain ⟨hi1, rfl⟩ := List.getElem?_eq_some_iff.mp hi
  obtain ⟨hj1, rfl⟩ := List.getElem?_eq_some_iff.mp hj
  exact (List.pairwise_iff_getElem.mp h) i j hi1 hj1 hij
theorem en_apart {B : Bo} {T : Int} {ls : List Leg} (hB : BoOk B) (hT : Tk B T) (hF : FlightOk B.S ls) (hW : ∀ l ∈ ls, sqI l.1 l.2 ≤ B.way * B.way) (he : B.en T = true) : Apart ls (B.rho T) B.R := by
  intro i j l o hij hi hj
  obtain ⟨_, r0, r1⟩ := rho_ok hB hT
  rw [Mi.same_least r0 r1]
  obtain ⟨e, hreg⟩ := Mi.rows_ok r0 r1 (Mi.nearL_ok l o (B.rho T)).1
  rw [e]
  rw [← en_same hB hT, enPb_iff] at he
  have hd : (0 : Int) < ((B.rho T).den : Int) := by have := (B.rho T).den_pos; omega
  have er : B.rho T * (((B.rho T).den : Int) : Rat) = ((B.rho T).num : Rat) := by
    have := Fq.eq_div (B.rho T)
    conv => lhs; lhs; rw [this]
    exact Rat.div_mul_cancel (Fq.cast_den _)
  refine sq_far (by have := hB.S1; omega) hB.y1 r0 r1 ?_ ?_ (hF.free i j l o hij hi hj) (hW l (List.mem_of_getElem? hi)) (hW o (List.mem_of_getElem? hj)) (tr_of hd er he) hreg
  · exact spaced_at hF.froms hij (by rw [List.getElem?_map, hi] <;> rfl) (by rw [List.getElem?_map, hj] <;> rfl)
  · exact spaced_at hF.tos hij (by rw [List.getElem?_map, hi] <;> rfl) (by rw [List.getElem?_map, hj] <;> rfl)
theorem spaced_sub {S : Int} {ls ks : List Leg} (h : FlightOk S ls) (p : ks.Sublist ls) : FlightOk S ks := by
  refine ⟨⟨fun l hl => h.legs.1 l (p.subset hl), Nat.le_trans p.length_le h.legs.2⟩, Nat.le_trans p.length_le h.few, List.Pairwise.sublist (p.map _) h.froms, List.Pairwise.sublist (p.map _) h.tos, ?_⟩
  have h0 : ls.Pairwise fun l o => Mi.crossB l o = false := by
    rw [List.pairwise_iff_getElem]
    intro i j hi hj hij
    exact h.free i j _ _ hij (List.getElem?_eq_getElem hi) (List.getElem?_eq_getElem hj)
  have h1 := List.Pairwise.sublist p h0
  rw [List.pairwise_iff_getElem] at h1
  intro i j l o hij hi hj
  obtain ⟨hi1, rfl⟩ := List.getElem?_eq_some_iff.mp hi
  obtain ⟨hj1, rfl⟩ := List.getElem?_eq_some_iff.mp hj
  exact h1 i j hi1 hj1 hij
end Wk
end
section
set_option Elab.async false
set_option linter.all false
set_option maxRecDepth 100000
set_option maxHeartbeats 4000000
namespace Wk
open PySem PySem.Spec PyProof.Rows L2 Fq
open Mi (Col Leg P2 pl dotQ sqAt)
local macro_rules | `(tactic| walk_at "nz") => `(tactic| first | assumption | exact Nz.sn (by assumption) | exact Nz.sd (by assumption) | (apply Nz.mul <;> walk_at "nz") | (apply Nz.add <;> walk_at "nz") | (apply Nz.sub <;> walk_at "nz") | (apply Nz.neg <;> walk_at "nz") | exact (show Nz 40 _ by unfold Nz; decide))
local macro_rules | `(tactic| walk_at "mw") => `(tactic| (apply Nz.w; (· walk_at "nz"); (· walk_at "nz"); decide))
section
variable {X : Cx} {nb : Nat} {env : DEnv} {e tg iter elt : Expr} {ifs : List Expr} {pos : Pos} {c : Nat} {PS : List D → Prop} {d : D}
theorem pb_lcT {scope : Scope} {own : List (Str × Nat)} {f : D → Option D} (env1 : D → DEnv) (ok : BlkOk X.N X.env.scope scope own) (hN : X.N.Nodup) (hi : PB X nb iter env c (fun d => ∃ ds, d = .tup ds ∧ PS ds)) (turn : ∀ M ds, PS ds → ∀ d ∈ ds, LcTurn X M scope (own.map (·.2)) tg elt ifs env (env1 d) d (f d)) (hl : ∀ ds, PS ds → ds.length ≤ 1000)
    (hc : X.calm = true := by rfl) (hs : ∀ x, foldedSetIterable iter X.env x = pure x := by intro _; rfl) : PB X nb (.ListComp elt [⟨tg, iter, ifs, 0⟩] scope pos) env c (fun d => ∃ ds, d = .lst (ds.filterMap f) ∧ PS ds) := fun M b g σ H hS Q z =>
  ⟨_, pe_lc (g := WgB X scope tg) (tt := WtB X scope ifs) (te := WeB X scope elt) hc hN (pi_tup we) ok (fun s H C cl fp => ⟨fun pins s' σ H' v u Q I r h => wg.run pins s' σ H' v u Q I r (h s H C cl fp)⟩) (fun s H C cl fp => ⟨fun pins s' σ H' Q I h => (wts _).run pins s' σ H' Q I (h s H C cl fp)⟩)
    (fun s H C cl fp => ⟨fun pins s' σ H' Q I h => we.run pins s' σ H' Q I (h s H C cl fp)⟩) hs, hi M b g σ H hS _ fun v H1 d k1 g1 r ⟨ds, e1, pd⟩ => by
    subst e1
    obtain ⟨t, vs, r1, r2, r3⟩ := r
    have hS1 := hS.go k1 g1
    have w1 := hS1.en.wd
    refine ⟨t, r1, ⟨vs, r2⟩, ?_⟩
    have wk : WalkD X.K M (Itt X.K t) H1 ds := ⟨fun H2 => SqT X.K H2 t vs, YAt vs, by rw [← r3.length]; exact walk_tup, fun H2 s2 => sqT_sm w1 s2 r2, fun k H2 x H3 d s2 hd y => by
      obtain ⟨rfl, hx⟩ := y
      obtain ⟨v2, h1, h2⟩ := (reps_sm w1 s2 r3).get hd
      rw [hx] at h1
      cases h1
      exact ⟨Same.refl _, h2⟩⟩
    exact lc_read2 (tg := tg) (elt := elt) (ifs := ifs) (wi := fun _ H R => R (Itt X.K t) H) env1 hS1.en (fun R k => k _ H1 (Same.refl H1) wk) (turn M ds pd) (hl ds pd) fun p us H' np e h1 r => z _ H' (.lst (ds.filterMap f)) (k1.trans (kp_of e)) (g1.same e) ⟨p, us, rfl, w1.notM np, h1, r⟩ ⟨ds, rfl, pd⟩⟩
end
def spBag (K : PySem.W.Frag) : Sp := fun vs H Q _ => ∃ (a : Addr) (ns : List Int), vs = [.ref a] ∧ SqL K H a (ns.map V.int) ∧ ns.length ≤ 63 ∧ ∀ (p : Addr) (H' : Hp) (ca : Addr) (ks : List Int), H p = none → Same H H' → H' p = some (.lst [.int 0, .int 1234567891, .int 0, .ref ca]) → ca ≠ p → H' ca = some (.lst (List.map V.int ks)) → (∀ n ∈ ks, 0 ≤ n) → ks.length ≤ 63 → Q (.ref p) H'
def absI (i : Int) : Int := if i < 0 then -i else i
def fAbs (d : D) : Option D := match d with
  | .int i => some (.int (absI i))
  | _ => none
theorem fAbs_all : ∀ ns : List Int, (ns.map D.int).filterMap fAbs = (ns.map absI).map D.int
  | [] => rfl
  | n :: ns => by
    rw [List.map_cons, List.map_cons, List.map_cons, List.filterMap_cons]
    show D.int (absI n) :: _ = _
    rw [fAbs_all ns]
theorem cutV_ints (ns : List Int) (lo hi : Option Int) : ∃ ms : List Int, cutV (ns.map V.int) lo hi = ms.map V.int ∧ ms.length ≤ ns.length := by
  refine ⟨(ns.drop (HT.sIx (ns.map V.int).length 0 lo)).take (HT.sIx (ns.map V.int).length (ns.map V.int).length hi - HT.sIx (ns.map V.int).length 0 lo), ?_, ?_⟩
  · unfold cutV
    rw [← List.map_drop, ← List.map_take]
  · rw [List.length_take, List.length_drop]
    omega
abbrev M0 : Mu := fun _ => False
section
variable {P : Program} {w : World} {K : PySem.W.Frag} {mg : Str → Option Value} {base : Heap}
theorem en_none {N : List Str} {vs : List V} {H : Hp} (hl : vs.length ≤ N.length) : En K M0 H (L2.start N vs) (List.replicate N.length none) := by
  refine ⟨fun a m => m.elim, ?_, fun i d q => ?_⟩
  · unfold L2.start
    rw [List.length_append, List.length_map, List.length_replicate, List.length_replicate]
    omega
  · rw [List.getElem?_replicate] at q
    split at q <;> cases q
theorem cal_l_bag {f : Addr} {fd : FuncData} (F : FnP K "_law_bag" s_l_bag f fd) (m : mg "_law_bag" = some (.ref f)) (m_abs : mg "abs" = none) : Cal P w K mg base "_law_bag" 1 ["_law_script"] (spBag K) := by
  refine cal_of F m (F.bindsN fun _ _ _ _ _ _ us hl => match us, hl with | [_], _ => rfl) (F.ok sc_l_bag (fun vs H Q E h => ?_) fun cdv A outer s H vs Q E hr h => ?_)
  · obtain ⟨_, _, rfl, _⟩ := h
    rfl
  have nd := sc_l_bag.nd
  obtain ⟨a, ns, rfl, hsq, hlen, q⟩ := h
  have hE : En K M0 H (L2.start N_l_bag [.ref a]) [none, none] := en_none (N := N_l_bag) (by show 1 ≤ 2; decide)
  obtain ⟨ms, e1, e2⟩ := cutV_ints ns none (some 63)
  have main : Wss (BX P w K mg base N_l_bag "_law_bag" (defScope s_l_bag) f cdv A outer s H E) (defBody s_l_bag) { nx := fun _ H' => Q .non H', rt := Q } (L2.start N_l_bag [.ref a]) H := by
    refine ⟨_, pss_one (ps_ret (pe_lst (pa_cons pe_int (pa_cons pe_int (pa_cons pe_int (pa_cons (pe_lc (own := [("_law_cell", 1)]) (g := WgB _ _ _) (tt := WtB _ _ _) (te := WeB _ _ _) rfl nd wi (blkOk_by (N := N_l_bag) (sc := defScope s_l_bag) (by decide +kernel)) (fun s H C cl fp => ⟨fun pins s' σ H' v u Q I r h => wg.run pins s' σ H' v u Q I r (h s H C cl fp)⟩) (fun s H C cl fp => ⟨fun pins s' σ H' Q I h => (wts _).run pins s' σ H' Q I (h s H C cl fp)⟩)
      (fun s H C cl fp => ⟨fun pins s' σ H' Q I h => we.run pins s' σ H' Q I (h s H C cl fp)⟩) (by intro _; rfl)) pa_nil)))))), ?_⟩
    unfold tRet tLst tCons tC
    dsimp only
    refine lc_read2 (X := BX P w K mg base N_l_bag "_law_bag" (defScope s_l_bag) f cdv A outer s H E) (M := M0) (ds := ms.map D.int) (f := fAbs) (fun d => [none, some d]) hE (fun R k => ?_) (fun d hd s H0 C cl fp => ?_) (by rw [List.length_map]; omega) fun p us H1 np e3 h1 r1 => ?_
    · refine ⟨_, pi_list (pe_slice sl_list (pe_var (i := 0) rfl (Or.inl rfl) (by decide) (by decide)) wo wo), .ref a, rfl, ⟨_, po_none, ⟨_, po_some pe_int, ⟨63, rfl, a, ns.map V.int, rfl, hsq, fun p np => ⟨p, rfl, ⟨_, SqL.of upd_same⟩, k (Itl K p) _ (same_new np) ?_⟩⟩⟩⟩⟩
      rw [e1]
      exact ⟨fun H2 => SqL K H2 p (ms.map V.int), YAt (ms.map V.int), by rw [List.length_map, ← List.length_map (f := V.int) (as := ms)]; exact walk_list, fun H2 s2 => SqL.of (s2.1 p _ (fun z => z) upd_same), fun k H2 x H3 d s2 hd y => by
        obtain ⟨rfl, hx⟩ := y
        obtain ⟨v2, g1, g2⟩ := (reps_of_ints (K := K) (M := M0) (H := H3) ms).get hd
        rw [hx] at g1
        cases g1
        exact ⟨Same.refl _, g2⟩⟩
    · obtain ⟨i, hi, rfl⟩ := List.mem_map.mp hd
      exact ⟨gdw_name 1 (by simp) nd, trivial, ptsd_nil, pd_abs m_abs (pd_var 1)⟩
    · rw [fAbs_all] at r1
      have eu := reps_ints r1
      subst eu
      refine ⟨by show 4 ≤ sizeLine; decide, fun p2 np2 => ?_⟩
      have ne : p ≠ p2 := fun z => by rw [z, np2] at h1; cases h1
      refine q p2 _ p (ms.map absI) (e3.free np2) (e3.trans (same_new np2)) upd_same ne (by rw [upd_ne ne]; exact h1) (fun n hn => ?_) (by rw [List.length_map]; omega)
      obtain ⟨i, _, rfl⟩ := List.mem_map.mp hn
      unfold absI
      split <;> omega
  obtain ⟨t, ht, hq⟩ := main
  exact ⟨t, PSs.nox ht, hq⟩
end
end Wk
end
section
set_option Elab.async false
set_option linter.all false
set_option maxRecDepth 100000
set_option maxHeartbeats 4000000
namespace Wk
open PySem PySem.Spec PyProof.Rows L2 Fq
open Mi (Col Leg P2 pl dotQ sqAt)
local macro_rules | `(tactic| walk_at "nz") => `(tactic| first | assumption | exact Nz.sn (by assumption) | exact Nz.sd (by assumption) | (apply Nz.mul <;> walk_at "nz") | (apply Nz.add <;> walk_at "nz") | (apply Nz.sub <;> walk_at "nz") | (apply Nz.neg <;> walk_at "nz") | exact (show Nz 40 _ by unfold Nz; decide))
local macro_rules | `(tactic| walk_at "mw") => `(tactic| (apply Nz.w; (· walk_at "nz"); (· walk_at "nz"); decide))
section
variable {X : Cx} {nb : Nat} {env : DEnv} {a0 : Expr} {p pos : Pos} {c : Nat} {PS : List D → Prop}
theorem pb_tupL (hm : X.mg "tuple" = none) (ha : PB X nb a0 env c (fun d => ∃ ds, d = .lst ds ∧ PS ds)) (hg : Gl X "tuple" := by rfl) (hs : starEach [a0] X.env = (false, eval a0 X.env) :: starEach [] X.env := by rfl) : PB X nb (.Call (.Name "tuple" p) [a0] [] pos) env c (fun d => ∃ ds, d = .tup ds ∧ PS ds) := fun M b f σ H hS Q z =>
  ⟨_, pe_callTy call_tuple_of hg hm (by decide +kernel) (pa_cons we pa_nil hs) (by decide) (by decide) hs (by rfl), ha M b f σ H hS _ fun v H1 d k1 g1 r ⟨ds, e1, pd⟩ => by
    subst e1
    obtain ⟨t, us, rfl, n, r2, r3⟩ := r
    have w1 := (hS.go k1 g1).en.wd
    exact ⟨t, us, rfl, .inl ⟨SqL.of r2, fun l nl => z _ _ (.tup ds) (k1.trans (kp_of (same_new nl))) (g1.same (same_new nl)) ⟨l, us, rfl, SqT.of upd_same, reps_same w1 (same_new nl) r3⟩ ⟨ds, rfl, pd⟩⟩⟩⟩
end
def unleg : D → Leg
  | .tup [.tup [.int a, .int b], .tup [.int c, .int e]] => ((a, b), (c, e))
  | _ => ((0, 0), (0, 0))
theorem unleg_leg (l : Leg) : unleg (legD l) = l := rfl
def fWay (W : Int) (d : D) : Option D := if sqI (unleg d).1 (unleg d).2 ≤ W then some d else none
theorem fWay_all (W : Int) : ∀ ls : List Leg, (ls.map legD).filterMap (fWay W) = (ls.filter fun l => decide (sqI l.1 l.2 ≤ W)).map legD
  | [] => rfl
  | l :: ls => by
    rw [List.map_cons, List.filterMap_cons, List.filter_cons]
    by_cases h : sqI l.1 l.2 ≤ W
    · rw [show fWay W (legD l) = some (legD l) from if_pos h, decide_eq_true h, if_pos rfl, List.map_cons, fWay_all W ls]
    · rw [show fWay W (legD l) = none from if_neg h, decide_eq_false h, if_neg (by decide), fWay_all W ls]
def badB (B : Bo) (T : Int) (l o : Leg) : Bool := decide ((Mi.nearL l o (B.rho T)).1 < ((B.R * B.R : Int) : Rat))
def fBad (B : Bo) (T : Int) (o : Leg) (d : D) : Option D := if badB B T (unleg d) o = true then some d else none
def apK (B : Bo) (T : Int) (ls : List Leg) : Nat → Bool
  | 0 => true
  | k + 1 => match ls[k]? with
    | some o => if ((ls.take k).map legD).filterMap (fBad B T o) = [] then apK B T ls k else false
    | none => apK B T ls k
theorem bad_nil {B : Bo} {T : Int} {ls : List Leg} {k : Nat} {o : Leg} : ((ls.take k).map legD).filterMap (fBad B T o) = [] ↔ ∀ (i : Nat) l, i < k → ls[i]? = some l → badB B T l o = false := by
  rw [List.filterMap_eq_nil_iff]
  constructor
  · intro h i l hi hl
    have hm : l ∈ ls.take k := List.mem_of_getElem? (by rw [List.getElem?_take_of_lt hi]; exact hl)
    have := h (legD l) (List.mem_map.mpr ⟨l, hm, rfl⟩)
    unfold fBad at this
    rw [unleg_leg] at this
    split at this
    · cases this
    · rename_i q
      simpa using q
  · intro h d hd
    obtain ⟨l, hl, rfl⟩ := List.mem_map.mp hd
    obtain ⟨i, hi⟩ := List.getElem?_of_mem hl
    have hik : i < k := by
      have := (List.getElem?_eq_some_iff.mp hi).1
      rw [List.length_take] at this
      omega
    rw [List.getElem?_take_of_lt hik] at hi
    unfold fBad
    rw [unleg_leg, h i l hik hi, if_neg (by decide)]
theorem apK_iff (B : Bo) (T : Int) (ls : List Leg) : ∀ k, apK B T ls k = true ↔ ∀ (i j : Nat) l o, i < j → j < k → ls[i]? = some l → ls[j]? = some o → badB B T l o = false
  | 0 => ⟨fun _ i j l o _ h => absurd h (Nat.not_lt_zero _), fun _ => rfl⟩
  | k + 1 => by
    have ih := apK_iff B T ls k
    show (match ls[k]? with
      | some o => if ((ls.take k).map legD).filterMap (fBad B T o) = [] then apK B T ls k else false
      | none => apK B T ls k) = true ↔ _
    cases e : ls[k]? with
    | none =>
      simp only
      rw [ih]
      constructor
      · intro h i j l o hij hjk hi hj
        rcases Nat.lt_or_ge j k with z | z
        · exact h i j l o hij z hi hj
        · have : j = k := by omega
          rw [this, e] at hj
          cases hj
      · intro h i j l o hij hjk hi hj
        exact h i j l o hij (by omega) hi hj
    | some o0 =>
      simp only
      by_cases hb : ((ls.take k).map legD).filterMap (fBad B T o0) = []
      · rw [if_pos hb, ih]
        rw [bad_nil] at hb
        constructor
        · intro h i j l o hij hjk hi hj
          rcases Nat.lt_or_ge j k with z | z
          · exact h i j l o hij z hi hj
          · have : j = k := by omega
            subst this
            rw [e] at hj
            cases hj
            exact hb i l hij hi
        · intro h i j l o hij hjk hi hj
          exact h i j l o hij (by omega) hi hj
      · rw [if_neg hb]
        rw [bad_nil] at hb
        constructor
        · intro h
          cases h
        · intro h
          exact absurd (fun i l hi hl => h i k l o0 hi (by omega) hl e) hb
theorem apK_apart {B : Bo} {T : Int} {ls : List Leg} (hB : BoOk B) (hT : Tk B T) : apK B T ls ls.length = true ↔ Apart ls (B.rho T) B.R := by
  obtain ⟨_, r0, r1⟩ := rho_ok hB hT
  rw [apK_iff]
  have key : ∀ l o, badB B T l o = false ↔ ((B.R * B.R : Int) : Rat) ≤ (Mi.nearQ l o (B.rho T)).1 := fun l o => by
    unfold badB
    rw [decide_eq_false_iff_not, Mi.same_least r0 r1, Rat.not_lt]
  constructor
  · intro h i j l o hij hi hj
    exact (key l o).mp (h i j l o hij (List.getElem?_eq_some_iff.mp hj).1 hi hj)
  · intro h i j l o hij _ hi hj
    exact (key l o).mpr (h i j l o hij hi hj)
theorem apK_same {B : Bo} {T : Int} {ls : List Leg} (hB : BoOk B) (hT : Tk B T) : apartF B.R (outF ls (B.rho T) ls.length) = apK B T ls ls.length := by
  rw [Bool.eq_iff_iff, apartF_iff, apK_apart hB hT]
theorem legs_lay : ∀ ls : List Leg, PyData.canLayAll0 (pyDs (ls.map legD)) = true
  | [] => rfl
  | l :: ls => by
    show (PyData.canLay0 (pyD (legD l)) && PyData.canLayAll0 (pyDs (ls.map legD))) = true
    rw [legs_lay ls]
    rfl
theorem legs_depth : ∀ ls : List Leg, PyData.depthAll (pyDs (ls.map legD)) ≤ 10
  | [] => by decide
  | l :: ls => by
    have ih := legs_depth ls
    show PyData.depthAll (pyD (legD l) :: pyDs (ls.map legD)) ≤ 10
    simp only [PyData.depthAll]
    have : PyData.depth (pyD (legD l)) ≤ 10 := by
      simp [legD, colD, pyD, pyDs, PyData.depth, PyData.depthAll]
    omega
theorem shaped_legs (ls : List Leg) : SeqAt.shaped (pyD (.lst (ls.map legD))) = true := by
  unfold SeqAt.shaped
  rw [Bool.and_eq_true, decide_eq_true_iff]
  have h1 := legs_lay ls
  have h2 := legs_depth ls
  constructor
  · simpa [pyD, PyData.canLay0] using h1
  · simp only [pyD, PyData.depth]
    omega
theorem bad_legs (B : Bo) (T : Int) (o : Leg) : ∀ ls : List Leg, ∃ ks : List Leg, (ls.map legD).filterMap (fBad B T o) = ks.map legD
  | [] => ⟨[], rfl⟩
  | l :: ls => by
    obtain ⟨ks, h⟩ := bad_legs B T o ls
    rw [List.map_cons, List.filterMap_cons]
    by_cases hq : badB B T l o = true
    · rw [show fBad B T o (legD l) = some (legD l) from if_pos hq]
      exact ⟨l :: ks, by rw [List.map_cons, h]⟩
    · rw [show fBad B T o (legD l) = none from if_neg hq]
      exact ⟨ks, h⟩
theorem ltL_ok {B : Bo} {T : Int} (h : ltL B = some T) : 1 ≤ T ∧ B.L ≤ T ∧ T ≤ 10 ^ 12 := by
  unfold ltL at h
  split at h
  · cases h
  · exact feL_ok h
theorem flat_leg (l : Leg) : Flat (legD l) := ⟨⟨trivial, trivial, trivial⟩, ⟨trivial, trivial, trivial⟩, trivial⟩
def spLaw (K : PySem.W.Frag) : Sp := fun vs H Q _ => ∃ (a : Addr) (ns : List Int), vs = [.ref a] ∧ ns.length ≤ 63 ∧ SqL K H a (ns.map V.int) ∧ ∀ v H', v = .bl true → Q v H'
section
variable {P : Program} {w : World} {K : PySem.W.Frag} {mg : Str → Option Value} {base : Heap}
theorem law_turn {f : Addr} {cdv : Value} {A : Around} {outer : List Env} {s : Shared} {H : Hp} {E : XK} (hr : Room 11 (A.deeper (envOfC "law" (defScope s_law) s.heap.objs.size f cdv)))
    (c_l_bounds : Cal P w K mg base "_law_bounds" 3 ["_law_bag_here"] (spB K 20 R_l_bounds)) (c_l_ticks : Cal P w K mg base "_law_ticks" 3 ["_law_bag_here", "_law_bounds_here"] (spB K 5 R_l_ticks)) (c_l_least_ticks : Cal P w K mg base "_law_least_ticks" 4 ["_law_bounds_here"] (spP K R_l_least_ticks)) (c_l_alike : Cal P w K mg base "_law_alike" 1 ["_law_found", "_law_due"] (spP K R_l_alike)) (c_l_take : Cal P w K mg base "_law_take" 1 ["_law_bag_here", "_law_many"] (spB K 1 R_l_take)) (c_is_flight_apart : Cal P w K mg base "is_flight_apart" 9 ["bounds", "ticks", "legs"] (spP K R_is_flight_apart)) (c_is_enough : Cal P w K mg base "is_enough" 3 ["bounds", "ticks"] (spP K R_is_enough)) (c_l_is_enough : Cal P w K mg base "_law_is_enough" 2 ["_law_bounds_here", "_law_ticks_here"] (spP K R_l_is_enough)) (c_l_legs : Cal P w K mg base "_law_legs" 4 ["_law_bag_here", "_law_spacing", "_law_many"] (spB K 100 R_l_legs)) (c_l_some : Cal P w K mg base "_law_some" 2 ["_law_bag_here", "_law_things"] (spB K 1 R_l_some)) (c_l_squared : Cal P w K mg base "_law_squared" 1 ["_law_one", "_law_other"] (spP K R_l_squared)) (c_l_is_bad : Cal P w K mg base "_law_is_bad" 7 ["_law_bounds_here", "_law_ticks_here", "_law_couple"] (spP K R_l_is_bad)) (m_tuple : mg "tuple" = none) (m_enumerate : mg "enumerate" = none) (m_range : mg "range" = none) :
    SB (BX P w K mg base N_law "law" (defScope s_law) f cdv A outer s H E) 1 (defBody s_law).tail [none, none, none, none, none, none, none, none, none, none, none, none] 400 (.rt fun d => d = .bl true) := by
  have nd := sc_law.nd
  refine SB.mono (c := (rngD 0 2).length * 150 + 0) ?_ (by decide)
  refine sb_cons (s1b_for (fun _ env => env = [none, none, none, none, none, none, none, none, none, none, none, none]) (vs := [2]) (by decide) (fun M => id_range1 (i := 2) m_range pd_int) rfl (fun k d env hd e => ?_)) fun env1 e => ?_
  rotate_left
  · subst e
    exact sb_last (s1b_ret (pb_pd fun M => pd_bl))
  subst e
  obtain ⟨_, rfl⟩ := rngD_get hd
  refine ⟨_, fun M => gdw_name 2 (by simp) nd, ?_⟩
  refine SB.nrm [none, none, some (.int (0 + (k : Int))), none, none, none, none, none, none, none, none, none] rfl ?_
  generalize D.int (0 + (k : Int)) = tk
  refine SB.mono (c := 20 + (5 + (0 + (2 + (0 + (101 + (0 + (0 + (0 + 0))))))))) ?_ (by decide)
  refine sb_cons (s1b_set 3 ((pb_call (c := 0) (P := fun d => ∃ B, d = boD B ∧ BoOk B) c_l_bounds hr pab_nil (fun ds e => ⟨_, ⟨e, rfl⟩, fun d h => h⟩)).mono (by decide) fun _ h => h) nd) fun env1 ⟨d, ⟨B, e1, hB⟩, e2⟩ => ?_
  subst e1 e2
  refine SB.nrm [none, none, some tk, some (boD B), none, none, none, none, none, none, none, none] rfl ?_
  obtain ⟨z1, z2, z3, z4⟩ := nz_bo hB
  refine sb_cons (s1b_set 4 ((pb_call (c := 0) (P := isI fun T => Tk B T) c_l_ticks hr (pab_pad (ds := [boD B]) fun M => pad_cons (pd_var 3) pad_nil) (fun ds e => ⟨_, ⟨B, e, hB, rfl⟩, fun d h => h⟩)).mono (by decide) fun _ h => h) nd) fun env1 ⟨d, ⟨T, e1, hT⟩, e2⟩ => ?_
  subst e1 e2
  refine SB.nrm [none, none, some tk, some (boD B), some (.int T), none, none, none, none, none, none, none] rfl ?_
  refine sb_cons (s1b_set 5 (pb_pd fun M => pd_call c_l_least_ticks hr (pad_cons (pd_var 3) pad_nil) ⟨B, rfl, hB, rfl⟩) nd) fun env1 ⟨d, e1, e2⟩ => ?_
  subst e1 e2
  refine SB.nrm [none, none, some tk, some (boD B), some (.int T), some (optD (ltL B)), none, none, none, none, none, none] rfl ?_
  refine sb_cons (E := fun env2 => ∃ T, Tk B T ∧ env2 = [none, none, some tk, some (boD B), some (.int T), none, none, none, none, none, none, none]) ?_ fun env1 ⟨T, hT, e1⟩ => ?_
  · have wk : ∀ (T : Int) (d : D), Le [none, none, some tk, some (boD B), some (.int T), some d, none, none, none, none, none, none] [none, none, some tk, some (boD B), some (.int T), none, none, none, none, none, none, none] := fun T d => ⟨.inr rfl, .inr rfl, .inr rfl, .inr rfl, .inr rfl, .inl rfl, .inr rfl, .inr rfl, .inr rfl, .inr rfl, .inr rfl, .inr rfl, trivial⟩
    cases hl : ltL B with
    | none =>
      refine S1B.mono (S1B.imp (E1 := fun env2 => env2 = [none, none, some tk, some (boD B), some (.int T), some .non, none, none, none, none, none, none]) (s1b_if (c1 := 0) (c2 := 0) (ptb_ptd (k := false) fun M => ptd_w (PWD.of (pwd_and (x := false) (y := false) (PTD.of (ptd_notN (pd_var 5)) rfl) fun h => by cases h) rfl)) (fun h => by cases h) (fun _ => sb_nil rfl)) fun env1 e => ⟨_, by rw [e]; exact wk T .non, T, hT, rfl⟩) (by decide)
    | some L0 =>
      have hL := ltL_ok hl
      refine S1B.imp (E1 := fun env2 => ∃ T, Tk B T ∧ env2 = [none, none, some tk, some (boD B), some (.int T), some (.int L0), none, none, none, none, none, none]) (s1b_if (c1 := 1) (c2 := 1) (ptb_andT (fun M => PTD.of (ptd_notN (pd_var 5)) rfl) (ptb_eqI (c1 := 1) (c2 := 0) (k_l_takeI (i := 2) c_l_take hr (fun M => pd_int) (by decide)) (pb_pdI (i := 0) fun M => pd_int))) (fun _ => sb_last (S1B.imp (s1b_set 4 (P := isI fun T => Tk B T) ((pb_add (c1 := 0) (c2 := 1) (q1 := fun k => k = L0) (pb_pdI fun M => pd_var 5) (k_l_takeI (i := 2) c_l_take hr (fun M => pd_int) (by decide))).mono (by decide) ?_) nd) fun env1 ⟨d, ⟨T, e1, hT⟩, e2⟩ => ⟨_, Le.refl _, T, hT, by rw [e2, e1] <;> rfl⟩)) (fun _ => SB.mono (c := 0) (sb_nil ⟨T, hT, rfl⟩) (by decide))) fun env1 ⟨T, hT, e⟩ => ⟨_, by rw [e]; exact wk T (.int L0), T, hT, rfl⟩
      rintro d ⟨k, rfl, i, j, rfl, ⟨j0, j1⟩, rfl⟩
      exact ⟨_, rfl, by omega, by omega, by omega⟩
  subst e1
  have wok : CMulW B.way B.way := Nz.w z2 z2 (by decide)
  refine sb_cons (s1b_set 6 (P := fun d => d = .int (B.way * B.way)) (pb_pd fun M => pd_mulW (pd_ixT (pd_var 3) pd_int) (pd_ixT (pd_var 3) pd_int) wok) nd) fun env1 ⟨d, e1, e2⟩ => ?_
  subst e1 e2
  refine SB.nrm [none, none, some tk, some (boD B), some (.int T), none, some (.int (B.way * B.way)), none, none, none, none, none] rfl ?_
  refine sb_cons (s1b_set 7 (P := fun d => ∃ ls, d = lsD ls ∧ FlightOk B.S ls ∧ ∀ l ∈ ls, sqI l.1 l.2 ≤ B.way * B.way) ((pb_tupL (PS := fun ds => ∃ ls, ds = ls.map legD ∧ FlightOk B.S ls ∧ ∀ l ∈ ls, sqI l.1 l.2 ≤ B.way * B.way) m_tuple ((pb_lcT (c := 101) (own := [("_law_leg", 11)]) (f := fWay (B.way * B.way)) (PS := fun ds => ∃ ls, ds = ls.map legD ∧ FlightOk B.S ls) (fun d => [none, none, some tk, some (boD B), some (.int T), none, some (.int (B.way * B.way)), none, none, none, none, some d]) (blkOk_by (N := N_law) (sc := defScope s_law) (by decide +kernel)) nd
    ((pb_call (c := 0 + (1 + 0)) (P := fun d => ∃ ds, d = .tup ds ∧ ∃ ls, ds = ls.map legD ∧ FlightOk B.S ls) c_l_legs hr (pab_cons (pb_pd fun M => pd_ixT (pd_var 3) pd_int) (pab_cons (k_l_someI (xs := ([3, 2, 4] : List Int).map D.int) c_l_some hr (fun M => (pl_lst (pad_cons pd_int (pad_cons pd_int (pad_cons pd_int pad_nil))) (by decide)).pd) (by decide)) pab_nil)) ?_).mono (by decide) fun _ h => h) (fun M ds ⟨ls, e1, hF⟩ d hd s H0 C cl fp => ?_) ?_).imp ?_)).imp ?_) nd) fun env1 ⟨d, ⟨ls, e1, hF, hW⟩, e2⟩ => ?_
  · rintro ds ⟨d1, r1, rfl, rfl, d2, r2, rfl, hm, rfl⟩
    obtain ⟨m, rfl, hm⟩ := mem_ints hm
    have hm2 : 2 ≤ m ∧ m ≤ 4 := by
      have h3 : m = 3 ∨ m = 2 ∨ m = 4 := by simpa using hm
      omega
    exact ⟨_, ⟨B.S, m, rfl, ⟨hB.S1, hB.S2⟩, hm2, rfl⟩, fun d ⟨ls, e, hF⟩ => ⟨ls.map legD, e, ls, rfl, hF⟩⟩
  · subst e1
    obtain ⟨l, hl, rfl⟩ := List.mem_map.mp hd
    have hok := hF.legs.1 l hl
    refine ⟨gdw_name 11 (by simp) nd, ?_⟩
    by_cases hq : sqI l.1 l.2 ≤ B.way * B.way
    · rw [show fWay (B.way * B.way) (legD l) = some (legD l) from if_pos hq]
      exact ⟨flat_leg l, ptsd_one (PTD.of (ptd_le (pd_call c_l_squared hr (pad_cons (pd_ixT (pd_var 11) pd_int) (pad_cons (pd_ixT (pd_var 11) pd_int) pad_nil)) ⟨l.1, l.2, rfl, hok.1, hok.2, rfl⟩) (pd_var 6)) (decide_eq_true hq)), pd_var 11⟩
    · rw [show fWay (B.way * B.way) (legD l) = none from if_neg hq]
      exact ptsd_one (PTD.of (ptd_le (pd_call c_l_squared hr (pad_cons (pd_ixT (pd_var 11) pd_int) (pad_cons (pd_ixT (pd_var 11) pd_int) pad_nil)) ⟨l.1, l.2, rfl, hok.1, hok.2, rfl⟩) (pd_var 6)) (decide_eq_false hq))
  · rintro ds ⟨ls, rfl, hF⟩
    have := hF.few
    rw [List.length_map]
    omega
  · rintro d ⟨ds, rfl, ls, rfl, hF⟩
    rw [fWay_all]
    exact ⟨_, rfl, ls.filter fun l => decide (sqI l.1 l.2 ≤ B.way * B.way), rfl, spaced_sub hF List.filter_sublist, fun l hl => of_decide_eq_true (List.mem_filter.mp hl).2⟩
  · rintro d ⟨ds, rfl, ls, rfl, hF, hW⟩
    exact ⟨ls, rfl, hF, hW⟩
  subst e1 e2
  refine SB.nrm [none, none, some tk, some (boD B), some (.int T), none, some (.int (B.way * B.way)), some (lsD ls), none, none, none, none] rfl ?_
  have hlen := hF.few
  refine sb_cons (s1b_set 8 (pb_pd fun M => pd_bl) nd) fun env1 ⟨d, e1, e2⟩ => ?_
  subst e1 e2
  refine SB.nrm [none, none, some tk, some (boD B), some (.int T), none, some (.int (B.way * B.way)), some (lsD ls), some (.bl true), none, none, none] rfl ?_
  refine sb_cons (S1B.mono (s1b_for (c := 0) (fun k env => env = [none, none, some tk, some (boD B), some (.int T), none, some (.int (B.way * B.way)), some (lsD ls), some (.bl (apK B T ls k)), none, none, none]) (vs := [9, 10]) (by decide) (fun M => id_enumT m_enumerate (pd_var 7)) rfl (fun j d env hd e => ?_)) (by rw [Nat.mul_zero]; exact Nat.le_refl _)) fun env1 e => ?_
  · subst e
    obtain ⟨dx, hdx, rfl⟩ := enumD_get hd
    obtain ⟨o, hj, rfl⟩ := ls_get hdx
    have hjl : j < ls.length := (List.getElem?_eq_some_iff.mp hj).1
    have hoOk := hF.legs.1 o (List.mem_of_getElem? hj)
    refine ⟨_, fun M => gdw_tup (gdws_cons (gdw_name 9 (by simp) nd) (gdws_cons (gdw_name 10 (by simp) nd) gdws_nil)), ?_⟩
    refine SB.nrm [none, none, some tk, some (boD B), some (.int T), none, some (.int (B.way * B.way)), some (lsD ls), some (.bl (apK B T ls j)), some (.int j), some (legD o), none] rfl ?_
    have e1 : apK B T ls (j + 1) = if ((ls.take j).map legD).filterMap (fBad B T o) = [] then apK B T ls j else false := by
      show (match ls[j]? with
        | some o => if ((ls.take j).map legD).filterMap (fBad B T o) = [] then apK B T ls j else false
        | none => apK B T ls j) = _
      rw [hj]
    have ec : cutD (ls.map legD) none (some (j : Int)) = (ls.take j).map legD := by
      rw [cut_pre (by rw [List.length_map]; omega), List.map_take]
    have wk : ∀ q : Bool, Le [none, none, some tk, some (boD B), some (.int T), none, some (.int (B.way * B.way)), some (lsD ls), some (.bl q), some (.int j), some (legD o), none] [none, none, some tk, some (boD B), some (.int T), none, some (.int (B.way * B.way)), some (lsD ls), some (.bl q), none, none, none] := fun q => ⟨.inr rfl, .inr rfl, .inr rfl, .inr rfl, .inr rfl, .inr rfl, .inr rfl, .inr rfl, .inr rfl, .inl rfl, .inl rfl, .inr rfl, trivial⟩
    rw [e1]
    refine sb_last (s1b_if (c1 := 0) (c2 := 0) (ptb_ptd (k := !decide (((ls.take j).map legD).filterMap (fBad B T o) = [])) fun M => PTD.of (ptd_neD hr (d1 := .lst (((ls.take j).map legD).filterMap (fBad B T o))) (d2 := .lst []) (pl_lc (ds := (ls.take j).map legD) (own := [("_law_leg", 11)]) (f := fBad B T o) (fun d => [none, none, some tk, some (boD B), some (.int T), none, some (.int (B.way * B.way)), some (lsD ls), some (.bl (apK B T ls j)), some (.int j), some (legD o), some d]) (blkOk_by (N := N_law) (sc := defScope s_law) (by decide +kernel)) nd (id_tup ((pd_slT (pd_var 7) pod_none (pod_some (pd_var 9))).of (congrArg D.tup ec))) (fun d hd s H0 C cl fp => ?_) (by rw [List.length_map, List.length_take]; omega)).pd (pl_lst pad_nil (Nat.zero_le _)).pd ?_ rfl) (by rw [eqv_nil])) (fun h => ?_) (fun h => ?_))
    · obtain ⟨l, hl, rfl⟩ := List.mem_map.mp hd
      have hlOk := hF.legs.1 l (List.mem_of_mem_take hl)
      refine ⟨gdw_name 11 (by simp) nd, ?_⟩
      by_cases hq : badB B T l o = true
      · rw [show fBad B T o (legD l) = some (legD l) from if_pos hq]
        exact ⟨flat_leg l, ptsd_one (PTD.of (ptd_val (pd_call c_l_is_bad hr (pad_cons (pd_var 3) (pad_cons (pd_var 4) (pad_cons (pd_tup (pad_cons (pd_var 11) (pad_cons (pd_var 10) pad_nil))) pad_nil))) ⟨B, T, l, o, rfl, hB, hT, hlOk, hoOk, rfl⟩)) hq), pd_var 11⟩
      · have hqf : badB B T l o = false := by simpa using hq
        rw [show fBad B T o (legD l) = none from if_neg hq]
        exact ptsd_one (PTD.of (ptd_val (pd_call c_l_is_bad hr (pad_cons (pd_var 3) (pad_cons (pd_var 4) (pad_cons (pd_tup (pad_cons (pd_var 11) (pad_cons (pd_var 10) pad_nil))) pad_nil))) ⟨B, T, l, o, rfl, hB, hT, hlOk, hoOk, rfl⟩)) hqf)
    · obtain ⟨ks, hks⟩ := bad_legs B T o (ls.take j)
      rw [hks]
      exact shaped_legs ks
    · have hne : ¬ ((ls.take j).map legD).filterMap (fBad B T o) = [] := by
        have h' := h.symm
        simpa using h'
      rw [if_neg hne]
      exact sb_last (S1B.imp (s1b_set 8 (pb_pd fun M => pd_bl) nd) fun env1 ⟨d, e1, e2⟩ => ⟨_, by rw [e2, e1]; exact wk false, rfl⟩)
    · have heq : ((ls.take j).map legD).filterMap (fBad B T o) = [] := by
        have h' := h.symm
        simpa using h'
      rw [if_pos heq]
      exact SB.imp (E1 := fun env1 => env1 = [none, none, some tk, some (boD B), some (.int T), none, some (.int (B.way * B.way)), some (lsD ls), some (.bl (apK B T ls j)), some (.int j), some (legD o), none]) (sb_nil rfl) fun env1 e => ⟨_, by rw [e]; exact wk _, rfl⟩
  subst e
  rw [enumD_len, List.length_map]
  have hsame := apK_same (ls := ls) hB hT
  generalize hap : apK B T ls ls.length = ap at hsame
  refine sb_cons (E := fun env1 => env1 = [none, none, some tk, some (boD B), some (.int T), none, some (.int (B.way * B.way)), some (lsD ls), some (.bl ap), none, none, none]) (s1b_if (c1 := 0) (c2 := 0) (ptb_ptd (k := false) fun M => PTD.of (ptd_not (ptd_val (pd_call c_l_alike hr (pad_cons (pd_call c_is_flight_apart hr (pad_cons (pd_var 3) (pad_cons (pd_var 4) (pad_cons (pd_var 7) pad_nil))) ⟨B, T, ls, rfl, hB, hT, hF.legs, rfl⟩) (pad_cons (pd_var 8) pad_nil)) ⟨_, _, rfl, rfl⟩))) (by rw [hsame]; simp)) (fun h => by cases h) (fun _ => sb_nil rfl)) fun env1 e => ?_
  subst e
  have hen := en_same hB hT
  have hbad : B.en T = true → ap = true := fun h => by
    rw [← hap]
    exact (apK_apart hB hT).mpr (en_apart hB hT hF hW h)
  refine sb_last (S1B.imp (E1 := fun env1 => env1 = [none, none, some tk, some (boD B), some (.int T), none, some (.int (B.way * B.way)), some (lsD ls), some (.bl ap), none, none, none]) (s1b_if (c1 := 0) (c2 := 0) (ptb_ptd (k := false) fun M => ptd_w (PWD.of (pwd_or (x := false) (y := false) (PTD.of (ptd_not (ptd_val (pd_call c_l_alike hr (pad_cons (pd_call c_is_enough hr (pad_cons (pd_var 3) (pad_cons (pd_var 4) pad_nil)) ⟨B, T, rfl, hB, hT, rfl⟩) (pad_cons (pd_call c_l_is_enough hr (pad_cons (pd_var 3) (pad_cons (pd_var 4) pad_nil)) ⟨B, T, rfl, hB, hT, rfl⟩) pad_nil)) ⟨_, _, rfl, rfl⟩))) (by rw [hen]; simp)) fun _ => (pwd_or1 (ptd_w (PWD.of (pwd_and (x := B.en T) (y := !ap) (ptd_val (pd_call c_l_is_enough hr (pad_cons (pd_var 3) (pad_cons (pd_var 4) pad_nil)) ⟨B, T, rfl, hB, hT, rfl⟩)) fun _ => (pwd_and1 (ptd_not (ptd_val (pd_var 8))))) (by cases h : B.en T with | false => rfl | true => rw [hbad h]; rfl))))) rfl)) (fun h => by cases h) (fun _ => sb_nil rfl)) fun env1 e => ⟨_, by rw [e]; exact ⟨.inr rfl, .inr rfl, .inl rfl, .inl rfl, .inl rfl, .inr rfl, .inl rfl, .inl rfl, .inl rfl, .inr rfl, .inr rfl, .inr rfl, trivial⟩, rfl⟩)
theorem law_ok {f : Addr} {fd : FuncData} (F : FnP K "law" s_law f fd) (c_l_bag : Cal P w K mg base "_law_bag" 1 ["_law_script"] (spBag K))
    (c_l_bounds : Cal P w K mg base "_law_bounds" 3 ["_law_bag_here"] (spB K 20 R_l_bounds)) (c_l_ticks : Cal P w K mg base "_law_ticks" 3 ["_law_bag_here", "_law_bounds_here"] (spB K 5 R_l_ticks)) (c_l_least_ticks : Cal P w K mg base "_law_least_ticks" 4 ["_law_bounds_here"] (spP K R_l_least_ticks)) (c_l_alike : Cal P w K mg base "_law_alike" 1 ["_law_found", "_law_due"] (spP K R_l_alike)) (c_l_take : Cal P w K mg base "_law_take" 1 ["_law_bag_here", "_law_many"] (spB K 1 R_l_take)) (c_is_flight_apart : Cal P w K mg base "is_flight_apart" 9 ["bounds", "ticks", "legs"] (spP K R_is_flight_apart)) (c_is_enough : Cal P w K mg base "is_enough" 3 ["bounds", "ticks"] (spP K R_is_enough)) (c_l_is_enough : Cal P w K mg base "_law_is_enough" 2 ["_law_bounds_here", "_law_ticks_here"] (spP K R_l_is_enough)) (c_l_legs : Cal P w K mg base "_law_legs" 4 ["_law_bag_here", "_law_spacing", "_law_many"] (spB K 100 R_l_legs)) (c_l_some : Cal P w K mg base "_law_some" 2 ["_law_bag_here", "_law_things"] (spB K 1 R_l_some)) (c_l_squared : Cal P w K mg base "_law_squared" 1 ["_law_one", "_law_other"] (spP K R_l_squared)) (c_l_is_bad : Cal P w K mg base "_law_is_bad" 7 ["_law_bounds_here", "_law_ticks_here", "_law_couple"] (spP K R_l_is_bad)) (m_tuple : mg "tuple" = none) (m_enumerate : mg "enumerate" = none) (m_range : mg "range" = none) :
    FnOk P w K mg base CX0 12 f fd ["_law_script"] (spLaw K) := by
  refine F.ok sc_law (fun vs H Q E h => ?_) fun cdv A outer s H vs Q E hr h => ?_
  · obtain ⟨_, _, rfl, _⟩ := h
    rfl
  have nd := sc_law.nd
  obtain ⟨a, ns, rfl, hlen, hsq, q⟩ := h
  have hE : En K M0 H (L2.start N_law [.ref a]) [none, none, none, none, none, none, none, none, none, none, none, none] := en_none (N := N_law) (by show 1 ≤ 12; decide)
  obtain ⟨f0, fd0, F0, m0, kp0, B0⟩ := c_l_bag.ex
  have rest := law_turn (base := base) (cdv := cdv) (outer := outer) (s := s) (H := H) (E := E) hr c_l_bounds c_l_ticks c_l_least_ticks c_l_alike c_l_take c_is_flight_apart c_is_enough c_l_is_enough c_l_legs c_l_some c_l_squared c_l_is_bad m_tuple m_enumerate m_range
  have main : Wss (BX P w K mg base N_law "law" (defScope s_law) f cdv A outer s H E) (defBody s_law) { nx := fun _ H' => Q .non H', rt := Q } (L2.start N_law [.ref a]) H := by
    refine ⟨_, pss_cons (ps_set (i := 1) nd rfl (Or.inl rfl) (pe_call F0 (hr.mono (by decide)) rfl m0 kp0 B0 .nil pass0 (pa_cons (pe_var (i := 0) rfl (Or.inl rfl) (by decide) (by decide)) pa_nil) (by decide) (by rfl) (by rfl)) rfl (.inr rfl)) wss, ?_⟩
    refine ⟨.ref a, rfl, a, ns, rfl, hsq, hlen, fun p H1 ca ks np e1 h1 ne h2 h3 h4 => ?_⟩
    refine rest (fun x => x = p) (p, ca) 0 _ ((L2.start N_law [.ref a]).set 1 (some (.ref p))) H1 ⟨⟨fun x hx => ?_, ?_, fun i d z => ?_⟩, rfl, rfl, ⟨0, 1234567891, 0, ks, h1, ne, h2, by decide, by decide, by decide, h3, h4⟩⟩ fun v H2 d _ _ r e => ?_
    · exact ⟨_, by rw [hx]; exact h1⟩
    · rw [List.length_set, hE.len]
    · rcases i with _ | _ | _ | _ | _ | _ | _ | _ | _ | _ | _ | _ | i <;> simp at z
    · subst e
      exact q v H2 r
  obtain ⟨t, ht, hq⟩ := main
  exact ⟨t, PSs.nox ht, hq⟩
end
end Wk
end
section
set_option Elab.async false
set_option linter.all false
set_option maxRecDepth 100000
set_option maxHeartbeats 0
namespace Lz
open PySem PySem.Spec PyProof.Rows L2
def topS (i : Nat) : Stmt := PySem.Challenge.pw_lampsaloft_k44_whole_every_crossless_fli.main.body.getD i (.Pass ⟨0, 0, 0, 0⟩)
abbrev s_reduced : Stmt := topS 2
abbrev s_added : Stmt := topS 3
abbrev s_lessened : Stmt := topS 4
abbrev s_times : Stmt := topS 5
abbrev s_over : Stmt := topS 6
abbrev s_compared : Stmt := topS 7
abbrev s_r_of : Stmt := topS 9
abbrev s_lag_of : Stmt := topS 10
abbrev s_rho_of : Stmt := topS 11
abbrev s_is_enough : Stmt := topS 13
abbrev s_place_on : Stmt := topS 17
abbrev s_parting : Stmt := topS 18
abbrev s_dot : Stmt := topS 19
abbrev s_squared_at : Stmt := topS 20
abbrev s_ring_of : Stmt := topS 21
abbrev s_by_parts : Stmt := topS 22
abbrev s_on_side : Stmt := topS 23
abbrev s_crossing : Stmt := topS 24
abbrev s_is_within : Stmt := topS 25
abbrev s_nearest : Stmt := topS 26
abbrev s_nearest_of : Stmt := topS 28
abbrev s_are_apart : Stmt := topS 29
abbrev s_is_flight_apart : Stmt := topS 30
abbrev s_l_bag : Stmt := topS 32
abbrev s_l_take : Stmt := topS 33
abbrev s_l_some : Stmt := topS 34
abbrev s_l_mixed : Stmt := topS 35
abbrev s_l_alike : Stmt := topS 36
abbrev s_l_over : Stmt := topS 37
abbrev s_l_added : Stmt := topS 38
abbrev s_l_lessened : Stmt := topS 39
abbrev s_l_multiplied : Stmt := topS 40
abbrev s_l_divided : Stmt := topS 41
abbrev s_l_is_below : Stmt := topS 42
abbrev s_l_reach : Stmt := topS 43
abbrev s_l_lag : Stmt := topS 44
abbrev s_l_rho : Stmt := topS 45
abbrev s_l_is_enough : Stmt := topS 46
abbrev s_l_bounds : Stmt := topS 47
abbrev s_l_ticks : Stmt := topS 48
abbrev s_l_first_enough : Stmt := topS 49
abbrev s_l_squared : Stmt := topS 50
abbrev s_l_least_diagonal : Stmt := topS 51
abbrev s_l_offsets : Stmt := topS 52
abbrev s_l_spaced : Stmt := topS 53
abbrev s_l_do_cross : Stmt := topS 54
abbrev s_l_first_crossing : Stmt := topS 55
abbrev s_l_uncrossed : Stmt := topS 56
abbrev s_l_legs : Stmt := topS 57
abbrev s_l_corners : Stmt := topS 58
abbrev s_l_gap : Stmt := topS 59
abbrev s_l_dot : Stmt := topS 60
abbrev s_l_gap_squared : Stmt := topS 61
abbrev s_l_on_edge : Stmt := topS 62
abbrev s_l_are_less : Stmt := topS 63
abbrev s_l_inner_point : Stmt := topS 64
abbrev s_l_nearest : Stmt := topS 65
abbrev s_l_least_ticks : Stmt := topS 66
abbrev s_l_is_bad : Stmt := topS 67
abbrev s_law : Stmt := topS 68
abbrev R : PySem.W.OpenRow := PySem.W.OpenLaw.row PySem.Challenge.rw_lampsaloft_k44_whole_every_crossless_fli
def d_reduced : He.DefD := ⟨("reduced", none), "reduced", "reduced", defArgs s_reduced, defBody s_reduced, defScope s_reduced, [], []⟩
def d_added : He.DefD := ⟨("added", none), "added", "added", defArgs s_added, defBody s_added, defScope s_added, [], []⟩
def d_lessened : He.DefD := ⟨("lessened", none), "lessened", "lessened", defArgs s_lessened, defBody s_lessened, defScope s_lessened, [], []⟩
def d_times : He.DefD := ⟨("times", none), "times", "times", defArgs s_times, defBody s_times, defScope s_times, [], []⟩
def d_over : He.DefD := ⟨("over", none), "over", "over", defArgs s_over, defBody s_over, defScope s_over, [], []⟩
def d_compared : He.DefD := ⟨("compared", none), "compared", "compared", defArgs s_compared, defBody s_compared, defScope s_compared, [], []⟩
def d_r_of : He.DefD := ⟨("r_of", none), "r_of", "r_of", defArgs s_r_of, defBody s_r_of, defScope s_r_of, [], []⟩
def d_lag_of : He.DefD := ⟨("lag_of", none), "lag_of", "lag_of", defArgs s_lag_of, defBody s_lag_of, defScope s_lag_of, [], []⟩
def d_rho_of : He.DefD := ⟨("rho_of", none), "rho_of", "rho_of", defArgs s_rho_of, defBody s_rho_of, defScope s_rho_of, [], []⟩
def d_is_enough : He.DefD := ⟨("is_enough", none), "is_enough", "is_enough", defArgs s_is_enough, defBody s_is_enough, defScope s_is_enough, [], []⟩
def d_place_on : He.DefD := ⟨("place_on", none), "place_on", "place_on", defArgs s_place_on, defBody s_place_on, defScope s_place_on, [], []⟩
def d_parting : He.DefD := ⟨("parting", none), "parting", "parting", defArgs s_parting, defBody s_parting, defScope s_parting, [], []⟩
def d_dot : He.DefD := ⟨("dot", none), "dot", "dot", defArgs s_dot, defBody s_dot, defScope s_dot, [], []⟩
def d_squared_at : He.DefD := ⟨("squared_at", none), "squared_at", "squared_at", defArgs s_squared_at, defBody s_squared_at, defScope s_squared_at, [], []⟩
def d_ring_of : He.DefD := ⟨("ring_of", none), "ring_of", "ring_of", defArgs s_ring_of, defBody s_ring_of, defScope s_ring_of, [], []⟩
def d_by_parts : He.DefD := ⟨("by_parts", none), "by_parts", "by_parts", defArgs s_by_parts, defBody s_by_parts, defScope s_by_parts, [], []⟩
def d_on_side : He.DefD := ⟨("on_side", none), "on_side", "on_side", defArgs s_on_side, defBody s_on_side, defScope s_on_side, [], []⟩
def d_crossing : He.DefD := ⟨("crossing", none), "crossing", "crossing", defArgs s_crossing, defBody s_crossing, defScope s_crossing, [], []⟩
def d_is_within : He.DefD := ⟨("is_within", none), "is_within", "is_within", defArgs s_is_within, defBody s_is_within, defScope s_is_within, [], []⟩
def d_nearest : He.DefD := ⟨("nearest", none), "nearest", "nearest", defArgs s_nearest, defBody s_nearest, defScope s_nearest, [], []⟩
def d_nearest_of : He.DefD := ⟨("nearest_of", none), "nearest_of", "nearest_of", defArgs s_nearest_of, defBody s_nearest_of, defScope s_nearest_of, [], []⟩
def d_are_apart : He.DefD := ⟨("are_apart", none), "are_apart", "are_apart", defArgs s_are_apart, defBody s_are_apart, defScope s_are_apart, [], []⟩
def d_is_flight_apart : He.DefD := ⟨("is_flight_apart", none), "is_flight_apart", "is_flight_apart", defArgs s_is_flight_apart, defBody s_is_flight_apart, defScope s_is_flight_apart, [], []⟩
def d_l_bag : He.DefD := ⟨("_law_bag", none), "_law_bag", "_law_bag", defArgs s_l_bag, defBody s_l_bag, defScope s_l_bag, [], []⟩
def d_l_take : He.DefD := ⟨("_law_take", none), "_law_take", "_law_take", defArgs s_l_take, defBody s_l_take, defScope s_l_take, [], []⟩
def d_l_some : He.DefD := ⟨("_law_some", none), "_law_some", "_law_some", defArgs s_l_some, defBody s_l_some, defScope s_l_some, [], []⟩
def d_l_mixed : He.DefD := ⟨("_law_mixed", none), "_law_mixed", "_law_mixed", defArgs s_l_mixed, defBody s_l_mixed, defScope s_l_mixed, [], []⟩
def d_l_alike : He.DefD := ⟨("_law_alike", none), "_law_alike", "_law_alike", defArgs s_l_alike, defBody s_l_alike, defScope s_l_alike, [], []⟩
def d_l_over : He.DefD := ⟨("_law_over", none), "_law_over", "_law_over", defArgs s_l_over, defBody s_l_over, defScope s_l_over, [], []⟩
def d_l_added : He.DefD := ⟨("_law_added", none), "_law_added", "_law_added", defArgs s_l_added, defBody s_l_added, defScope s_l_added, [], []⟩
def d_l_lessened : He.DefD := ⟨("_law_lessened", none), "_law_lessened", "_law_lessened", defArgs s_l_lessened, defBody s_l_lessened, defScope s_l_lessened, [], []⟩
def d_l_multiplied : He.DefD := ⟨("_law_multiplied", none), "_law_multiplied", "_law_multiplied", defArgs s_l_multiplied, defBody s_l_multiplied, defScope s_l_multiplied, [], []⟩
def d_l_divided : He.DefD := ⟨("_law_divided", none), "_law_divided", "_law_divided", defArgs s_l_divided, defBody s_l_divided, defScope s_l_divided, [], []⟩
def d_l_is_below : He.DefD := ⟨("_law_is_below", none), "_law_is_below", "_law_is_below", defArgs s_l_is_below, defBody s_l_is_below, defScope s_l_is_below, [], []⟩
def d_l_reach : He.DefD := ⟨("_law_reach", none), "_law_reach", "_law_reach", defArgs s_l_reach, defBody s_l_reach, defScope s_l_reach, [], []⟩
def d_l_lag : He.DefD := ⟨("_law_lag", none), "_law_lag", "_law_lag", defArgs s_l_lag, defBody s_l_lag, defScope s_l_lag, [], []⟩
def d_l_rho : He.DefD := ⟨("_law_rho", none), "_law_rho", "_law_rho", defArgs s_l_rho, defBody s_l_rho, defScope s_l_rho, [], []⟩
def d_l_is_enough : He.DefD := ⟨("_law_is_enough", none), "_law_is_enough", "_law_is_enough", defArgs s_l_is_enough, defBody s_l_is_enough, defScope s_l_is_enough, [], []⟩
def d_l_bounds : He.DefD := ⟨("_law_bounds", none), "_law_bounds", "_law_bounds", defArgs s_l_bounds, defBody s_l_bounds, defScope s_l_bounds, [], []⟩
def d_l_ticks : He.DefD := ⟨("_law_ticks", none), "_law_ticks", "_law_ticks", defArgs s_l_ticks, defBody s_l_ticks, defScope s_l_ticks, [], []⟩
def d_l_first_enough : He.DefD := ⟨("_law_first_enough", none), "_law_first_enough", "_law_first_enough", defArgs s_l_first_enough, defBody s_l_first_enough, defScope s_l_first_enough, [], []⟩
def d_l_squared : He.DefD := ⟨("_law_squared", none), "_law_squared", "_law_squared", defArgs s_l_squared, defBody s_l_squared, defScope s_l_squared, [], []⟩
def d_l_least_diagonal : He.DefD := ⟨("_law_least_diagonal", none), "_law_least_diagonal", "_law_least_diagonal", defArgs s_l_least_diagonal, defBody s_l_least_diagonal, defScope s_l_least_diagonal, [], []⟩
def d_l_offsets : He.DefD := ⟨("_law_offsets", none), "_law_offsets", "_law_offsets", defArgs s_l_offsets, defBody s_l_offsets, defScope s_l_offsets, [], []⟩
def d_l_spaced : He.DefD := ⟨("_law_spaced", none), "_law_spaced", "_law_spaced", defArgs s_l_spaced, defBody s_l_spaced, defScope s_l_spaced, [], []⟩
def d_l_do_cross : He.DefD := ⟨("_law_do_cross", none), "_law_do_cross", "_law_do_cross", defArgs s_l_do_cross, defBody s_l_do_cross, defScope s_l_do_cross, [], []⟩
def d_l_first_crossing : He.DefD := ⟨("_law_first_crossing", none), "_law_first_crossing", "_law_first_crossing", defArgs s_l_first_crossing, defBody s_l_first_crossing, defScope s_l_first_crossing, [], []⟩
def d_l_uncrossed : He.DefD := ⟨("_law_uncrossed", none), "_law_uncrossed", "_law_uncrossed", defArgs s_l_uncrossed, defBody s_l_uncrossed, defScope s_l_uncrossed, [], []⟩
def d_l_legs : He.DefD := ⟨("_law_legs", none), "_law_legs", "_law_legs", defArgs s_l_legs, defBody s_l_legs, defScope s_l_legs, [], []⟩
def d_l_corners : He.DefD := ⟨("_law_corners", none), "_law_corners", "_law_corners", defArgs s_l_corners, defBody s_l_corners, defScope s_l_corners, [], []⟩
def d_l_gap : He.DefD := ⟨("_law_gap", none), "_law_gap", "_law_gap", defArgs s_l_gap, defBody s_l_gap, defScope s_l_gap, [], []⟩
def d_l_dot : He.DefD := ⟨("_law_dot", none), "_law_dot", "_law_dot", defArgs s_l_dot, defBody s_l_dot, defScope s_l_dot, [], []⟩
def d_l_gap_squared : He.DefD := ⟨("_law_gap_squared", none), "_law_gap_squared", "_law_gap_squared", defArgs s_l_gap_squared, defBody s_l_gap_squared, defScope s_l_gap_squared, [], []⟩
def d_l_on_edge : He.DefD := ⟨("_law_on_edge", none), "_law_on_edge", "_law_on_edge", defArgs s_l_on_edge, defBody s_l_on_edge, defScope s_l_on_edge, [], []⟩
def d_l_are_less : He.DefD := ⟨("_law_are_less", none), "_law_are_less", "_law_are_less", defArgs s_l_are_less, defBody s_l_are_less, defScope s_l_are_less, [], []⟩
def d_l_inner_point : He.DefD := ⟨("_law_inner_point", none), "_law_inner_point", "_law_inner_point", defArgs s_l_inner_point, defBody s_l_inner_point, defScope s_l_inner_point, [], []⟩
def d_l_nearest : He.DefD := ⟨("_law_nearest", none), "_law_nearest", "_law_nearest", defArgs s_l_nearest, defBody s_l_nearest, defScope s_l_nearest, [], []⟩
def d_l_least_ticks : He.DefD := ⟨("_law_least_ticks", none), "_law_least_ticks", "_law_least_ticks", defArgs s_l_least_ticks, defBody s_l_least_ticks, defScope s_l_least_ticks, [], []⟩
def d_l_is_bad : He.DefD := ⟨("_law_is_bad", none), "_law_is_bad", "_law_is_bad", defArgs s_l_is_bad, defBody s_l_is_bad, defScope s_l_is_bad, [], []⟩
def d_law : He.DefD := ⟨("law", none), "law", "law", defArgs s_law, defBody s_law, defScope s_law, [], []⟩
def fnA : List He.DefD := [d_reduced, d_added, d_lessened, d_times, d_over, d_compared, d_r_of, d_lag_of, d_rho_of, d_is_enough, d_place_on, d_parting, d_dot, d_squared_at, d_ring_of, d_by_parts, d_on_side, d_crossing, d_is_within, d_nearest, d_nearest_of, d_are_apart, d_is_flight_apart, d_l_bag]
def fnB : List He.DefD := [d_l_take, d_l_some, d_l_mixed, d_l_alike, d_l_over, d_l_added, d_l_lessened, d_l_multiplied, d_l_divided, d_l_is_below, d_l_reach, d_l_lag, d_l_rho, d_l_is_enough, d_l_bounds, d_l_ticks, d_l_first_enough, d_l_squared, d_l_least_diagonal, d_l_offsets, d_l_spaced, d_l_do_cross, d_l_first_crossing, d_l_uncrossed]
def fnC : List He.DefD := [d_l_legs, d_l_corners, d_l_gap, d_l_dot, d_l_gap_squared, d_l_on_edge, d_l_are_less, d_l_inner_point, d_l_nearest, d_l_least_ticks, d_l_is_bad, d_law]
def fn : List He.DefD := fnA ++ (fnB ++ fnC)
def faA : List He.Fa := [.glo "reduced", .glo "added", .glo "lessened", .glo "times", .glo "over", .glo "compared", .glo "r_of", .glo "lag_of", .glo "rho_of", .glo "is_enough", .glo "place_on", .glo "parting", .glo "dot", .glo "squared_at", .glo "ring_of", .glo "by_parts", .glo "on_side", .glo "crossing", .glo "is_within", .glo "nearest", .glo "nearest_of", .glo "are_apart", .glo "is_flight_apart", .glo "_law_bag", .glo "_law_take", .glo "_law_some", .glo "_law_mixed", .glo "_law_alike", .glo "_law_over", .glo "_law_added"]
def faB : List He.Fa := [.glo "_law_lessened", .glo "_law_multiplied", .glo "_law_divided", .glo "_law_is_below", .glo "_law_reach", .glo "_law_lag", .glo "_law_rho", .glo "_law_is_enough", .glo "_law_bounds", .glo "_law_ticks", .glo "_law_first_enough", .glo "_law_squared", .glo "_law_least_diagonal", .glo "_law_offsets", .glo "_law_spaced", .glo "_law_do_cross", .glo "_law_first_crossing", .glo "_law_uncrossed", .glo "_law_legs", .glo "_law_corners", .glo "_law_gap", .glo "_law_dot", .glo "_law_gap_squared", .glo "_law_on_edge", .glo "_law_are_less", .glo "_law_inner_point", .glo "_law_nearest", .glo "_law_least_ticks", .glo "_law_is_bad", .glo "law", .glo "NOUGHT", .glo "ONE"]
def faC : List He.Fa := [.free "int", .free "zip", .free "tuple", .free "all", .free "abs", .free "enumerate", .free "len", .free "repr", .free "max", .free "range", .free "list", .free "min"]
def fa : List He.Fa := faA ++ (faB ++ faC)
def exB (K : PySem.W.Frag) : Bool := He.eqO (PySem.W.nsIn K mainGlobals "gcd") (some (some (.builtin "math.gcd"))) && (He.tupB K "NOUGHT" [.int 0, .int 1] && He.tupB K "ONE" [.int 1, .int 1])
abbrev hk : PySem.W.Hook := He.hookX 4 fa fn [] [] exB
def ob (s : PySem.W.SharedT) : He.AlX := He.obsX 4 fa fn [] [] exB (HandSHeadRun.getT s)
theorem ob_eq (s : PySem.W.SharedT) : ob s = hk.obs s.abs := He.obsX_eq (HandSHeadRun.getT_eq s)
def looseA : List PySem.Str := ["reduced", "added", "lessened", "times", "over", "compared", "r_of", "lag_of", "rho_of", "is_enough", "NOUGHT", "ONE", "place_on", "parting", "dot", "squared_at", "ring_of", "by_parts", "on_side", "crossing", "is_within", "nearest", "nearest_of", "are_apart", "is_flight_apart"]
def looseB : List PySem.Str := ["_law_bag", "_law_take", "_law_some", "_law_mixed", "_law_alike", "_law_over", "_law_added", "_law_lessened", "_law_multiplied", "_law_divided", "_law_is_below", "_law_reach", "_law_lag", "_law_rho", "_law_is_enough", "_law_bounds", "_law_ticks", "_law_first_enough", "_law_squared", "_law_least_diagonal", "_law_offsets", "_law_spaced", "_law_do_cross", "_law_first_crossing", "_law_uncrossed"]
def looseC : List PySem.Str := ["_law_legs", "_law_corners", "_law_gap", "_law_dot", "_law_gap_squared", "_law_on_edge", "_law_are_less", "_law_inner_point", "_law_nearest", "_law_least_ticks", "_law_is_bad"]
def loose : List PySem.Str := looseA ++ (looseB ++ looseC)
abbrev qv : Program := PySem.W.view R.prog [0, 68]
theorem run (w : World) : HandSHeadRun.RunEqI R qv hk ob 8000 loose w := by
  unfold HandSHeadRun.RunEqI
  kernel_rfl
end Lz
open PySem PySem.W PySem.Calls PyProof.Rows
theorem k44_holds (hF : ∀ (w : World) (mg : PySem.Str → Option Value) (fa : Addr) (h : Heap) (K : PySem.W.Frag), K.In h → He.SaysX Lz.fa Lz.fn [] [] Lz.exB w h K → h.Ns mainGlobals mg → mg ("law" : PySem.Str) = some (.ref fa) →
   ∃ (fd : FuncData) (sp : L2.Sp), (∀ (s : Shared) (u : Value), BindsTo s fd ⟨[u], []⟩ [("_law_script", u)]) ∧
        (∀ (H : L2.Hp) (a : Addr) (ns : List Int), ns.length ≤ 63 → L2.Only H → L2.SqL K H a (ns.map L2.V.int) → sp [.ref a] H (fun v _ => v = .bl true) fun _ _ _ => False) ∧
        ∀ base : Heap, K.In base → base.Ns mainGlobals mg → L2.FnOk (PySem.Challenge.rw_lampsaloft_k44_whole_every_crossless_fli).prog w K mg base L2.CX0 12 fa fd ["_law_script"] sp) : PySem.Challenge.rw_lampsaloft_k44_whole_every_crossless_fli.Holds := by
  w_on; o_law
  refine HandSHeadRun.head_imp (r := OpenLaw.row PySem.Challenge.rw_lampsaloft_k44_whole_every_crossless_fli) (q := Lz.qv) (H := Lz.hk) (ob := Lz.ob) (M := 8000) (loose := Lz.loose) (d := HandSHeadRun.topDef (OpenLaw.row PySem.Challenge.rw_lampsaloft_k44_whole_every_crossless_fli).prog 68) (kwd := []) Lz.ob_eq
    Lz.run (by kernel_rfl) (by kernel_rfl) (by kernel_rfl) (by rfl) (by first | assumption | decide +kernel) (by decide +kernel) ⟨rfl, rfl, rfl, rfl, rfl, by decide +kernel⟩ ?hw ?hc
  case hw => w_witness2
  case hc =>
    refine L2.walk_ofE (l := PySem.Challenge.rw_lampsaloft_k44_whole_every_crossless_fli) (n := 63) (k := 12) (x := "_law_script") (CX := L2.CX0) rfl (by decide) (by kernel_rfl) ⟨rfl, by decide, by decide⟩ ?F (fun _ _ _ _ z => z)
    intro w mg fa h Y G hmg0
    obtain ⟨K, KX, c⟩ := Y
    have hmg : mg ("law" : PySem.Str) = some (.ref fa) := by
      have e : (HandSHeadRun.topDef (OpenLaw.row PySem.Challenge.rw_lampsaloft_k44_whole_every_crossless_fli).prog 68).name = ("law" : PySem.Str) := by kernel_rfl
      rw [← e]
      exact hmg0
    obtain ⟨fd, sp, hb, hsp, hF⟩ := hF w mg fa h K KX c G hmg
    exact ⟨K, fd, sp, KX, hb, hsp, hF⟩
end
section
set_option Elab.async false
set_option linter.all false
set_option maxRecDepth 100000
set_option maxHeartbeats 0
namespace Wk
open PySem PySem.Spec PyProof.Rows L2
abbrev rwP : Program := (PySem.Challenge.rw_lampsaloft_k44_whole_every_crossless_fli).prog
theorem head_facts (w : World) (mg : Str → Option Value) (fa : Addr) (h : Heap) (K : PySem.W.Frag) (KX : K.In h) (c : He.SaysX Lz.fa Lz.fn [] [] Lz.exB w h K) (G : h.Ns mainGlobals mg) (hlaw : mg ("law" : Str) = some (.ref fa)) :
    ∃ (fd : FuncData) (sp : Sp), (∀ (s : Shared) (u : Value), BindsTo s fd ⟨[u], []⟩ [("_law_script", u)]) ∧
      (∀ (H : Hp) (a : Addr) (ns : List Int), ns.length ≤ 63 → Only H → SqL K H a (ns.map V.int) → sp [.ref a] H (fun v _ => v = .bl true) fun _ _ _ => False) ∧
      ∀ base : Heap, K.In base → base.Ns mainGlobals mg → FnOk rwP w K mg base CX0 12 fa fd ["_law_script"] sp := by
  have hex := c.more
  unfold Lz.exB at hex
  rw [Bool.and_eq_true, Bool.and_eq_true] at hex
  obtain ⟨hg, hN, hO⟩ := hex
  have m_gcd : mg ("gcd" : Str) = some (.builtin "math.gcd") := PySem.W.mg_of KX G (He.eqO_ok hg)
  have h_N : Tup2 K mg "NOUGHT" 0 1 := ⟨He.ga K "NOUGHT", He.glo_ok KX G (c.t.d.fact 60), fun H => He.tupB_ok hN H⟩
  have h_O : Tup2 K mg "ONE" 1 1 := ⟨He.ga K "ONE", He.glo_ok KX G (c.t.d.fact 61), fun H => He.tupB_ok hO H⟩
  have m_abs : mg ("abs" : Str) = none := He.free_ok KX G (c.t.d.fact 66)
  have m_all : mg ("all" : Str) = none := He.free_ok KX G (c.t.d.fact 65)
  have m_enumerate : mg ("enumerate" : Str) = none := He.free_ok KX G (c.t.d.fact 67)
  have m_int : mg ("int" : Str) = none := He.free_ok KX G (c.t.d.fact 62)
  have m_len : mg ("len" : Str) = none := He.free_ok KX G (c.t.d.fact 68)
  have m_list : mg ("list" : Str) = none := He.free_ok KX G (c.t.d.fact 72)
  have m_max : mg ("max" : Str) = none := He.free_ok KX G (c.t.d.fact 70)
  have m_min : mg ("min" : Str) = none := He.free_ok KX G (c.t.d.fact 73)
  have m_range : mg ("range" : Str) = none := He.free_ok KX G (c.t.d.fact 71)
  have m_repr : mg ("repr" : Str) = none := He.free_ok KX G (c.t.d.fact 69)
  have m_tuple : mg ("tuple" : Str) = none := He.free_ok KX G (c.t.d.fact 64)
  have m_zip : mg ("zip" : Str) = none := He.free_ok KX G (c.t.d.fact 63)
  obtain ⟨fd_reduced, F_reduced⟩ := c.t.d.def_ 0 (d := Lz.d_reduced)
  have F_reduced : FnP K "reduced" s_reduced (He.ga K "reduced") fd_reduced := F_reduced
  have g_reduced : mg ("reduced" : Str) = some (.ref (He.ga K "reduced")) := He.glo_ok KX G (c.t.d.fact 0)
  obtain ⟨fd_added, F_added⟩ := c.t.d.def_ 1 (d := Lz.d_added)
  have F_added : FnP K "added" s_added (He.ga K "added") fd_added := F_added
  have g_added : mg ("added" : Str) = some (.ref (He.ga K "added")) := He.glo_ok KX G (c.t.d.fact 1)
  obtain ⟨fd_lessened, F_lessened⟩ := c.t.d.def_ 2 (d := Lz.d_lessened)
  have F_lessened : FnP K "lessened" s_lessened (He.ga K "lessened") fd_lessened := F_lessened
  have g_lessened : mg ("lessened" : Str) = some (.ref (He.ga K "lessened")) := He.glo_ok KX G (c.t.d.fact 2)
  obtain ⟨fd_times, F_times⟩ := c.t.d.def_ 3 (d := Lz.d_times)
  have F_times : FnP K "times" s_times (He.ga K "times") fd_times := F_times
  have g_times : mg ("times" : Str) = some (.ref (He.ga K "times")) := He.glo_ok KX G (c.t.d.fact 3)
  obtain ⟨fd_over, F_over⟩ := c.t.d.def_ 4 (d := Lz.d_over)
  have F_over : FnP K "over" s_over (He.ga K "over") fd_over := F_over
  have g_over : mg ("over" : Str) = some (.ref (He.ga K "over")) := He.glo_ok KX G (c.t.d.fact 4)
  obtain ⟨fd_compared, F_compared⟩ := c.t.d.def_ 5 (d := Lz.d_compared)
  have F_compared : FnP K "compared" s_compared (He.ga K "compared") fd_compared := F_compared
  have g_compared : mg ("compared" : Str) = some (.ref (He.ga K "compared")) := He.glo_ok KX G (c.t.d.fact 5)
  obtain ⟨fd_r_of, F_r_of⟩ := c.t.d.def_ 6 (d := Lz.d_r_of)
  have F_r_of : FnP K "r_of" s_r_of (He.ga K "r_of") fd_r_of := F_r_of
  have g_r_of : mg ("r_of" : Str) = some (.ref (He.ga K "r_of")) := He.glo_ok KX G (c.t.d.fact 6)
  obtain ⟨fd_lag_of, F_lag_of⟩ := c.t.d.def_ 7 (d := Lz.d_lag_of)
  have F_lag_of : FnP K "lag_of" s_lag_of (He.ga K "lag_of") fd_lag_of := F_lag_of
  have g_lag_of : mg ("lag_of" : Str) = some (.ref (He.ga K "lag_of")) := He.glo_ok KX G (c.t.d.fact 7)
  obtain ⟨fd_rho_of, F_rho_of⟩ := c.t.d.def_ 8 (d := Lz.d_rho_of)
  have F_rho_of : FnP K "rho_of" s_rho_of (He.ga K "rho_of") fd_rho_of := F_rho_of
  have g_rho_of : mg ("rho_of" : Str) = some (.ref (He.ga K "rho_of")) := He.glo_ok KX G (c.t.d.fact 8)
  obtain ⟨fd_is_enough, F_is_enough⟩ := c.t.d.def_ 9 (d := Lz.d_is_enough)
  have F_is_enough : FnP K "is_enough" s_is_enough (He.ga K "is_enough") fd_is_enough := F_is_enough
  have g_is_enough : mg ("is_enough" : Str) = some (.ref (He.ga K "is_enough")) := He.glo_ok KX G (c.t.d.fact 9)
  obtain ⟨fd_place_on, F_place_on⟩ := c.t.d.def_ 10 (d := Lz.d_place_on)
  have F_place_on : FnP K "place_on" s_place_on (He.ga K "place_on") fd_place_on := F_place_on
  have g_place_on : mg ("place_on" : Str) = some (.ref (He.ga K "place_on")) := He.glo_ok KX G (c.t.d.fact 10)
  obtain ⟨fd_parting, F_parting⟩ := c.t.d.def_ 11 (d := Lz.d_parting)
  have F_parting : FnP K "parting" s_parting (He.ga K "parting") fd_parting := F_parting
  have g_parting : mg ("parting" : Str) = some (.ref (He.ga K "parting")) := He.glo_ok KX G (c.t.d.fact 11)
  obtain ⟨fd_dot, F_dot⟩ := c.t.d.def_ 12 (d := Lz.d_dot)
  have F_dot : FnP K "dot" s_dot (He.ga K "dot") fd_dot := F_dot
  have g_dot : mg ("dot" : Str) = some (.ref (He.ga K "dot")) := He.glo_ok KX G (c.t.d.fact 12)
  obtain ⟨fd_squared_at, F_squared_at⟩ := c.t.d.def_ 13 (d := Lz.d_squared_at)
  have F_squared_at : FnP K "squared_at" s_squared_at (He.ga K "squared_at") fd_squared_at := F_squared_at
  have g_squared_at : mg ("squared_at" : Str) = some (.ref (He.ga K "squared_at")) := He.glo_ok KX G (c.t.d.fact 13)
  obtain ⟨fd_ring_of, F_ring_of⟩ := c.t.d.def_ 14 (d := Lz.d_ring_of)
  have F_ring_of : FnP K "ring_of" s_ring_of (He.ga K "ring_of") fd_ring_of := F_ring_of
  have g_ring_of : mg ("ring_of" : Str) = some (.ref (He.ga K "ring_of")) := He.glo_ok KX G (c.t.d.fact 14)
  obtain ⟨fd_by_parts, F_by_parts⟩ := c.t.d.def_ 15 (d := Lz.d_by_parts)
  have F_by_parts : FnP K "by_parts" s_by_parts (He.ga K "by_parts") fd_by_parts := F_by_parts
  have g_by_parts : mg ("by_parts" : Str) = some (.ref (He.ga K "by_parts")) := He.glo_ok KX G (c.t.d.fact 15)
  obtain ⟨fd_on_side, F_on_side⟩ := c.t.d.def_ 16 (d := Lz.d_on_side)
  have F_on_side : FnP K "on_side" s_on_side (He.ga K "on_side") fd_on_side := F_on_side
  have g_on_side : mg ("on_side" : Str) = some (.ref (He.ga K "on_side")) := He.glo_ok KX G (c.t.d.fact 16)
  obtain ⟨fd_crossing, F_crossing⟩ := c.t.d.def_ 17 (d := Lz.d_crossing)
  have F_crossing : FnP K "crossing" s_crossing (He.ga K "crossing") fd_crossing := F_crossing
  have g_crossing : mg ("crossing" : Str) = some (.ref (He.ga K "crossing")) := He.glo_ok KX G (c.t.d.fact 17)
  obtain ⟨fd_is_within, F_is_within⟩ := c.t.d.def_ 18 (d := Lz.d_is_within)
  have F_is_within : FnP K "is_within" s_is_within (He.ga K "is_within") fd_is_within := F_is_within
  have g_is_within : mg ("is_within" : Str) = some (.ref (He.ga K "is_within")) := He.glo_ok KX G (c.t.d.fact 18)
  obtain ⟨fd_nearest, F_nearest⟩ := c.t.d.def_ 19 (d := Lz.d_nearest)
  have F_nearest : FnP K "nearest" s_nearest (He.ga K "nearest") fd_nearest := F_nearest
  have g_nearest : mg ("nearest" : Str) = some (.ref (He.ga K "nearest")) := He.glo_ok KX G (c.t.d.fact 19)
  obtain ⟨fd_nearest_of, F_nearest_of⟩ := c.t.d.def_ 20 (d := Lz.d_nearest_of)
  have F_nearest_of : FnP K "nearest_of" s_nearest_of (He.ga K "nearest_of") fd_nearest_of := F_nearest_of
  have g_nearest_of : mg ("nearest_of" : Str) = some (.ref (He.ga K "nearest_of")) := He.glo_ok KX G (c.t.d.fact 20)
  obtain ⟨fd_are_apart, F_are_apart⟩ := c.t.d.def_ 21 (d := Lz.d_are_apart)
  have F_are_apart : FnP K "are_apart" s_are_apart (He.ga K "are_apart") fd_are_apart := F_are_apart
  have g_are_apart : mg ("are_apart" : Str) = some (.ref (He.ga K "are_apart")) := He.glo_ok KX G (c.t.d.fact 21)
  obtain ⟨fd_is_flight_apart, F_is_flight_apart⟩ := c.t.d.def_ 22 (d := Lz.d_is_flight_apart)
  have F_is_flight_apart : FnP K "is_flight_apart" s_is_flight_apart (He.ga K "is_flight_apart") fd_is_flight_apart := F_is_flight_apart
  have g_is_flight_apart : mg ("is_flight_apart" : Str) = some (.ref (He.ga K "is_flight_apart")) := He.glo_ok KX G (c.t.d.fact 22)
  obtain ⟨fd_l_bag, F_l_bag⟩ := c.t.d.def_ 23 (d := Lz.d_l_bag)
  have F_l_bag : FnP K "_law_bag" s_l_bag (He.ga K "_law_bag") fd_l_bag := F_l_bag
  have g_l_bag : mg ("_law_bag" : Str) = some (.ref (He.ga K "_law_bag")) := He.glo_ok KX G (c.t.d.fact 23)
  obtain ⟨fd_l_take, F_l_take⟩ := c.t.d.def_ 24 (d := Lz.d_l_take)
  have F_l_take : FnP K "_law_take" s_l_take (He.ga K "_law_take") fd_l_take := F_l_take
  have g_l_take : mg ("_law_take" : Str) = some (.ref (He.ga K "_law_take")) := He.glo_ok KX G (c.t.d.fact 24)
  obtain ⟨fd_l_some, F_l_some⟩ := c.t.d.def_ 25 (d := Lz.d_l_some)
  have F_l_some : FnP K "_law_some" s_l_some (He.ga K "_law_some") fd_l_some := F_l_some
  have g_l_some : mg ("_law_some" : Str) = some (.ref (He.ga K "_law_some")) := He.glo_ok KX G (c.t.d.fact 25)
  obtain ⟨fd_l_mixed, F_l_mixed⟩ := c.t.d.def_ 26 (d := Lz.d_l_mixed)
  have F_l_mixed : FnP K "_law_mixed" s_l_mixed (He.ga K "_law_mixed") fd_l_mixed := F_l_mixed
  have g_l_mixed : mg ("_law_mixed" : Str) = some (.ref (He.ga K "_law_mixed")) := He.glo_ok KX G (c.t.d.fact 26)
  obtain ⟨fd_l_alike, F_l_alike⟩ := c.t.d.def_ 27 (d := Lz.d_l_alike)
  have F_l_alike : FnP K "_law_alike" s_l_alike (He.ga K "_law_alike") fd_l_alike := F_l_alike
  have g_l_alike : mg ("_law_alike" : Str) = some (.ref (He.ga K "_law_alike")) := He.glo_ok KX G (c.t.d.fact 27)
  obtain ⟨fd_l_over, F_l_over⟩ := c.t.d.def_ 28 (d := Lz.d_l_over)
  have F_l_over : FnP K "_law_over" s_l_over (He.ga K "_law_over") fd_l_over := F_l_over
  have g_l_over : mg ("_law_over" : Str) = some (.ref (He.ga K "_law_over")) := He.glo_ok KX G (c.t.d.fact 28)
  obtain ⟨fd_l_added, F_l_added⟩ := c.t.d.def_ 29 (d := Lz.d_l_added)
  have F_l_added : FnP K "_law_added" s_l_added (He.ga K "_law_added") fd_l_added := F_l_added
  have g_l_added : mg ("_law_added" : Str) = some (.ref (He.ga K "_law_added")) := He.glo_ok KX G (c.t.d.fact 29)
  obtain ⟨fd_l_lessened, F_l_lessened⟩ := c.t.d.def_ 30 (d := Lz.d_l_lessened)
  have F_l_lessened : FnP K "_law_lessened" s_l_lessened (He.ga K "_law_lessened") fd_l_lessened := F_l_lessened
  have g_l_lessened : mg ("_law_lessened" : Str) = some (.ref (He.ga K "_law_lessened")) := He.glo_ok KX G (c.t.d.fact 30)
  obtain ⟨fd_l_multiplied, F_l_multiplied⟩ := c.t.d.def_ 31 (d := Lz.d_l_multiplied)
  have F_l_multiplied : FnP K "_law_multiplied" s_l_multiplied (He.ga K "_law_multiplied") fd_l_multiplied := F_l_multiplied
  have g_l_multiplied : mg ("_law_multiplied" : Str) = some (.ref (He.ga K "_law_multiplied")) := He.glo_ok KX G (c.t.d.fact 31)
  obtain ⟨fd_l_divided, F_l_divided⟩ := c.t.d.def_ 32 (d := Lz.d_l_divided)
  have F_l_divided : FnP K "_law_divided" s_l_divided (He.ga K "_law_divided") fd_l_divided := F_l_divided
  have g_l_divided : mg ("_law_divided" : Str) = some (.ref (He.ga K "_law_divided")) := He.glo_ok KX G (c.t.d.fact 32)
  obtain ⟨fd_l_is_below, F_l_is_below⟩ := c.t.d.def_ 33 (d := Lz.d_l_is_below)
  have F_l_is_below : FnP K "_law_is_below" s_l_is_below (He.ga K "_law_is_below") fd_l_is_below := F_l_is_below
  have g_l_is_below : mg ("_law_is_below" : Str) = some (.ref (He.ga K "_law_is_below")) := He.glo_ok KX G (c.t.d.fact 33)
  obtain ⟨fd_l_reach, F_l_reach⟩ := c.t.d.def_ 34 (d := Lz.d_l_reach)
  have F_l_reach : FnP K "_law_reach" s_l_reach (He.ga K "_law_reach") fd_l_reach := F_l_reach
  have g_l_reach : mg ("_law_reach" : Str) = some (.ref (He.ga K "_law_reach")) := He.glo_ok KX G (c.t.d.fact 34)
  obtain ⟨fd_l_lag, F_l_lag⟩ := c.t.d.def_ 35 (d := Lz.d_l_lag)
  have F_l_lag : FnP K "_law_lag" s_l_lag (He.ga K "_law_lag") fd_l_lag := F_l_lag
  have g_l_lag : mg ("_law_lag" : Str) = some (.ref (He.ga K "_law_lag")) := He.glo_ok KX G (c.t.d.fact 35)
  obtain ⟨fd_l_rho, F_l_rho⟩ := c.t.d.def_ 36 (d := Lz.d_l_rho)
  have F_l_rho : FnP K "_law_rho" s_l_rho (He.ga K "_law_rho") fd_l_rho := F_l_rho
  have g_l_rho : mg ("_law_rho" : Str) = some (.ref (He.ga K "_law_rho")) := He.glo_ok KX G (c.t.d.fact 36)
  obtain ⟨fd_l_is_enough, F_l_is_enough⟩ := c.t.d.def_ 37 (d := Lz.d_l_is_enough)
  have F_l_is_enough : FnP K "_law_is_enough" s_l_is_enough (He.ga K "_law_is_enough") fd_l_is_enough := F_l_is_enough
  have g_l_is_enough : mg ("_law_is_enough" : Str) = some (.ref (He.ga K "_law_is_enough")) := He.glo_ok KX G (c.t.d.fact 37)
  obtain ⟨fd_l_bounds, F_l_bounds⟩ := c.t.d.def_ 38 (d := Lz.d_l_bounds)
  have F_l_bounds : FnP K "_law_bounds" s_l_bounds (He.ga K "_law_bounds") fd_l_bounds := F_l_bounds
  have g_l_bounds : mg ("_law_bounds" : Str) = some (.ref (He.ga K "_law_bounds")) := He.glo_ok KX G (c.t.d.fact 38)
  obtain ⟨fd_l_ticks, F_l_ticks⟩ := c.t.d.def_ 39 (d := Lz.d_l_ticks)
  have F_l_ticks : FnP K "_law_ticks" s_l_ticks (He.ga K "_law_ticks") fd_l_ticks := F_l_ticks
  have g_l_ticks : mg ("_law_ticks" : Str) = some (.ref (He.ga K "_law_ticks")) := He.glo_ok KX G (c.t.d.fact 39)
  obtain ⟨fd_l_first_enough, F_l_first_enough⟩ := c.t.d.def_ 40 (d := Lz.d_l_first_enough)
  have F_l_first_enough : FnP K "_law_first_enough" s_l_first_enough (He.ga K "_law_first_enough") fd_l_first_enough := F_l_first_enough
  have g_l_first_enough : mg ("_law_first_enough" : Str) = some (.ref (He.ga K "_law_first_enough")) := He.glo_ok KX G (c.t.d.fact 40)
  obtain ⟨fd_l_squared, F_l_squared⟩ := c.t.d.def_ 41 (d := Lz.d_l_squared)
  have F_l_squared : FnP K "_law_squared" s_l_squared (He.ga K "_law_squared") fd_l_squared := F_l_squared
  have g_l_squared : mg ("_law_squared" : Str) = some (.ref (He.ga K "_law_squared")) := He.glo_ok KX G (c.t.d.fact 41)
  obtain ⟨fd_l_least_diagonal, F_l_least_diagonal⟩ := c.t.d.def_ 42 (d := Lz.d_l_least_diagonal)
  have F_l_least_diagonal : FnP K "_law_least_diagonal" s_l_least_diagonal (He.ga K "_law_least_diagonal") fd_l_least_diagonal := F_l_least_diagonal
  have g_l_least_diagonal : mg ("_law_least_diagonal" : Str) = some (.ref (He.ga K "_law_least_diagonal")) := He.glo_ok KX G (c.t.d.fact 42)
  obtain ⟨fd_l_offsets, F_l_offsets⟩ := c.t.d.def_ 43 (d := Lz.d_l_offsets)
  have F_l_offsets : FnP K "_law_offsets" s_l_offsets (He.ga K "_law_offsets") fd_l_offsets := F_l_offsets
  have g_l_offsets : mg ("_law_offsets" : Str) = some (.ref (He.ga K "_law_offsets")) := He.glo_ok KX G (c.t.d.fact 43)
  obtain ⟨fd_l_spaced, F_l_spaced⟩ := c.t.d.def_ 44 (d := Lz.d_l_spaced)
  have F_l_spaced : FnP K "_law_spaced" s_l_spaced (He.ga K "_law_spaced") fd_l_spaced := F_l_spaced
  have g_l_spaced : mg ("_law_spaced" : Str) = some (.ref (He.ga K "_law_spaced")) := He.glo_ok KX G (c.t.d.fact 44)
  obtain ⟨fd_l_do_cross, F_l_do_cross⟩ := c.t.d.def_ 45 (d := Lz.d_l_do_cross)
  have F_l_do_cross : FnP K "_law_do_cross" s_l_do_cross (He.ga K "_law_do_cross") fd_l_do_cross := F_l_do_cross
  have g_l_do_cross : mg ("_law_do_cross" : Str) = some (.ref (He.ga K "_law_do_cross")) := He.glo_ok KX G (c.t.d.fact 45)
  obtain ⟨fd_l_first_crossing, F_l_first_crossing⟩ := c.t.d.def_ 46 (d := Lz.d_l_first_crossing)
  have F_l_first_crossing : FnP K "_law_first_crossing" s_l_first_crossing (He.ga K "_law_first_crossing") fd_l_first_crossing := F_l_first_crossing
  have g_l_first_crossing : mg ("_law_first_crossing" : Str) = some (.ref (He.ga K "_law_first_crossing")) := He.glo_ok KX G (c.t.d.fact 46)
  obtain ⟨fd_l_uncrossed, F_l_uncrossed⟩ := c.t.d.def_ 47 (d := Lz.d_l_uncrossed)
  have F_l_uncrossed : FnP K "_law_uncrossed" s_l_uncrossed (He.ga K "_law_uncrossed") fd_l_uncrossed := F_l_uncrossed
  have g_l_uncrossed : mg ("_law_uncrossed" : Str) = some (.ref (He.ga K "_law_uncrossed")) := He.glo_ok KX G (c.t.d.fact 47)
  obtain ⟨fd_l_legs, F_l_legs⟩ := c.t.d.def_ 48 (d := Lz.d_l_legs)
  have F_l_legs : FnP K "_law_legs" s_l_legs (He.ga K "_law_legs") fd_l_legs := F_l_legs
  have g_l_legs : mg ("_law_legs" : Str) = some (.ref (He.ga K "_law_legs")) := He.glo_ok KX G (c.t.d.fact 48)
  obtain ⟨fd_l_corners, F_l_corners⟩ := c.t.d.def_ 49 (d := Lz.d_l_corners)
  have F_l_corners : FnP K "_law_corners" s_l_corners (He.ga K "_law_corners") fd_l_corners := F_l_corners
  have g_l_corners : mg ("_law_corners" : Str) = some (.ref (He.ga K "_law_corners")) := He.glo_ok KX G (c.t.d.fact 49)
  obtain ⟨fd_l_gap, F_l_gap⟩ := c.t.d.def_ 50 (d := Lz.d_l_gap)
  have F_l_gap : FnP K "_law_gap" s_l_gap (He.ga K "_law_gap") fd_l_gap := F_l_gap
  have g_l_gap : mg ("_law_gap" : Str) = some (.ref (He.ga K "_law_gap")) := He.glo_ok KX G (c.t.d.fact 50)
  obtain ⟨fd_l_dot, F_l_dot⟩ := c.t.d.def_ 51 (d := Lz.d_l_dot)
  have F_l_dot : FnP K "_law_dot" s_l_dot (He.ga K "_law_dot") fd_l_dot := F_l_dot
  have g_l_dot : mg ("_law_dot" : Str) = some (.ref (He.ga K "_law_dot")) := He.glo_ok KX G (c.t.d.fact 51)
  obtain ⟨fd_l_gap_squared, F_l_gap_squared⟩ := c.t.d.def_ 52 (d := Lz.d_l_gap_squared)
  have F_l_gap_squared : FnP K "_law_gap_squared" s_l_gap_squared (He.ga K "_law_gap_squared") fd_l_gap_squared := F_l_gap_squared
  have g_l_gap_squared : mg ("_law_gap_squared" : Str) = some (.ref (He.ga K "_law_gap_squared")) := He.glo_ok KX G (c.t.d.fact 52)
  obtain ⟨fd_l_on_edge, F_l_on_edge⟩ := c.t.d.def_ 53 (d := Lz.d_l_on_edge)
  have F_l_on_edge : FnP K "_law_on_edge" s_l_on_edge (He.ga K "_law_on_edge") fd_l_on_edge := F_l_on_edge
  have g_l_on_edge : mg ("_law_on_edge" : Str) = some (.ref (He.ga K "_law_on_edge")) := He.glo_ok KX G (c.t.d.fact 53)
  obtain ⟨fd_l_are_less, F_l_are_less⟩ := c.t.d.def_ 54 (d := Lz.d_l_are_less)
  have F_l_are_less : FnP K "_law_are_less" s_l_are_less (He.ga K "_law_are_less") fd_l_are_less := F_l_are_less
  have g_l_are_less : mg ("_law_are_less" : Str) = some (.ref (He.ga K "_law_are_less")) := He.glo_ok KX G (c.t.d.fact 54)
  obtain ⟨fd_l_inner_point, F_l_inner_point⟩ := c.t.d.def_ 55 (d := Lz.d_l_inner_point)
  have F_l_inner_point : FnP K "_law_inner_point" s_l_inner_point (He.ga K "_law_inner_point") fd_l_inner_point := F_l_inner_point
  have g_l_inner_point : mg ("_law_inner_point" : Str) = some (.ref (He.ga K "_law_inner_point")) := He.glo_ok KX G (c.t.d.fact 55)
  obtain ⟨fd_l_nearest, F_l_nearest⟩ := c.t.d.def_ 56 (d := Lz.d_l_nearest)
  have F_l_nearest : FnP K "_law_nearest" s_l_nearest (He.ga K "_law_nearest") fd_l_nearest := F_l_nearest
  have g_l_nearest : mg ("_law_nearest" : Str) = some (.ref (He.ga K "_law_nearest")) := He.glo_ok KX G (c.t.d.fact 56)
  obtain ⟨fd_l_least_ticks, F_l_least_ticks⟩ := c.t.d.def_ 57 (d := Lz.d_l_least_ticks)
  have F_l_least_ticks : FnP K "_law_least_ticks" s_l_least_ticks (He.ga K "_law_least_ticks") fd_l_least_ticks := F_l_least_ticks
  have g_l_least_ticks : mg ("_law_least_ticks" : Str) = some (.ref (He.ga K "_law_least_ticks")) := He.glo_ok KX G (c.t.d.fact 57)
  obtain ⟨fd_l_is_bad, F_l_is_bad⟩ := c.t.d.def_ 58 (d := Lz.d_l_is_bad)
  have F_l_is_bad : FnP K "_law_is_bad" s_l_is_bad (He.ga K "_law_is_bad") fd_l_is_bad := F_l_is_bad
  have g_l_is_bad : mg ("_law_is_bad" : Str) = some (.ref (He.ga K "_law_is_bad")) := He.glo_ok KX G (c.t.d.fact 58)
  obtain ⟨fd_law, F_law⟩ := c.t.d.def_ 59 (d := Lz.d_law)
  have F_law : FnP K "law" s_law (He.ga K "law") fd_law := F_law
  have g_law : mg ("law" : Str) = some (.ref (He.ga K "law")) := He.glo_ok KX G (c.t.d.fact 59)
  have efa : fa = He.ga K "law" := by
    rw [g_law] at hlaw
    exact (Value.ref.inj (Option.some.inj hlaw)).symm
  subst efa
  refine ⟨fd_law, spLaw K, fun s u => F_law.bindsA (ps := ["_law_script"]) (fun _ _ _ _ _ _ us hl => match us, hl with | [_], _ => rfl) s [u] rfl, fun H a ns hl _ hs => ⟨a, ns, rfl, hl, hs, fun v _ e => e⟩, fun base _ _ => ?_⟩
  have c_reduced := cal_reduced (P := rwP) (w := w) (base := base) F_reduced g_reduced m_gcd
  have c_added := cal_added (P := rwP) (w := w) (base := base) F_added g_added c_reduced
  have c_lessened := cal_lessened (P := rwP) (w := w) (base := base) F_lessened g_lessened c_reduced
  have c_times := cal_times (P := rwP) (w := w) (base := base) F_times g_times c_reduced
  have c_over := cal_over (P := rwP) (w := w) (base := base) F_over g_over c_reduced
  have c_compared := cal_compared (P := rwP) (w := w) (base := base) F_compared g_compared m_int
  have c_r_of := cal_r_of (P := rwP) (w := w) (base := base) F_r_of g_r_of
  have c_lag_of := cal_lag_of (P := rwP) (w := w) (base := base) F_lag_of g_lag_of
  have c_rho_of := cal_rho_of (P := rwP) (w := w) (base := base) F_rho_of g_rho_of c_reduced c_lag_of
  have c_is_enough := cal_is_enough (P := rwP) (w := w) (base := base) F_is_enough g_is_enough c_rho_of c_r_of
  have c_place_on := cal_place_on (P := rwP) (w := w) (base := base) F_place_on g_place_on c_added c_times
  have c_parting := cal_parting (P := rwP) (w := w) (base := base) F_parting g_parting c_place_on c_lessened
  have c_dot := cal_dot (P := rwP) (w := w) (base := base) F_dot g_dot c_added c_times
  have c_squared_at := cal_squared_at (P := rwP) (w := w) (base := base) F_squared_at g_squared_at c_parting c_dot
  have c_ring_of := cal_ring_of (P := rwP) (w := w) (base := base) F_ring_of g_ring_of c_lessened h_N h_O
  have c_by_parts := cal_by_parts (P := rwP) (w := w) (base := base) F_by_parts g_by_parts c_compared m_zip
  have c_crossing := cal_crossing (P := rwP) (w := w) (base := base) F_crossing g_crossing c_over
  have c_is_within := cal_is_within (P := rwP) (w := w) (base := base) F_is_within g_is_within c_lessened c_compared m_all m_abs h_N h_O
  have c_on_side := cal_on_side (P := rwP) (w := w) (base := base) F_on_side g_on_side c_over c_parting c_lessened c_times c_dot c_added m_tuple m_zip h_N
  have c_nearest := cal_nearest (P := rwP) (w := w) (base := base) F_nearest g_nearest c_ring_of c_crossing c_is_within c_on_side c_squared_at c_by_parts m_zip
  have c_nearest_of := cal_nearest_of (P := rwP) (w := w) (base := base) F_nearest_of g_nearest_of c_nearest c_compared m_enumerate
  have c_are_apart := cal_are_apart (P := rwP) (w := w) (base := base) F_are_apart g_are_apart c_nearest_of c_compared
  have c_is_flight_apart := cal_is_flight_apart (P := rwP) (w := w) (base := base) F_is_flight_apart g_is_flight_apart c_are_apart c_rho_of c_r_of
  have c_l_alike := cal_l_alike (P := rwP) (w := w) (base := base) F_l_alike g_l_alike m_repr
  have c_l_over := cal_l_over (P := rwP) (w := w) (base := base) F_l_over g_l_over m_abs m_int
  have c_l_added := cal_l_added (P := rwP) (w := w) (base := base) F_l_added g_l_added c_l_over
  have c_l_lessened := cal_l_lessened (P := rwP) (w := w) (base := base) F_l_lessened g_l_lessened c_l_over
  have c_l_multiplied := cal_l_multiplied (P := rwP) (w := w) (base := base) F_l_multiplied g_l_multiplied c_l_over
  have c_l_divided := cal_l_divided (P := rwP) (w := w) (base := base) F_l_divided g_l_divided c_l_over
  have c_l_reach := cal_l_reach (P := rwP) (w := w) (base := base) F_l_reach g_l_reach
  have c_l_lag := cal_l_lag (P := rwP) (w := w) (base := base) F_l_lag g_l_lag
  have c_l_rho := cal_l_rho (P := rwP) (w := w) (base := base) F_l_rho g_l_rho c_l_over c_l_lag
  have c_l_is_below := cal_l_is_below (P := rwP) (w := w) (base := base) F_l_is_below g_l_is_below
  have c_l_is_enough := cal_l_is_enough (P := rwP) (w := w) (base := base) F_l_is_enough g_l_is_enough c_l_reach c_l_lag
  have c_l_first_enough := cal_l_first_enough (P := rwP) (w := w) (base := base) F_l_first_enough g_l_first_enough c_l_lag c_l_is_enough m_range m_max
  have c_l_squared := cal_l_squared (P := rwP) (w := w) (base := base) F_l_squared g_l_squared
  have c_l_least_diagonal := cal_l_least_diagonal (P := rwP) (w := w) (base := base) F_l_least_diagonal g_l_least_diagonal m_range
  have c_l_offsets := cal_l_offsets (P := rwP) (w := w) (base := base) F_l_offsets g_l_offsets c_l_least_diagonal
  have c_l_do_cross := cal_l_do_cross (P := rwP) (w := w) (base := base) F_l_do_cross g_l_do_cross
  have c_l_first_crossing := cal_l_first_crossing (P := rwP) (w := w) (base := base) F_l_first_crossing g_l_first_crossing c_l_do_cross m_range m_len
  have c_l_uncrossed := cal_l_uncrossed (P := rwP) (w := w) (base := base) F_l_uncrossed g_l_uncrossed c_l_first_crossing m_list m_range m_tuple
  have c_l_corners := cal_l_corners (P := rwP) (w := w) (base := base) F_l_corners g_l_corners c_l_lessened
  have c_l_gap := cal_l_gap (P := rwP) (w := w) (base := base) F_l_gap g_l_gap c_l_added c_l_multiplied c_l_lessened
  have c_l_dot := cal_l_dot (P := rwP) (w := w) (base := base) F_l_dot g_l_dot c_l_added c_l_multiplied
  have c_l_gap_squared := cal_l_gap_squared (P := rwP) (w := w) (base := base) F_l_gap_squared g_l_gap_squared c_l_gap c_l_dot
  have c_l_are_less := cal_l_are_less (P := rwP) (w := w) (base := base) F_l_are_less g_l_are_less c_l_is_below
  have c_l_on_edge := cal_l_on_edge (P := rwP) (w := w) (base := base) F_l_on_edge g_l_on_edge c_l_added c_l_gap c_l_lessened c_l_dot c_l_divided c_l_are_less c_l_multiplied c_l_gap_squared c_l_is_below
  have c_l_inner_point := cal_l_inner_point (P := rwP) (w := w) (base := base) F_l_inner_point g_l_inner_point c_l_lessened c_l_over c_l_is_below
  have c_l_nearest := cal_l_nearest (P := rwP) (w := w) (base := base) F_l_nearest g_l_nearest c_l_inner_point c_l_corners c_l_on_edge c_l_is_below c_l_are_less m_zip
  have c_l_is_bad := cal_l_is_bad (P := rwP) (w := w) (base := base) F_l_is_bad g_l_is_bad c_l_reach c_l_is_below c_l_nearest c_l_rho
  have c_l_least_ticks := cal_l_least_ticks (P := rwP) (w := w) (base := base) F_l_least_ticks g_l_least_ticks c_l_first_enough c_l_reach c_l_lag
  have c_l_take := cal_l_take (P := rwP) (w := w) (base := base) F_l_take g_l_take m_int
  have c_l_some := cal_l_some (P := rwP) (w := w) (base := base) F_l_some g_l_some c_l_take m_len
  have c_l_bounds := cal_l_bounds (P := rwP) (w := w) (base := base) F_l_bounds g_l_bounds c_l_take c_l_some m_max
  have c_l_ticks := cal_l_ticks (P := rwP) (w := w) (base := base) F_l_ticks g_l_ticks c_l_take c_l_some c_l_lag m_max
  have c_l_mixed := cal_l_mixed (P := rwP) (w := w) (base := base) F_l_mixed g_l_mixed c_l_take m_len
  have c_l_spaced := cal_l_spaced (P := rwP) (w := w) (base := base) F_l_spaced g_l_spaced c_l_take c_l_some c_l_offsets c_l_squared m_len m_range
  have c_l_legs := cal_l_legs (P := rwP) (w := w) (base := base) F_l_legs g_l_legs c_l_take c_l_spaced c_l_mixed c_l_uncrossed m_len m_min m_tuple m_zip
  have c_l_bag := cal_l_bag (P := rwP) (w := w) (base := base) F_l_bag g_l_bag m_abs
  exact law_ok F_law c_l_bag c_l_bounds c_l_ticks c_l_least_ticks c_l_alike c_l_take c_is_flight_apart c_is_enough c_l_is_enough c_l_legs c_l_some c_l_squared c_l_is_bad m_tuple m_enumerate m_range
end Wk
theorem PySem.Challenge.cw_lampsaloft_k44_whole_every_crossless_fli_holds : PySem.Challenge.rw_lampsaloft_k44_whole_every_crossless_fli.Holds := by
  exact k44_holds Wk.head_facts
end

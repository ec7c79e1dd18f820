import PyProof.Rows.All
import Wide.All
import OpenK.AllK
import Wide.FinOn
import HandS.ForMost
import HandS.Evl
import HandS.IsInst
import HandS.Wide
import HandS.Defaults
import HandS.MakeKwOnly
import HandS.More
import PySem.Challenge.RW_tabletsky_k21_whole_tables_row_by_row
import KE.KStateDown
import Lean
import HandS.Base
import HandS.Call
import HandS.Ends
import HandS.Words
import HandS.WordsExc
import HandS.Head0
import HandS.Head1
import HandS.Head2
import HandS.HeadEnd
import HandS.HeadHook1
import HandS.HeadHook2
import HandS.HeadHook3
import HandS.HeadHook4
/-! ## TbMath -/
namespace Tb
/-! ### fractions as the program reckons them -/
theorem gcd_step {a b : Int} (ha : 0 ≤ a) (h : 0 < b) : Int.gcd b (a % b) = Int.gcd a b := by
  obtain ⟨m, rfl⟩ := Int.eq_ofNat_of_zero_le ha
  obtain ⟨n, rfl⟩ := Int.eq_ofNat_of_zero_le (Int.le_of_lt h)
  show Nat.gcd n ((m : Int) % (n : Int)).natAbs = Nat.gcd m n
  rw [← Int.natCast_emod, Int.natAbs_natCast, Nat.gcd_comm n, ← Nat.gcd_rec, Nat.gcd_comm]
theorem low_num {n d : Int} (h : 0 < d) : n / ((Int.gcd n d : Nat) : Int) = (Rat.divInt n d).num := by
  rw [Rat.num_divInt, Int.sign_eq_one_of_pos h, Int.one_mul, Int.gcd_comm]
theorem low_den {n d : Int} (h : 0 < d) : d / ((Int.gcd n d : Nat) : Int) = ((Rat.divInt n d).den : Int) := by
  rw [Rat.den_divInt, if_neg (by omega), Int.gcd_comm]
  rw [Int.natCast_ediv, Int.natAbs_of_nonneg (by omega)]
theorem gcd_pos {n d : Int} (h : 0 < d) : 0 < ((Int.gcd n d : Nat) : Int) := by
  have : 0 < Int.gcd n d := Int.gcd_pos_of_ne_zero_right n (by omega)
  omega
theorem gcd_le {n d : Int} (h : 0 < d) : ((Int.gcd n d : Nat) : Int) ≤ d := Int.gcd_le_right _ h
theorem q_add (q r : Rat) : Rat.divInt (q.num * r.den + r.num * q.den) (q.den * r.den) = q + r := by
  conv => rhs; rw [← Rat.num_divInt_den q, ← Rat.num_divInt_den r]
  rw [Rat.divInt_add_divInt _ _ (by have := q.den_nz; omega) (by have := r.den_nz; omega)]
theorem q_sub (q r : Rat) : Rat.divInt (q.num * r.den - r.num * q.den) (q.den * r.den) = q - r := by
  conv => rhs; rw [← Rat.num_divInt_den q, ← Rat.num_divInt_den r]
  rw [Rat.divInt_sub_divInt _ _ (by have := q.den_nz; omega) (by have := r.den_nz; omega)]
theorem q_mul (q r : Rat) : Rat.divInt (q.num * r.num) (q.den * r.den) = q * r := by
  conv => rhs; rw [← Rat.num_divInt_den q, ← Rat.num_divInt_den r]
  rw [Rat.divInt_mul_divInt]
theorem q_div (q r : Rat) : Rat.divInt (q.num * r.den) (q.den * r.num) = q / r := by
  rw [Rat.div_def, Rat.inv_def]
  conv => rhs; rw [← Rat.num_divInt_den q]
  rw [Rat.divInt_mul_divInt]
theorem den_pos (q : Rat) : (0 : Int) < (q.den : Int) := by
  have := q.den_nz
  omega
theorem num_pos {q : Rat} (h : 0 < q) : 0 < q.num := by
  have h1 := (Rat.lt_iff 0 q).mp h
  have e0 : (0 : Rat).num = 0 := rfl
  have e1 : (0 : Rat).den = 1 := rfl
  rw [e0, e1] at h1
  simpa using h1
theorem q_div_den {r : Rat} (q : Rat) (h : 0 < r) : (0 : Int) < q.den * r.num := Int.mul_pos (den_pos q) (num_pos h)
theorem inv_num {r : Rat} (h : 0 < r) : (r⁻¹).num = (r.den : Int) := by
  rw [Rat.num_inv, Int.sign_eq_one_of_pos (num_pos h), Int.one_mul]
theorem inv_den {r : Rat} (h : 0 < r) : ((r⁻¹).den : Int) = r.num := by
  have := num_pos h
  have e := Rat.den_inv r
  rw [e, if_neg (by omega)]
  omega
theorem q_floor {o u : Rat} (h : 0 < u) : (o.num * u.den) / (u.num * o.den) = (o / u).floor := by
  have hd : (0 : Int) < u.num * o.den := Int.mul_pos (num_pos h) (den_pos o)
  have e : o / u = Rat.divInt (o.num * u.den) (u.num * o.den) := by rw [← q_div, Int.mul_comm u.num]
  rw [Rat.floor_def, e, ← low_num hd, ← low_den hd]
  generalize o.num * (u.den : Int) = n at *
  generalize u.num * (o.den : Int) = d at *
  have g := gcd_pos (n := n) hd
  obtain ⟨x, hx⟩ : ((Int.gcd n d : Nat) : Int) ∣ n := Int.gcd_dvd_left ..
  obtain ⟨y, hy⟩ : ((Int.gcd n d : Nat) : Int) ∣ d := Int.gcd_dvd_right ..
  generalize ((Int.gcd n d : Nat) : Int) = k at *
  subst hx hy
  rw [Int.mul_ediv_mul_of_pos _ _ g, Int.mul_ediv_cancel_left _ (by omega), Int.mul_ediv_cancel_left _ (by omega)]
/-- small enough for the rules of * and // -/
def Sm (q : Rat) : Prop := q.num.natAbs < 2 ^ 2000 ∧ q.den < 2 ^ 2000
/-- the parts of M, at most B in size -/
structure Bd (M B : Int) (q : Rat) : Prop where
  fr : ∃ z : Int, q * (M : Rat) = (z : Rat)
  lo : -(B : Rat) ≤ q
  hi : q ≤ (B : Rat)
theorem Bd.sm {M B : Int} {q : Rat} (h : Bd M B q) (hM : 0 < M) (h2 : M < 2 ^ 2000) (hB : B * M < 2 ^ 2000) : Sm q := by
  obtain ⟨⟨z, hz⟩, lo, hi⟩ := h
  have hMq : (0 : Rat) < (M : Rat) := Rat.intCast_pos.mpr hM
  have e : q = Rat.divInt z M := by
    have h1 : Rat.divInt z M = (z : Rat) / (M : Rat) := Rat.divInt_eq_div z M
    rw [h1, ← hz]
    grind
  have z1 : z ≤ B * M := by
    have : (z : Rat) ≤ ((B * M : Int) : Rat) := by
      rw [← hz, Rat.intCast_mul]
      exact Rat.mul_le_mul_of_nonneg_right hi (Rat.le_of_lt hMq)
    exact Rat.intCast_le_intCast.mp this
  have z2 : -(B * M) ≤ z := by
    have : ((-(B * M) : Int) : Rat) ≤ (z : Rat) := by
      rw [← hz, Rat.intCast_neg, Rat.intCast_mul]
      have := Rat.mul_le_mul_of_nonneg_right lo (Rat.le_of_lt hMq)
      grind
    exact Rat.intCast_le_intCast.mp this
  have g := gcd_pos (n := z) hM
  constructor
  · rw [e, ← low_num hM]
    have : (z / ((Int.gcd z M : Nat) : Int)).natAbs ≤ z.natAbs := by
      rw [Int.natAbs_ediv_of_dvd (Int.gcd_dvd_left ..)]
      exact Nat.div_le_self _ _
    omega
  · have h3 : ((q.den : Nat) : Int) ≤ M := by
      rw [e, ← low_den hM]
      exact Int.ediv_le_self _ (by omega)
    omega
section
variable {M N B C : Int} {q r : Rat}
theorem Bd.add (h : Bd M B q) (k : Bd M C r) : Bd M (B + C) (q + r) := by
  obtain ⟨⟨z, hz⟩, a, b⟩ := h
  obtain ⟨⟨y, hy⟩, c, d⟩ := k
  have e : ((B + C : Int) : Rat) = (B : Rat) + (C : Rat) := Rat.intCast_add B C
  refine ⟨⟨z + y, ?_⟩, ?_, ?_⟩
  · rw [Rat.intCast_add]
    grind
  · rw [e]
    grind
  · rw [e]
    grind
theorem Bd.neg (h : Bd M B q) : Bd M B (-q) := by
  obtain ⟨⟨z, hz⟩, a, b⟩ := h
  refine ⟨⟨-z, ?_⟩, ?_, ?_⟩
  · rw [Rat.intCast_neg]
    grind
  · grind
  · grind
theorem Bd.sub (h : Bd M B q) (k : Bd M C r) : Bd M (B + C) (q - r) := by
  rw [Rat.sub_eq_add_neg]
  exact h.add k.neg
theorem Bd.mono (h : Bd M B q) (hM : M ∣ N) (hB : B ≤ C) : Bd N C q := by
  obtain ⟨⟨z, hz⟩, a, b⟩ := h
  obtain ⟨k, rfl⟩ := hM
  have e : (B : Rat) ≤ (C : Rat) := Rat.intCast_le_intCast.mpr hB
  refine ⟨⟨z * k, ?_⟩, ?_, ?_⟩
  · rw [Rat.intCast_mul, Rat.intCast_mul]
    grind
  · grind
  · grind
theorem mul_bound {b c : Rat} (hq1 : -b ≤ q) (hq2 : q ≤ b) (hr1 : -c ≤ r) (hr2 : r ≤ c) : q * r ≤ b * c := by
  have h1 : 0 ≤ (b - q) * (c + r) := Rat.mul_nonneg (by grind) (by grind)
  have h2 : 0 ≤ (b + q) * (c - r) := Rat.mul_nonneg (by grind) (by grind)
  grind
theorem Bd.mul (h : Bd M B q) (k : Bd N C r) : Bd (M * N) (B * C) (q * r) := by
  obtain ⟨⟨z, hz⟩, a, b⟩ := h
  obtain ⟨⟨y, hy⟩, c, d⟩ := k
  refine ⟨⟨z * y, ?_⟩, ?_, ?_⟩
  · rw [Rat.intCast_mul, Rat.intCast_mul]
    grind
  · rw [Rat.intCast_mul]
    have := mul_bound (q := -q) (r := r) (b := B) (c := C) (by grind) (by grind) c d
    grind
  · rw [Rat.intCast_mul]
    exact mul_bound a b c d
theorem Bd.int (M : Int) {z B : Int} (h : -B ≤ z) (k : z ≤ B) : Bd M B (z : Rat) := by
  refine ⟨⟨z * M, ?_⟩, ?_, ?_⟩
  · rw [Rat.intCast_mul]
  · rw [← Rat.intCast_neg]
    exact Rat.intCast_le_intCast.mpr h
  · exact Rat.intCast_le_intCast.mpr k
theorem Bd.int_mul {z : Int} (h : Bd M B q) (hz : -C ≤ z) (hz2 : z ≤ C) : Bd M (C * B) ((z : Rat) * q) := by
  have := (Bd.int 1 hz hz2).mul h
  rw [Int.one_mul] at this
  exact this
theorem Bd.b0 (h : Bd M B q) : 0 ≤ B := by
  have h1 := h.lo
  have h2 := h.hi
  have : ((0 : Int) : Rat) ≤ (B : Rat) := by
    have e : ((0 : Int) : Rat) = 0 := rfl
    rw [e]
    grind
  exact Rat.intCast_le_intCast.mp this
/-- a quotient of two ints -/
theorem Bd.quot {n d : Int} (hd : 0 < d) (hM : d ∣ M) (hn : -B ≤ n) (hn2 : n ≤ B) : Bd M B (Rat.divInt n d) := by
  have e : Rat.divInt n d = (n : Rat) / (d : Rat) := Rat.divInt_eq_div n d
  have hdq : (0 : Rat) < (d : Rat) := Rat.intCast_pos.mpr hd
  have e1 : Rat.divInt n d * (d : Rat) = (n : Rat) := by
    rw [e]
    grind
  have hd1 : (1 : Rat) ≤ (d : Rat) := by
    have := Rat.intCast_le_intCast.mpr (show (1 : Int) ≤ d by omega)
    exact this
  have hB : 0 ≤ B := by omega
  have hBq : (0 : Rat) ≤ (B : Rat) := Rat.intCast_nonneg.mpr hB
  have l1 : -(B : Rat) ≤ (n : Rat) := by
    rw [← Rat.intCast_neg]
    exact Rat.intCast_le_intCast.mpr hn
  have l2 : (n : Rat) ≤ (B : Rat) := Rat.intCast_le_intCast.mpr hn2
  have hBd : (B : Rat) ≤ (B : Rat) * (d : Rat) := by
    have h1 : 0 ≤ (B : Rat) * ((d : Rat) - 1) := Rat.mul_nonneg hBq (by grind)
    grind
  refine ⟨?_, ?_, ?_⟩
  · obtain ⟨k, rfl⟩ := hM
    refine ⟨n * k, ?_⟩
    rw [Rat.intCast_mul, Rat.intCast_mul]
    grind
  · refine Rat.not_lt.mp fun h => ?_
    have := Rat.mul_lt_mul_of_pos_right h hdq
    grind
  · refine Rat.not_lt.mp fun h => ?_
    have := Rat.mul_lt_mul_of_pos_right h hdq
    grind
theorem Bd.of_int {z : Int} {M B : Int} (e : q = (z : Rat)) (h : -B ≤ z) (k : z ≤ B) : Bd M B q := e ▸ Bd.int M h k
end
/-- the rest of o by u -/
def rest (u o : Rat) : Rat := o - (((o / u).floor : Int) : Rat) * u
theorem rest_nonneg {u o : Rat} (h : 0 < u) : 0 ≤ rest u o := by
  have h1 := Rat.floor_le (o / u)
  have h2 := Rat.mul_le_mul_of_nonneg_right h1 (Rat.le_of_lt h)
  unfold rest
  have : o / u * u = o := by grind
  grind
theorem rest_lt {u o : Rat} (h : 0 < u) : rest u o < u := by
  have h1 := Rat.lt_floor_add_one (o / u)
  have h2 := Rat.mul_lt_mul_of_pos_right h1 h
  rw [Rat.intCast_add] at h2
  unfold rest
  have e : ((1 : Int) : Rat) = 1 := rfl
  rw [e] at h2
  have : o / u * u = o := by grind
  grind
theorem rest_bd {M U O : Int} {u o : Rat} (h : 0 < u) (hu : Bd M U u) (ho : Bd M O o) : Bd M U (rest u o) := by
  have h0 := rest_nonneg (o := o) h
  have h1 := rest_lt (o := o) h
  obtain ⟨⟨z, hz⟩, a, b⟩ := hu
  obtain ⟨⟨y, hy⟩, c, d⟩ := ho
  refine ⟨⟨y - (o / u).floor * z, ?_⟩, ?_, ?_⟩
  · unfold rest
    rw [Rat.intCast_sub, Rat.intCast_mul]
    grind
  · grind
  · grind
/-- how often u goes into o, as a worth; its product with u -/
theorem floor_bd {M U O : Int} {u o : Rat} (h : 0 < u) (hu : Bd M U u) (ho : Bd M O o) : Bd M (O + U) ((((o / u).floor : Int) : Rat) * u) := by
  have e : (((o / u).floor : Int) : Rat) * u = o - rest u o := by
    unfold rest
    grind
  rw [e]
  exact ho.sub (rest_bd h hu ho)
end Tb

/-! ## TbMath2 -/
set_option linter.all false
namespace Tb
/-! ### small worths, by numbers -/
def smB (M B : Int) : Bool := decide (0 < M) && (decide (M.natAbs < 2 ^ 2000) && (decide (0 ≤ B) && decide ((B * M).natAbs < 2 ^ 2000)))
theorem Bd.sm1 {M B : Int} {q : Rat} (h : Bd M B q) (k : smB M B = true) : Sm q := by
  unfold smB at k
  simp only [Bool.and_eq_true, decide_eq_true_eq] at k
  obtain ⟨h1, h2, h3, h4⟩ := k
  have e : ((2 : Int) ^ 2000) = (((2 : Nat) ^ 2000 : Nat) : Int) := by rw [Int.natCast_pow] <;> rfl
  refine h.sm h1 ?_ ?_
  · rw [e]
    generalize (2 : Nat) ^ 2000 = z at *
    omega
  · have := Int.mul_nonneg h3 (Int.le_of_lt h1)
    rw [e]
    generalize (2 : Nat) ^ 2000 = z at *
    generalize B * M = y at *
    omega
theorem sm_int {z : Int} (h : z.natAbs < 2 ^ 2000) : Sm ((z : Int) : Rat) := by
  refine ⟨?_, ?_⟩
  · rw [Rat.num_intCast]
    exact h
  · rw [Rat.den_intCast]
    exact Nat.one_lt_two_pow (by decide)
theorem Bd.fr_pos {M B : Int} {u : Rat} (h : Bd M B u) (h0 : 0 < u) (hM : 0 < M) : ∃ z : Int, u * (M : Rat) = (z : Rat) ∧ 1 ≤ z := by
  obtain ⟨z, hz⟩ := h.fr
  refine ⟨z, hz, ?_⟩
  have hMq : (0 : Rat) < (M : Rat) := Rat.intCast_pos.mpr hM
  have : (0 : Rat) < (z : Rat) := by
    rw [← hz]
    exact Rat.mul_pos h0 hMq
  have := Rat.intCast_pos.mp this
  omega
theorem floor_int {M U O : Int} {u o : Rat} (h : 0 < u) (hu : Bd M U u) (ho : Bd M O o) (hM : 0 < M) : (o / u).floor.natAbs ≤ ((O + U) * M).natAbs := by
  obtain ⟨z, hz, z1⟩ := hu.fr_pos h hM
  obtain ⟨_, l1, l2⟩ := floor_bd h hu ho
  generalize (o / u).floor = f at *
  have hMq : (0 : Rat) < (M : Rat) := Rat.intCast_pos.mpr hM
  have e : ((f : Rat) * u) * (M : Rat) = ((f * z : Int) : Rat) := by
    rw [Rat.intCast_mul]
    grind
  have a2 : ((f * z : Int) : Rat) ≤ (((O + U) * M : Int) : Rat) := by
    rw [← e, Rat.intCast_mul]
    exact Rat.mul_le_mul_of_nonneg_right l2 (Rat.le_of_lt hMq)
  have a1 : ((-((O + U) * M) : Int) : Rat) ≤ ((f * z : Int) : Rat) := by
    rw [← e, Rat.intCast_neg, Rat.intCast_mul]
    have := Rat.mul_le_mul_of_nonneg_right l1 (Rat.le_of_lt hMq)
    grind
  have b2 := Rat.intCast_le_intCast.mp a2
  have b1 := Rat.intCast_le_intCast.mp a1
  have n1 : (f * z).natAbs ≤ ((O + U) * M).natAbs := by
    generalize (O + U) * M = y at *
    generalize f * z = x at *
    omega
  have n2 : f.natAbs ≤ (f * z).natAbs := by
    rw [Int.natAbs_mul]
    exact Nat.le_mul_of_pos_right _ (by omega)
  omega
theorem rest_pre {M U O : Int} {u o : Rat} (h : 0 < u) (hu : Bd M U u) (ho : Bd M O o) (k : smB M (O + U) = true) : 0 < u ∧ Sm (((o / u).floor : Int) : Rat) ∧ Sm ((((o / u).floor : Int) : Rat) * u) := by
  have k' := k
  unfold smB at k
  simp only [Bool.and_eq_true, decide_eq_true_eq] at k
  exact ⟨h, sm_int (Nat.lt_of_le_of_lt (floor_int h hu ho k.1) k.2.2.2), (floor_bd h hu ho).sm1 k'⟩
/-! ### the denominators of lines and of zones: all divide these -/
abbrev L40 : Int := 5342931457063200
abbrev ME : Int := 420
abbrev MM : Int := 5040 * L40
abbrev MB : Int := 60 * MM
abbrev BL : Int := 16777216
structure LineD where
  low : Rat
  high : Rat
  step : Rat
  turn : Rat
  begin : Rat
def LineD.phase (L : LineD) (row : Int) : Rat := rest L.turn (L.begin + (row : Rat) * L.step)
def LineD.val (L : LineD) (row : Int) : Rat := if L.phase row < L.high - L.low then L.low + L.phase row else L.low + (L.turn - L.phase row)
structure LineOk (L : LineD) : Prop where
  pos : 0 < L.turn
  low : Bd MB BL L.low
  high : Bd MB BL L.high
  step : Bd MB BL L.step
  turn : Bd MB BL L.turn
  begin : Bd MB BL L.begin
section
variable {L : LineD} {row : Int}
theorem LineOk.rowstep (h : LineOk L) (h1 : -100 ≤ row) (h2 : row ≤ 100) : Bd MB (100 * BL) ((row : Rat) * L.step) := h.step.int_mul h1 h2
theorem LineOk.at_ (h : LineOk L) (h1 : -100 ≤ row) (h2 : row ≤ 100) : Bd MB (BL + 100 * BL) (L.begin + (row : Rat) * L.step) := h.begin.add (h.rowstep h1 h2)
theorem LineOk.phase (h : LineOk L) (h1 : -100 ≤ row) (h2 : row ≤ 100) : Bd MB BL (L.phase row) := rest_bd h.pos h.turn (h.at_ h1 h2)
theorem LineOk.val (h : LineOk L) (h1 : -100 ≤ row) (h2 : row ≤ 100) : Bd MB (BL + (BL + BL)) (L.val row) := by
  unfold LineD.val
  split
  · exact (h.low.add (h.phase h1 h2)).mono (Int.dvd_refl _) (by decide)
  · exact h.low.add (h.turn.sub (h.phase h1 h2))
end
end Tb

/-! ## TbMath3 -/
set_option linter.all false
namespace Tb
/-! ### places on a ring -/
def ixs (ms : List Rat) (t : Rat) : List Nat := (List.range ms.length).filter fun i => !decide (t < ms.getD i 0)
def ixm (ms : List Rat) (t : Rat) : Nat := (ixs ms t).foldl max 0
theorem foldl_max_ge : ∀ (l : List Nat) (a : Nat), a ≤ l.foldl max a ∧ ∀ y ∈ l, y ≤ l.foldl max a
  | [], a => ⟨Nat.le_refl _, fun _ h => by cases h⟩
  | x :: r, a => by
    obtain ⟨h1, h2⟩ := foldl_max_ge r (max a x)
    refine ⟨Nat.le_trans (Nat.le_max_left a x) h1, fun y hy => ?_⟩
    rcases List.mem_cons.mp hy with e | h
    · subst e
      exact Nat.le_trans (Nat.le_max_right a y) h1
    · exact h2 y h
theorem foldl_max_mem : ∀ (l : List Nat) (a : Nat), l.foldl max a = a ∨ l.foldl max a ∈ l
  | [], a => .inl rfl
  | x :: r, a => by
    rcases foldl_max_mem r (max a x) with h | h
    · show List.foldl max (max a x) r = a ∨ List.foldl max (max a x) r ∈ x :: r
      rw [h]
      by_cases hx : a ≤ x
      · exact .inr (by rw [Nat.max_eq_right hx]; exact List.mem_cons_self)
      · exact .inl (Nat.max_eq_left (by omega))
    · exact .inr (List.mem_cons_of_mem _ h)
theorem ixm_of {ms : List Rat} {t : Rat} {m : Nat} (h : m ∈ ixs ms t) (hy : ∀ y ∈ ixs ms t, y ≤ m) : m = ixm ms t := by
  unfold ixm
  have h1 := (foldl_max_ge (ixs ms t) 0).2 m h
  rcases foldl_max_mem (ixs ms t) 0 with e | e
  · omega
  · have := hy _ e
    omega
theorem ixm_lt {ms : List Rat} {t : Rat} (h : 0 < ms.length) : ixm ms t < ms.length := by
  unfold ixm
  rcases foldl_max_mem (ixs ms t) 0 with e | e
  · omega
  · have := List.mem_filter.mp e
    exact List.mem_range.mp this.1
structure ZoneD where
  ring : Rat
  borders : List Rat
  steps : List Rat
  marks : List Rat
  begin : Rat
def ZoneD.n (Z : ZoneD) : Nat := Z.borders.length
def ZoneD.place (Z : ZoneD) (even : Rat) : Rat := Z.borders.getD (ixm Z.marks.dropLast even) 0 + (even - Z.marks.getD (ixm Z.marks.dropLast even) 0) * Z.steps.getD (ixm Z.marks.dropLast even) 0
def ZoneD.even (Z : ZoneD) (row : Int) : Rat := rest (Z.marks.getD Z.n 0) (Z.begin + (row : Rat))
def ZoneD.val (Z : ZoneD) (row : Int) : Rat := Z.place (Z.even row)
abbrev BI : Int := 1000000
abbrev BM : Int := 2000 * BI
structure StepOk (s : Rat) : Prop where
  ex : ∃ c d : Int, 1 ≤ c ∧ c ≤ 40 ∧ 1 ≤ d ∧ d ≤ 60 ∧ d ∣ 60 ∧ s = Rat.divInt c d
theorem StepOk.pos {s : Rat} (h : StepOk s) : 0 < s := by
  obtain ⟨c, d, c1, _, d1, _, _, rfl⟩ := h.ex
  rw [Rat.divInt_eq_div]
  have h1 : (0 : Rat) < (c : Rat) := Rat.intCast_pos.mpr (by omega)
  have h2 : (0 : Rat) < (d : Rat) := Rat.intCast_pos.mpr (by omega)
  rw [Rat.div_def]
  exact Rat.mul_pos h1 (Rat.inv_pos.mpr h2)
theorem StepOk.bd {s : Rat} (h : StepOk s) : Bd 60 60 s := by
  obtain ⟨c, d, c1, c2, d1, _, hd, rfl⟩ := h.ex
  exact Bd.quot (by omega) hd (by omega) (by omega)
theorem dvd_L40 : ∀ c : Nat, 1 ≤ c → c ≤ 40 → (c : Int) ∣ L40 := by
  have h : ∀ c : _root_.Fin 41, 1 ≤ c.val → ((c.val : Nat) : Int) ∣ L40 := by decide +kernel
  intro c h1 h2
  exact h ⟨c, by omega⟩ h1
theorem StepOk.div {s x : Rat} {M B : Int} (h : StepOk s) (hx : Bd M B x) : Bd (M * L40) (B * 60) (x / s) := by
  obtain ⟨c, d, c1, c2, d1, d2, hd, rfl⟩ := h.ex
  have h1 : (0 : Rat) < (c : Rat) := Rat.intCast_pos.mpr (by omega)
  have h2 : (0 : Rat) < (d : Rat) := Rat.intCast_pos.mpr (by omega)
  have e : x / Rat.divInt c d = x * Rat.divInt d c := by
    rw [Rat.divInt_eq_div, Rat.divInt_eq_div]
    grind
  rw [e]
  obtain ⟨k, rfl⟩ := Int.eq_ofNat_of_zero_le (show 0 ≤ c by omega)
  exact hx.mul (Bd.quot (by omega) (dvd_L40 k (by omega) (by omega)) (by omega) (by omega))
structure ZoneOk (Z : ZoneD) : Prop where
  n1 : 1 ≤ Z.n
  n2 : Z.n ≤ 12
  ls : Z.steps.length = Z.n
  lm : Z.marks.length = Z.n + 1
  m0 : Z.marks.getD 0 0 = 0
  bb : ∀ i : Nat, i < Z.n → Bd ME BI (Z.borders.getD i 0)
  ss : ∀ i : Nat, i < Z.n → Bd 60 60 (Z.steps.getD i 0)
  mm : ∀ i : Nat, i ≤ Z.n → Bd (ME * L40) BM (Z.marks.getD i 0)
  pos : 0 < Z.marks.getD Z.n 0
  bg : Bd MM BM Z.begin
section
variable {Z : ZoneD} {row : Int}
theorem ZoneOk.mM (h : ZoneOk Z) {i : Nat} (hi : i ≤ Z.n) : Bd MM BM (Z.marks.getD i 0) := (h.mm i hi).mono (by decide +kernel) (Int.le_refl _)
theorem ZoneOk.at_ (h : ZoneOk Z) (h1 : -100 ≤ row) (h2 : row ≤ 100) : Bd MM (BM + 100) (Z.begin + (row : Rat)) := h.bg.add (Bd.int MM h1 h2)
theorem ZoneOk.even (h : ZoneOk Z) (h1 : -100 ≤ row) (h2 : row ≤ 100) : Bd MM BM (Z.even row) := rest_bd h.pos (h.mM (Nat.le_refl _)) (h.at_ h1 h2)
theorem ZoneOk.even0 (h : ZoneOk Z) : 0 ≤ Z.even row := rest_nonneg h.pos
theorem ZoneOk.dl (h : ZoneOk Z) : Z.marks.dropLast.length = Z.n := by
  rw [List.length_dropLast, h.lm]
  omega
theorem ZoneOk.ix (h : ZoneOk Z) (t : Rat) : ixm Z.marks.dropLast t < Z.n := by
  have := ixm_lt (ms := Z.marks.dropLast) (t := t) (by rw [h.dl]; exact h.n1)
  rw [h.dl] at this
  exact this
theorem ZoneOk.gap (h : ZoneOk Z) {t : Rat} (ht : Bd MM BM t) {i : Nat} (hi : i ≤ Z.n) : Bd MM (BM + BM) (t - Z.marks.getD i 0) := ht.sub (h.mM hi)
theorem ZoneOk.go (h : ZoneOk Z) {t : Rat} (ht : Bd MM BM t) {i : Nat} (hi : i < Z.n) : Bd MB ((BM + BM) * 60) ((t - Z.marks.getD i 0) * Z.steps.getD i 0) := ((h.gap ht (Nat.le_of_lt hi)).mul (h.ss i hi)).mono (by decide +kernel) (Int.le_refl _)
abbrev BV : Int := 1000000000000
theorem ZoneOk.place (h : ZoneOk Z) {t : Rat} (ht : Bd MM BM t) : Bd MB BV (Z.place t) := (((h.bb _ (h.ix t)).mono (by decide +kernel) (Int.le_refl _)).add (h.go ht (h.ix t))).mono (Int.dvd_refl _) (by decide)
theorem ZoneOk.val (h : ZoneOk Z) (h1 : -100 ≤ row) (h2 : row ≤ 100) : Bd MB BV (Z.val row) := h.place (h.even h1 h2)
end
theorem LineOk.valV {L : LineD} {row : Int} (h : LineOk L) (h1 : -100 ≤ row) (h2 : row ≤ 100) : Bd MB BV (L.val row) := (h.val h1 h2).mono (Int.dvd_refl _) (by decide)
/-- the marks: behind how many rows each zone begins -/
def mk (ends steps : List Rat) : Nat → Rat
  | 0 => 0
  | k + 1 => mk ends steps k + (ends.getD (k + 1) 0 - ends.getD k 0) / steps.getD k 0
end Tb

/-! ## TbMath4 -/
set_option linter.all false
namespace Tb
theorem mk_bd {ends ss : List Rat} {n : Nat} (hb : ∀ i : Nat, i ≤ n → Bd ME BI (ends.getD i 0)) (hs : ∀ i : Nat, i < n → StepOk (ss.getD i 0)) : ∀ k : Nat, k ≤ n → Bd (ME * L40) (120 * BI * k) (mk ends ss k)
  | 0, _ => Bd.of_int (q := 0) (z := 0) rfl (by decide) (by decide)
  | k + 1, h => by
    have ih := mk_bd hb hs k (by omega)
    have g := (hs k (by omega)).div ((hb (k + 1) h).sub (hb k (by omega)))
    refine (ih.add g).mono (Int.dvd_refl _) ?_
    have : ((k + 1 : Nat) : Int) = (k : Int) + 1 := by omega
    rw [this]
    show (120 * 1000000 : Int) * (k : Int) + (1000000 + 1000000) * 60 ≤ (120 * 1000000) * ((k : Int) + 1)
    omega
theorem mk_gap {ends ss : List Rat} {n : Nat} (hb : ∀ i : Nat, i ≤ n → Bd ME BI (ends.getD i 0)) (hs : ∀ i : Nat, i < n → StepOk (ss.getD i 0)) {k : Nat} (h : k < n) : Bd (ME * L40) ((BI + BI) * 60) ((ends.getD (k + 1) 0 - ends.getD k 0) / ss.getD k 0) :=
  (hs k h).div ((hb (k + 1) h).sub (hb k (Nat.le_of_lt h)))
theorem mk_nonneg {ends ss : List Rat} {n : Nat} (hr : ∀ i : Nat, i < n → ends.getD i 0 < ends.getD (i + 1) 0) (hs : ∀ i : Nat, i < n → StepOk (ss.getD i 0)) : ∀ k : Nat, k ≤ n → 0 ≤ mk ends ss k ∧ (0 < k → 0 < mk ends ss k)
  | 0, _ => ⟨Rat.le_refl, fun h => absurd h (by decide)⟩
  | k + 1, h => by
    have ih := (mk_nonneg hr hs k (by omega)).1
    have h1 := hr k (by omega)
    have h2 := (hs k (by omega)).pos
    have : 0 < mk ends ss (k + 1) := by
      show 0 < mk ends ss k + (ends.getD (k + 1) 0 - ends.getD k 0) / ss.getD k 0
      have h3 : 0 < (ends.getD (k + 1) 0 - ends.getD k 0) / ss.getD k 0 := by
        rw [Rat.div_def]
        exact Rat.mul_pos (by grind) (Rat.inv_pos.mpr h2)
      grind
    exact ⟨Rat.le_of_lt this, fun _ => this⟩
/-- what a ring of zones is made of -/
structure ZoneArg (bs ss : List Rat) (r at_ : Rat) : Prop where
  n1 : 1 ≤ bs.length
  n2 : bs.length ≤ 12
  ls : ss.length = bs.length
  b0 : bs.getD 0 0 = 0
  bb : ∀ i : Nat, i < bs.length → Bd ME BI (bs.getD i 0)
  br : Bd ME BI r
  r0 : 0 < r
  ri : ∀ i : Nat, i < bs.length → bs.getD i 0 < (bs ++ [r]).getD (i + 1) 0
  st : ∀ i : Nat, i < bs.length → StepOk (ss.getD i 0)
  a0 : 0 ≤ at_
  ar : at_ < r
  ba : Bd 5040 BI at_
def marksOf (bs ss : List Rat) (r : Rat) : List Rat := (List.range (bs.length + 1)).map (mk (bs ++ [r]) ss)
section
variable {bs ss : List Rat} {r at_ : Rat}
theorem getD_l {i : Nat} (h : i < bs.length) : (bs ++ [r]).getD i 0 = bs.getD i 0 := by
  simp only [List.getD_eq_getElem?_getD]
  rw [List.getElem?_append_left h]
theorem getD_e : (bs ++ [r]).getD bs.length 0 = r := by
  simp only [List.getD_eq_getElem?_getD]
  rw [List.getElem?_append_right (Nat.le_refl _)]
  simp
theorem ZoneArg.be (h : ZoneArg bs ss r at_) (i : Nat) (hi : i ≤ bs.length) : Bd ME BI ((bs ++ [r]).getD i 0) := by
  by_cases e : i < bs.length
  · rw [getD_l e]
    exact h.bb i e
  · have : i = bs.length := by omega
    subst this
    rw [getD_e]
    exact h.br
theorem ZoneArg.re (h : ZoneArg bs ss r at_) (i : Nat) (hi : i < bs.length) : (bs ++ [r]).getD i 0 < (bs ++ [r]).getD (i + 1) 0 := by
  rw [getD_l hi]
  exact h.ri i hi
theorem marks_len : (marksOf bs ss r).length = bs.length + 1 := by
  unfold marksOf
  simp
theorem marks_get {i : Nat} (hi : i ≤ bs.length) : (marksOf bs ss r).getD i 0 = mk (bs ++ [r]) ss i := by
  unfold marksOf
  simp only [List.getD_eq_getElem?_getD, List.getElem?_map]
  rw [List.getElem?_range (by omega)]
  rfl
theorem ZoneArg.mm (h : ZoneArg bs ss r at_) (i : Nat) (hi : i ≤ bs.length) : Bd (ME * L40) (1500 * BI) ((marksOf bs ss r).getD i 0) := by
  rw [marks_get hi]
  refine (mk_bd h.be h.st i hi).mono (Int.dvd_refl _) ?_
  have := h.n2
  have : (i : Int) ≤ 12 := by omega
  show (120 * 1000000 : Int) * (i : Int) ≤ 1500 * 1000000
  omega
theorem ZoneArg.ok (h : ZoneArg bs ss r at_) {g : Rat} (hg : Bd MM BM g) : ZoneOk ⟨r, bs, ss, marksOf bs ss r, g⟩ where
  n1 := h.n1
  n2 := h.n2
  ls := h.ls
  lm := marks_len
  m0 := by
    show (marksOf bs ss r).getD 0 0 = 0
    rw [marks_get (Nat.zero_le _)] <;> rfl
  bb := h.bb
  ss := fun i hi => (h.st i hi).bd
  mm := fun i hi => (h.mm i hi).mono (Int.dvd_refl _) (by decide)
  pos := by
    show 0 < (marksOf bs ss r).getD bs.length 0
    rw [marks_get (Nat.le_refl _)]
    exact (mk_nonneg h.re h.st bs.length (Nat.le_refl _)).2 h.n1
  bg := hg
end
end Tb

/-! ## TbMath5 -/
set_option linter.all false
namespace Tb
/-! ### the straight lines through corners -/
def cx (cs : List (Rat × Rat)) (i : Nat) : Rat := (cs.getD i (0, 0)).1
def cy (cs : List (Rat × Rat)) (i : Nat) : Rat := (cs.getD i (0, 0)).2
def segF (cs : List (Rat × Rat)) (t : Rat) : Nat → Nat → Nat
  | 0, at_ => at_
  | n + 1, at_ => if at_ + 2 < cs.length ∧ ¬ t < cx cs (at_ + 1) then segF cs t n (at_ + 1) else at_
def seg (cs : List (Rat × Rat)) (t : Rat) : Nat := segF cs t cs.length 0
theorem segF_stop {cs : List (Rat × Rat)} {t : Rat} {n at_ : Nat} (h : ¬ (at_ + 2 < cs.length ∧ ¬ t < cx cs (at_ + 1))) : segF cs t n at_ = at_ := by
  cases n with
  | zero => rfl
  | succ n => exact if_neg h
theorem segF_go {cs : List (Rat × Rat)} {t : Rat} {n at_ : Nat} (h : at_ + 2 < cs.length ∧ ¬ t < cx cs (at_ + 1)) : segF cs t (n + 1) at_ = segF cs t n (at_ + 1) := if_pos h
theorem segF_lt {cs : List (Rat × Rat)} {t : Rat} : ∀ n at_ : Nat, at_ + 1 < cs.length → segF cs t n at_ + 1 < cs.length
  | 0, at_, h => h
  | n + 1, at_, h => by
    unfold segF
    split
    · rename_i c
      exact segF_lt n (at_ + 1) (by omega)
    · exact h
theorem seg_lt {cs : List (Rat × Rat)} {t : Rat} (h : 2 ≤ cs.length) : seg cs t + 1 < cs.length := segF_lt _ 0 (by omega)
def bent (cs : List (Rat × Rat)) (t : Rat) : Rat := cy cs (seg cs t) + (t - cx cs (seg cs t)) / (cx cs (seg cs t + 1) - cx cs (seg cs t)) * (cy cs (seg cs t + 1) - cy cs (seg cs t))
abbrev L30 : Int := 2329089562800
structure GapOk (g : Rat) : Prop where
  ex : ∃ n m : Int, 1 ≤ n ∧ n ≤ 30 ∧ 1 ≤ m ∧ m ≤ 2 ∧ g = Rat.divInt n m
theorem GapOk.pos {s : Rat} (h : GapOk s) : 0 < s := by
  obtain ⟨c, d, c1, _, d1, _, rfl⟩ := h.ex
  rw [Rat.divInt_eq_div]
  have h1 : (0 : Rat) < (c : Rat) := Rat.intCast_pos.mpr (by omega)
  have h2 : (0 : Rat) < (d : Rat) := Rat.intCast_pos.mpr (by omega)
  rw [Rat.div_def]
  exact Rat.mul_pos h1 (Rat.inv_pos.mpr h2)
theorem dvd_L30 : ∀ c : Nat, 1 ≤ c → c ≤ 30 → (c : Int) ∣ L30 := by
  have h : ∀ c : _root_.Fin 31, 1 ≤ c.val → ((c.val : Nat) : Int) ∣ L30 := by decide +kernel
  intro c h1 h2
  exact h ⟨c, by omega⟩ h1
theorem GapOk.bd {s : Rat} (h : GapOk s) : Bd 2 30 s := by
  obtain ⟨c, d, c1, c2, d1, d2, rfl⟩ := h.ex
  exact Bd.quot (by omega) (by rcases (show d = 1 ∨ d = 2 by omega) with rfl | rfl <;> decide) (by omega) (by omega)
theorem GapOk.inv {s : Rat} (h : GapOk s) : Bd L30 2 s⁻¹ := by
  obtain ⟨c, d, c1, c2, d1, d2, rfl⟩ := h.ex
  have h1 : (0 : Rat) < (c : Rat) := Rat.intCast_pos.mpr (by omega)
  have h2 : (0 : Rat) < (d : Rat) := Rat.intCast_pos.mpr (by omega)
  have e : (Rat.divInt c d)⁻¹ = Rat.divInt d c := by
    rw [Rat.divInt_eq_div, Rat.divInt_eq_div]
    grind
  rw [e]
  obtain ⟨k, rfl⟩ := Int.eq_ofNat_of_zero_le (show 0 ≤ c by omega)
  exact Bd.quot (by omega) (dvd_L30 k (by omega) (by omega)) (by omega) (by omega)
theorem GapOk.div {s x : Rat} {M B : Int} (h : GapOk s) (hx : Bd M B x) : Bd (M * L30) (B * 2) (x / s) := by
  rw [Rat.div_def]
  exact hx.mul h.inv
structure CsOk (cs : List (Rat × Rat)) : Prop where
  n2 : 2 ≤ cs.length
  n12 : cs.length ≤ 12
  bx : ∀ i : Nat, i < cs.length → Bd 6 400 (cx cs i)
  b_y : ∀ i : Nat, i < cs.length → Bd 12 60 (cy cs i)
  gap : ∀ i : Nat, i + 1 < cs.length → GapOk (cx cs (i + 1) - cx cs i)
theorem CsOk.lt {cs : List (Rat × Rat)} (h : CsOk cs) (i : Nat) (hi : i + 1 < cs.length) : cx cs i < cx cs (i + 1) := by
  have := (h.gap i hi).pos
  grind
/-! ### what makes a column, and its worths -/
inductive Made where
  | base (g : Int → Rat)
  | sum (a b : Nat)
  | less (a b : Nat)
  | times (a : Nat) (q : Rat)
  | along (a : Nat) (q : Rat)
  | by_ (a : Nat) (cs : List (Rat × Rat))
def sumF (f : Int → Rat) (a : Int) : Nat → Rat
  | 0 => 0
  | n + 1 => sumF f a n + f (a + (n : Int))
theorem sumF_head (f : Int → Rat) (a : Int) : ∀ n : Nat, sumF f a (n + 1) = f a + sumF f (a + 1) n
  | 0 => by
    show 0 + f (a + ((0 : Nat) : Int)) = f a + 0
    have : a + ((0 : Nat) : Int) = a := by omega
    rw [this]
    grind
  | n + 1 => by
    show sumF f a (n + 1) + f (a + ((n + 1 : Nat) : Int)) = f a + (sumF f (a + 1) n + f (a + 1 + (n : Int)))
    rw [sumF_head f a n]
    have : a + ((n + 1 : Nat) : Int) = a + 1 + (n : Int) := by omega
    rw [this]
    grind
def alongF (f : Int → Rat) (q : Rat) (row : Int) : Rat := q + (if row < 0 then 0 - sumF f row (0 - row).toNat else sumF f 0 row.toNat)
theorem along_step (f : Int → Rat) (q : Rat) (row : Int) : alongF f q (row + 1) = alongF f q row + f row := by
  unfold alongF
  by_cases h : row < 0
  · rw [if_pos h]
    obtain ⟨n, hn⟩ : ∃ n : Nat, (0 - row).toNat = n + 1 := ⟨(0 - row).toNat - 1, by omega⟩
    have e := sumF_head f row n
    by_cases h1 : row + 1 < 0
    · rw [if_pos h1, hn, e]
      have : (0 - (row + 1)).toNat = n := by omega
      rw [this]
      grind
    · rw [if_neg h1, hn, e]
      have e1 : (row + 1).toNat = 0 := by omega
      have e2 : n = 0 := by omega
      subst e2
      rw [e1]
      show q + 0 = q + (0 - (f row + 0)) + f row
      grind
  · rw [if_neg h, if_neg (by omega)]
    have e : (row + 1).toNat = row.toNat + 1 := by omega
    rw [e]
    show q + (sumF f 0 row.toNat + f (0 + (row.toNat : Int))) = _
    have : (0 : Int) + (row.toNat : Int) = row := by omega
    rw [this]
    grind
theorem along_zero (f : Int → Rat) (q : Rat) : alongF f q 0 = q := by
  unfold alongF
  rw [if_neg (by decide)]
  show q + 0 = q
  grind
def ev (prev : Nat → Int → Rat) : Made → Int → Rat
  | .base g => g
  | .sum a b => fun r => prev a r + prev b r
  | .less a b => fun r => prev a r - prev b r
  | .times a q => fun r => prev a r * q
  | .along a q => alongF (prev a) q
  | .by_ a cs => fun r => bent cs (prev a r)
def refs : Made → List Nat
  | .base _ => []
  | .sum a b => [a, b]
  | .less a b => [a, b]
  | .times a _ => [a]
  | .along a _ => [a]
  | .by_ a _ => [a]
theorem ev_congr {p q : Nat → Int → Rat} : ∀ {m : Made}, (∀ a ∈ refs m, p a = q a) → ev p m = ev q m
  | .base _, _ => rfl
  | .sum a b, h => by
    have h1 := h a (by simp [refs])
    have h2 := h b (by simp [refs])
    simp only [ev, h1, h2]
  | .less a b, h => by
    have h1 := h a (by simp [refs])
    have h2 := h b (by simp [refs])
    simp only [ev, h1, h2]
  | .times a _, h => by
    have h1 := h a (by simp [refs])
    simp only [ev, h1]
  | .along a _, h => by
    have h1 := h a (by simp [refs])
    simp only [ev, h1]
  | .by_ a _, h => by
    have h1 := h a (by simp [refs])
    simp only [ev, h1]
def made (ms : List Made) (k : Nat) : Made := ms.getD k (.base fun _ => 0)
def valF (ms : List Made) : Nat → Nat → Int → Rat
  | 0, _ => fun _ => 0
  | n + 1, k => ev (valF ms n) (made ms k)
def val (ms : List Made) (k : Nat) : Int → Rat := valF ms (k + 1) k
def Wf (ms : List Made) : Prop := ∀ k a : Nat, a ∈ refs (made ms k) → a < k
theorem valF_eq {ms : List Made} (h : Wf ms) : ∀ k n : Nat, k < n → valF ms n k = val ms k := by
  intro k
  induction k using Nat.strongRecOn with
  | _ k ih =>
    intro n hn
    obtain ⟨m, rfl⟩ : ∃ m, n = m + 1 := ⟨n - 1, by omega⟩
    show ev (valF ms m) (made ms k) = ev (valF ms k) (made ms k)
    refine ev_congr fun a ha => ?_
    have hak := h k a ha
    rw [ih a hak m (by omega), ih a hak k (by omega)]
theorem val_eq {ms : List Made} (h : Wf ms) (k : Nat) : val ms k = ev (val ms) (made ms k) := by
  show ev (valF ms k) (made ms k) = _
  exact ev_congr fun a ha => valF_eq h a k (h k a ha)
/-! ### their size -/
abbrev FF : Int := 27720 * (72 * L30)
abbrev GG : Int := 1000000
def Mk (k : Nat) : Int := MB * FF ^ k
def Bk (k : Nat) : Int := BV * GG ^ k
theorem Mk_succ (k : Nat) : Mk (k + 1) = Mk k * FF := by
  unfold Mk
  rw [Int.pow_succ]
  exact (Int.mul_assoc MB _ _).symm
theorem Bk_succ (k : Nat) : Bk (k + 1) = Bk k * GG := by
  unfold Bk
  rw [Int.pow_succ]
  exact (Int.mul_assoc BV _ _).symm
theorem Bk_big (k : Nat) : 1000000000000 ≤ Bk k := by
  induction k with
  | zero => decide
  | succ k ih =>
    rw [Bk_succ]
    show _ ≤ Bk k * 1000000
    omega
theorem Mk_dvd {a k : Nat} (h : a ≤ k) : Mk a ∣ Mk k := by
  induction k with
  | zero =>
    have : a = 0 := by omega
    subst this
    exact Int.dvd_refl _
  | succ k ih =>
    by_cases e : a = k + 1
    · subst e
      exact Int.dvd_refl _
    · rw [Mk_succ]
      exact Int.dvd_trans (ih (by omega)) (Int.dvd_mul_right ..)
theorem Bk_mono {a k : Nat} (h : a ≤ k) : Bk a ≤ Bk k := by
  induction k with
  | zero =>
    have : a = 0 := by omega
    subst this
    exact Int.le_refl _
  | succ k ih =>
    by_cases e : a = k + 1
    · subst e
      exact Int.le_refl _
    · have h1 := ih (by omega)
      have h2 := Bk_big k
      rw [Bk_succ]
      show _ ≤ Bk k * 1000000
      omega
theorem smB_k : ∀ k : Nat, k ≤ 7 → smB (Mk k * (FF * FF)) (Bk k * (GG * GG)) = true := by
  have h : ∀ k : _root_.Fin 8, smB (Mk k.val * (FF * FF)) (Bk k.val * (GG * GG)) = true := by decide +kernel
  intro k hk
  exact h ⟨k, by omega⟩
/-- a factor, a begin: twelfths -/
structure QOk (q : Rat) : Prop where
  bd : Bd 27720 40 q
structure TabOk (ms : List Made) : Prop where
  wf : Wf ms
  n7 : ms.length ≤ 7
  base : ∀ (k : Nat) g, made ms k = .base g → ∀ row : Int, -100 ≤ row → row ≤ 100 → Bd MB BV (g row)
  times : ∀ (k a : Nat) q, made ms k = .times a q → QOk q
  along : ∀ (k a : Nat) q, made ms k = .along a q → QOk q
  by_ : ∀ (k a : Nat) cs, made ms k = .by_ a cs → CsOk cs
end Tb

/-! ## TbMath6 -/
set_option linter.all false
namespace Tb
/-- a worth far from the lid: what a column may be told of it -/
structure Tame (t : Rat) (M B : Int) : Prop where
  bd : Bd M B t
  sm : smB (M * (FF * FF)) (B * (GG * GG)) = true
  big : 1000000000000 ≤ B
section
variable {t : Rat} {M B : Int}
theorem Bd.smt {q : Rat} {N C c : Int} (h : Bd N C q) (k : smB (M * (FF * FF)) (B * (GG * GG)) = true) (e : N = M * c) (hc : c ∣ FF * FF) (hB : C ≤ B * (GG * GG)) : Sm q :=
  (h.mono (e ▸ Int.mul_dvd_mul_left M hc) hB).sm1 k
theorem Tame.le (h : Tame t M B) {C : Int} (hc : C ≤ B * 1000000) : C ≤ B * (GG * GG) := by
  have := h.big
  show C ≤ B * (1000000 * 1000000)
  omega
theorem Tame.s (h : Tame t M B) : Sm t := h.bd.smt h.sm (c := 1) (Int.mul_one M).symm (by decide +kernel) (h.le (by have := h.big; omega))
/-- the parts of bent -/
theorem bent_x {cs : List (Rat × Rat)} (h : Tame t M B) (c : CsOk cs) {i : Nat} (hi : i < cs.length) : Bd (M * 6) (B + 400) (t - cx cs i) :=
  (h.bd.mono (Int.dvd_mul_right ..) (Int.le_refl _)).sub ((c.bx i hi).mono (Int.dvd_mul_left ..) (Int.le_refl _))
theorem bent_share {cs : List (Rat × Rat)} (h : Tame t M B) (c : CsOk cs) {i : Nat} (hi : i + 1 < cs.length) : Bd (M * 6 * L30) ((B + 400) * 2) ((t - cx cs i) / (cx cs (i + 1) - cx cs i)) :=
  (c.gap i hi).div (bent_x h c (by omega))
theorem bent_dy {cs : List (Rat × Rat)} (c : CsOk cs) {i : Nat} (hi : i + 1 < cs.length) : Bd 12 120 (cy cs (i + 1) - cy cs i) := (c.b_y (i + 1) hi).sub (c.b_y i (by omega))
theorem bent_prod {cs : List (Rat × Rat)} (h : Tame t M B) (c : CsOk cs) {i : Nat} (hi : i + 1 < cs.length) : Bd (M * 6 * L30 * 12) ((B + 400) * 2 * 120) ((t - cx cs i) / (cx cs (i + 1) - cx cs i) * (cy cs (i + 1) - cy cs i)) :=
  (bent_share h c hi).mul (bent_dy c hi)
theorem bent_bd {cs : List (Rat × Rat)} (h : Tame t M B) (c : CsOk cs) : Bd (M * FF) (B * GG) (bent cs t) := by
  have hi := seg_lt (t := t) c.n2
  have h1 := bent_prod h c hi
  have h2 := c.b_y (seg cs t) (by omega)
  have hb := h.big
  have e : M * 6 * L30 * 12 = M * (72 * L30) := by grind
  rw [e] at h1
  have h3 := (h2.mono (N := M * (72 * L30)) (Int.dvd_trans (show (12 : Int) ∣ 72 * L30 by decide +kernel) (Int.dvd_mul_left ..)) (Int.le_refl _)).add h1
  refine h3.mono (Int.mul_dvd_mul_left M (by decide +kernel)) ?_
  show 60 + (B + 400) * 2 * 120 ≤ B * 1000000
  omega
theorem bent_s1 {cs : List (Rat × Rat)} (h : Tame t M B) (c : CsOk cs) {i : Nat} (hi : i < cs.length) : Sm (t - cx cs i) := (bent_x h c hi).smt h.sm (c := 6) rfl (by decide +kernel) (h.le (by have := h.big; omega))
theorem bent_s2 {cs : List (Rat × Rat)} (h : Tame t M B) (c : CsOk cs) {i : Nat} (hi : i + 1 < cs.length) : Sm ((t - cx cs i) / (cx cs (i + 1) - cx cs i)) := (bent_share h c hi).smt h.sm (c := 6 * L30) (by grind) (by decide +kernel) (h.le (by have := h.big; omega))
theorem bent_s3 {cs : List (Rat × Rat)} (h : Tame t M B) (c : CsOk cs) {i : Nat} (hi : i + 1 < cs.length) : Sm ((t - cx cs i) / (cx cs (i + 1) - cx cs i) * (cy cs (i + 1) - cy cs i)) := (bent_prod h c hi).smt h.sm (c := 6 * L30 * 12) (by grind) (by decide +kernel) (h.le (by have := h.big; omega))
theorem CsOk.sx {cs : List (Rat × Rat)} (c : CsOk cs) {i : Nat} (hi : i < cs.length) : Sm (cx cs i) := (c.bx i hi).sm1 (by decide +kernel)
theorem CsOk.sy {cs : List (Rat × Rat)} (c : CsOk cs) {i : Nat} (hi : i < cs.length) : Sm (cy cs i) := (c.b_y i hi).sm1 (by decide +kernel)
theorem CsOk.sg {cs : List (Rat × Rat)} (c : CsOk cs) {i : Nat} (hi : i + 1 < cs.length) : Sm (cx cs (i + 1) - cx cs i) := (c.gap i hi).bd.sm1 (by decide +kernel)
theorem CsOk.sdy {cs : List (Rat × Rat)} (c : CsOk cs) {i : Nat} (hi : i + 1 < cs.length) : Sm (cy cs (i + 1) - cy cs i) := (bent_dy c hi).sm1 (by decide +kernel)
end
theorem sumF_bd {f : Int → Rat} {M B : Int} (hB : 0 ≤ B) : ∀ (n : Nat) (a : Int), (∀ r : Int, a ≤ r → r < a + (n : Int) → Bd M B (f r)) → Bd M (B * (n : Int)) (sumF f a n)
  | 0, a, _ => Bd.of_int (q := 0) (z := 0) rfl (by simp) (by simp)
  | n + 1, a, h => by
    have ih := sumF_bd hB n a fun r h1 h2 => h r h1 (by omega)
    have h1 := h (a + (n : Int)) (by omega) (by omega)
    refine (ih.add h1).mono (Int.dvd_refl _) ?_
    have : ((n + 1 : Nat) : Int) = (n : Int) + 1 := by omega
    rw [this, Int.mul_add, Int.mul_one]
    exact Int.le_refl _
theorem val_bd {ms : List Made} (h : TabOk ms) : ∀ k : Nat, k < ms.length → ∀ row : Int, -14 ≤ row → row ≤ 25 → Bd (Mk k) (Bk k) (val ms k row) := by
  intro k
  induction k using Nat.strongRecOn with
  | _ k ih =>
    intro hk row r1 r2
    have h7 := h.n7
    have hw := h.wf k
    have rf := val_eq h.wf k
    have tame : ∀ a, a < k → ∀ row : Int, -14 ≤ row → row ≤ 25 → Tame (val ms a row) (Mk a) (Bk a) := fun a ha row r1 r2 => ⟨ih a ha (by omega) row r1 r2, smB_k a (by omega), Bk_big a⟩
    have up : ∀ a, a < k → ∀ {q : Rat}, Bd (Mk a * FF) (Bk a * GG) q → Bd (Mk k) (Bk k) q := fun a ha q hq => by
      rw [← Mk_succ, ← Bk_succ] at hq
      exact hq.mono (Mk_dvd (by omega)) (Bk_mono (by omega))
    rw [rf]
    cases e : made ms k with
    | base g =>
      have := h.base k g e row (by omega) (by omega)
      exact this.mono (by have := Mk_dvd (Nat.zero_le k); unfold Mk at this; simpa [Mk] using this) (by have := Bk_mono (Nat.zero_le k); unfold Bk at this; simpa [Bk] using this)
    | sum a b =>
      have ha := hw a (by rw [e]; simp [refs])
      have hb := hw b (by rw [e]; simp [refs])
      have t1 := (tame a ha row r1 r2).bd.mono (Mk_dvd (Nat.le_of_lt_succ (by omega : a < (k - 1) + 1))) (Bk_mono (Nat.le_of_lt_succ (by omega : a < (k - 1) + 1)))
      have t2 := (tame b hb row r1 r2).bd.mono (Mk_dvd (Nat.le_of_lt_succ (by omega : b < (k - 1) + 1))) (Bk_mono (Nat.le_of_lt_succ (by omega : b < (k - 1) + 1)))
      refine up (k - 1) (by omega) ((t1.add t2).mono (Int.dvd_mul_right ..) ?_)
      have := Bk_big (k - 1)
      show _ ≤ Bk (k - 1) * 1000000
      omega
    | less a b =>
      have ha := hw a (by rw [e]; simp [refs])
      have hb := hw b (by rw [e]; simp [refs])
      have t1 := (tame a ha row r1 r2).bd.mono (Mk_dvd (Nat.le_of_lt_succ (by omega : a < (k - 1) + 1))) (Bk_mono (Nat.le_of_lt_succ (by omega : a < (k - 1) + 1)))
      have t2 := (tame b hb row r1 r2).bd.mono (Mk_dvd (Nat.le_of_lt_succ (by omega : b < (k - 1) + 1))) (Bk_mono (Nat.le_of_lt_succ (by omega : b < (k - 1) + 1)))
      refine up (k - 1) (by omega) ((t1.sub t2).mono (Int.dvd_mul_right ..) ?_)
      have := Bk_big (k - 1)
      show _ ≤ Bk (k - 1) * 1000000
      omega
    | times a q =>
      have ha := hw a (by rw [e]; simp [refs])
      have t1 := (tame a ha row r1 r2).bd.mul (h.times k a q e).bd
      refine up a ha (t1.mono (Int.mul_dvd_mul_left _ (by decide +kernel)) ?_)
      have := Bk_big a
      show _ ≤ Bk a * 1000000
      omega
    | along a q =>
      have ha := hw a (by rw [e]; simp [refs])
      have hq : Bd (Mk a * FF) 40 q := (h.along k a q e).bd.mono (Int.dvd_trans (by decide +kernel) (Int.dvd_mul_left ..)) (Int.le_refl _)
      have hb := Bk_big a
      refine up a ha ?_
      show Bd _ _ (alongF (val ms a) q row)
      unfold alongF
      split
      · have s := sumF_bd (f := val ms a) (M := Mk a) (B := Bk a) (by omega) (0 - row).toNat row fun r h1 h2 => (tame a ha r (by omega) (by omega)).bd
        have z : Bd (Mk a) 0 (0 : Rat) := Bd.of_int (q := 0) (z := 0) rfl (by decide) (by decide)
        refine (hq.add ((z.sub s).mono (Int.dvd_mul_right ..) (Int.le_refl _))).mono (Int.dvd_refl _) ?_
        have h14 : (((0 - row).toNat : Nat) : Int) ≤ 14 := by omega
        have : Bk a * (((0 - row).toNat : Nat) : Int) ≤ Bk a * 14 := Int.mul_le_mul_of_nonneg_left h14 (by omega)
        show _ ≤ Bk a * 1000000
        omega
      · have s := sumF_bd (f := val ms a) (M := Mk a) (B := Bk a) (by omega) row.toNat 0 fun r h1 h2 => (tame a ha r (by omega) (by omega)).bd
        refine (hq.add (s.mono (Int.dvd_mul_right ..) (Int.le_refl _))).mono (Int.dvd_refl _) ?_
        have h25 : ((row.toNat : Nat) : Int) ≤ 25 := by omega
        have : Bk a * ((row.toNat : Nat) : Int) ≤ Bk a * 25 := Int.mul_le_mul_of_nonneg_left h25 (by omega)
        show _ ≤ Bk a * 1000000
        omega
    | by_ a cs =>
      have ha := hw a (by rw [e]; simp [refs])
      exact up a ha (bent_bd (tame a ha row r1 r2) (h.by_ k a cs e))
theorem val_tame {ms : List Made} (h : TabOk ms) {k : Nat} (hk : k < ms.length) {row : Int} (r1 : -14 ≤ row) (r2 : row ≤ 25) : Tame (val ms k row) (Mk k) (Bk k) := ⟨val_bd h k hk row r1 r2, smB_k k (by have := h.n7; omega), Bk_big k⟩
theorem sum_sm {ms : List Made} (h : TabOk ms) {k : Nat} (hk : k < ms.length) (a : Int) (n : Nat) (h1 : -14 ≤ a) (h2 : a + (n : Int) ≤ 26) : Sm (sumF (val ms k) a n) := by
  have hb := Bk_big k
  have s := sumF_bd (f := val ms k) (M := Mk k) (B := Bk k) (by omega) n a fun r h3 h4 => val_bd h k hk r (by omega) (by omega)
  refine s.smt (smB_k k (by have := h.n7; omega)) (c := 1) (Int.mul_one _).symm (by decide +kernel) ?_
  have h40 : (n : Int) ≤ 40 := by omega
  have : Bk k * (n : Int) ≤ Bk k * 40 := Int.mul_le_mul_of_nonneg_left h40 (by omega)
  show _ ≤ Bk k * (1000000 * 1000000)
  omega
theorem neg_sm {ms : List Made} (h : TabOk ms) {k : Nat} (hk : k < ms.length) (a : Int) (n : Nat) (h1 : -14 ≤ a) (h2 : a + (n : Int) ≤ 26) : Sm (0 - sumF (val ms k) a n) := by
  have hb := Bk_big k
  have s := sumF_bd (f := val ms k) (M := Mk k) (B := Bk k) (by omega) n a fun r h3 h4 => val_bd h k hk r (by omega) (by omega)
  have z : Bd (Mk k) 0 (0 : Rat) := Bd.of_int (q := 0) (z := 0) rfl (by decide) (by decide)
  refine (z.sub s).smt (smB_k k (by have := h.n7; omega)) (c := 1) (Int.mul_one _).symm (by decide +kernel) ?_
  have h40 : (n : Int) ≤ 40 := by omega
  have : Bk k * (n : Int) ≤ Bk k * 40 := Int.mul_le_mul_of_nonneg_left h40 (by omega)
  show _ ≤ Bk k * (1000000 * 1000000)
  omega
end Tb

/-! ## TbMath7 -/
set_option linter.all false
namespace Tb
/-! ### what the law draws -/
structure UnitOk (u : Rat) : Prop where
  ex : ∃ n d : Int, 1 ≤ n ∧ n ≤ 40 ∧ 0 < d ∧ d ∣ 25200 ∧ u = Rat.divInt n d
theorem divInt_pos {n d : Int} (h1 : 0 < n) (h2 : 0 < d) : 0 < Rat.divInt n d := by
  rw [Rat.divInt_eq_div, Rat.div_def]
  exact Rat.mul_pos (Rat.intCast_pos.mpr h1) (Rat.inv_pos.mpr (Rat.intCast_pos.mpr h2))
theorem divInt_nonneg' {n d : Int} (h1 : 0 ≤ n) (h2 : 0 < d) : 0 ≤ Rat.divInt n d := by
  rcases Int.lt_or_eq_of_le h1 with h | h
  · exact Rat.le_of_lt (divInt_pos h h2)
  · rw [← h, Rat.zero_divInt]
    exact Rat.le_refl
theorem divInt_le {n d k : Int} (h2 : 0 < d) (h : n ≤ k * d) : Rat.divInt n d ≤ (k : Rat) := by
  have hd : (0 : Rat) < (d : Rat) := Rat.intCast_pos.mpr h2
  have h3 : (n : Rat) ≤ (k : Rat) * (d : Rat) := by
    rw [← Rat.intCast_mul]
    exact Rat.intCast_le_intCast.mpr h
  have e : (k : Rat) = ((k : Rat) * (d : Rat)) * (d : Rat)⁻¹ := by
    rw [Rat.mul_assoc, Rat.mul_inv_cancel _ (by grind), Rat.mul_one]
  rw [Rat.divInt_eq_div, Rat.div_def, e]
  exact Rat.mul_le_mul_of_nonneg_right h3 (Rat.le_of_lt (Rat.inv_pos.mpr hd))
theorem UnitOk.pos {u : Rat} (h : UnitOk u) : 0 < u := by
  obtain ⟨n, d, h1, h2, h3, h4, rfl⟩ := h.ex
  exact divInt_pos (by omega) h3
theorem UnitOk.bd {u : Rat} (h : UnitOk u) : Bd 25200 40 u := by
  obtain ⟨n, d, h1, h2, h3, h4, rfl⟩ := h.ex
  exact Bd.quot h3 h4 (by omega) (by omega)
section
variable {u : Rat} {m W n c : Int}
theorem lo_bd (h : UnitOk u) (m0 : 0 ≤ m) (m1 : m ≤ 24) : Bd 25200 960 (u * (m : Rat)) := (h.bd.mul (Bd.int 1 (B := 24) (by omega) m1)).mono (by decide) (by decide)
theorem wide_bd (h : UnitOk u) (W0 : 1 ≤ W) (W1 : W ≤ 30) : Bd 25200 1200 (u * (W : Rat)) := (h.bd.mul (Bd.int 1 (B := 30) (by omega) W1)).mono (by decide) (by decide)
theorem hi_bd (h : UnitOk u) (m0 : 0 ≤ m) (m1 : m ≤ 24) (W0 : 1 ≤ W) (W1 : W ≤ 30) : Bd 25200 2160 (u * (m : Rat) + u * (W : Rat)) := (lo_bd h m0 m1).add (wide_bd h W0 W1)
theorem half_bd (W1 : W ≤ 30) (n0 : 1 ≤ n) (n1 : n ≤ 2 * W) : Bd 2 60 (Rat.divInt n 2) := Bd.quot (by decide) (by decide) (by omega) (by omega)
theorem pace_bd (h : UnitOk u) (W1 : W ≤ 30) (n0 : 1 ≤ n) (n1 : n ≤ 2 * W) : Bd 50400 2400 (u * Rat.divInt n 2) := (h.bd.mul (half_bd W1 n0 n1)).mono (by decide) (by decide)
theorem third_bd (W1 : W ≤ 30) (c0 : 0 ≤ c) (c1 : c ≤ 3 * W) : Bd 3 90 (Rat.divInt c 3) := Bd.quot (by decide) (by decide) (by omega) (by omega)
theorem off_bd (h : UnitOk u) (W1 : W ≤ 30) (c0 : 0 ≤ c) (c1 : c ≤ 3 * W) : Bd 75600 3600 (u * Rat.divInt c 3) := (h.bd.mul (third_bd W1 c0 c1)).mono (by decide) (by decide)
theorem at_bd (h : UnitOk u) (m0 : 0 ≤ m) (m1 : m ≤ 24) (W1 : W ≤ 30) (c0 : 0 ≤ c) (c1 : c ≤ 3 * W) : Bd 75600 4560 (u * (m : Rat) + u * Rat.divInt c 3) := ((lo_bd h m0 m1).mono (by decide) (Int.le_refl _)).add (off_bd h W1 c0 c1)
theorem line_l0 (h : UnitOk u) (m0 : 0 ≤ m) : 0 ≤ u * (m : Rat) := Rat.mul_nonneg (Rat.le_of_lt h.pos) (by
  have := Rat.intCast_le_intCast.mpr m0
  simpa using this)
theorem line_l1 (h : UnitOk u) (W0 : 1 ≤ W) : u * (m : Rat) < u * (m : Rat) + u * (W : Rat) := by
  have : 0 < u * (W : Rat) := Rat.mul_pos h.pos (Rat.intCast_pos.mpr (by omega))
  grind
theorem line_l2 (h : UnitOk u) (n0 : 1 ≤ n) : 0 < u * Rat.divInt n 2 := Rat.mul_pos h.pos (divInt_pos (by omega) (by decide))
theorem line_l3 (h : UnitOk u) (n1 : n ≤ 2 * W) : u * Rat.divInt n 2 ≤ (u * (m : Rat) + u * (W : Rat)) - u * (m : Rat) := by
  have := Rat.mul_le_mul_of_nonneg_left (divInt_le (d := 2) (k := W) (by decide) (by omega : n ≤ W * 2)) (Rat.le_of_lt h.pos)
  grind
theorem line_l4 (h : UnitOk u) (c0 : 0 ≤ c) : u * (m : Rat) ≤ u * (m : Rat) + u * Rat.divInt c 3 := by
  have := Rat.mul_nonneg (Rat.le_of_lt h.pos) (divInt_nonneg' c0 (show (0 : Int) < 3 by decide))
  grind
theorem line_l5 (h : UnitOk u) (c1 : c ≤ 3 * W) : u * (m : Rat) + u * Rat.divInt c 3 ≤ u * (m : Rat) + u * (W : Rat) := by
  have := Rat.mul_le_mul_of_nonneg_left (divInt_le (d := 3) (k := W) (by decide) (by omega : c ≤ W * 3)) (Rat.le_of_lt h.pos)
  grind
end
/-! ### digits -/
def Dg (ds : List Int) : Prop := ∀ d ∈ ds, 0 ≤ d ∧ d ≤ 1008
theorem Dg.at_ {ds : List Int} (h : Dg ds) (i : Nat) : 0 ≤ ds.getD i 0 ∧ ds.getD i 0 ≤ 1008 := by
  rw [List.getD_eq_getElem?_getD]
  cases e : ds[i]? with
  | none => exact ⟨by decide, by decide⟩
  | some d => exact h d (List.mem_of_getElem? e)
theorem Dg.sub {ds es : List Int} (h : Dg ds) (k : ∀ x ∈ es, x ∈ ds) : Dg es := fun d hd => h d (k d hd)
/-- the least list index of a written table -/
theorem pick_all {P : Int → Prop} {xs : List Int} {z : Int} (h : ∀ x ∈ xs, P x) (h0 : 0 ≤ z) (h1 : z < (xs.length : Int)) : P (xs.getD z.toNat 0) := by
  rw [List.getD_eq_getElem?_getD]
  have hz : z.toNat < xs.length := by omega
  rw [List.getElem?_eq_getElem hz]
  exact h _ (List.getElem_mem hz)
end Tb

/-! ## TbMath8 -/
set_option linter.all false
namespace Tb
/-! ### zones as the law draws them -/
def extF (e : Nat → Rat) (n : Nat) (q : Rat) : Nat → Rat := fun j => if j = n then q else e j
theorem extF_same {e : Nat → Rat} {n : Nat} {q : Rat} : extF e n q n = q := if_pos rfl
theorem extF_ne {e : Nat → Rat} {n j : Nat} {q : Rat} (h : j ≠ n) : extF e n q j = e j := if_neg h
structure EdgeOk (e : Nat → Rat) (n : Nat) : Prop where
  e0 : e 0 = 0
  lt : ∀ i : Nat, i < n → e i < e (i + 1)
  bd : ∀ i : Nat, i ≤ n → Bd 420 (60 * (i : Int)) (e i)
theorem EdgeOk.ext {e : Nat → Rat} {n : Nat} {q : Rat} (h : EdgeOk e n) (h0 : 0 < q) (hb : Bd 420 60 q) : EdgeOk (extF e (n + 1) (e n + q)) (n + 1) where
  e0 := by rw [extF_ne (by omega)]; exact h.e0
  lt := fun i hi => by
    by_cases c : i = n
    · subst c
      rw [extF_ne (by omega), extF_same]
      grind
    · rw [extF_ne (by omega), extF_ne (by omega)]
      exact h.lt i (by omega)
  bd := fun i hi => by
    by_cases c : i = n + 1
    · subst c
      rw [extF_same]
      refine ((h.bd n (Nat.le_refl n)).add hb).mono (Int.dvd_refl _) ?_
      have : ((n + 1 : Nat) : Int) = (n : Int) + 1 := by omega
      rw [this]
      omega
    · rw [extF_ne c]
      exact h.bd i (by omega)
theorem EdgeOk.nonneg {e : Nat → Rat} {n : Nat} (h : EdgeOk e n) : ∀ i : Nat, i ≤ n → 0 ≤ e i
  | 0, _ => by rw [h.e0]; exact Rat.le_refl
  | i + 1, hi => by
    have h1 := h.nonneg i (by omega)
    have h2 := h.lt i (by omega)
    grind
theorem EdgeOk.lt_last {e : Nat → Rat} {n : Nat} (h : EdgeOk e n) : ∀ d i : Nat, i + d + 1 = n → e i < e n
  | 0, i, hi => by
    have := h.lt i (by omega)
    have e1 : i + 1 = n := by omega
    rw [e1] at this
    exact this
  | d + 1, i, hi => by
    have h1 := h.lt i (by omega)
    have h2 := h.lt_last d (i + 1) (by omega)
    grind
theorem range_getD {e : Nat → Rat} {n i : Nat} (h : i < n) : ((List.range n).map e).getD i 0 = e i := by simp [h]
theorem EdgeOk.arg {e : Nat → Rat} {n : Nat} {ss : List Rat} {at_ : Rat} (h : EdgeOk e n) (n1 : 1 ≤ n) (n5 : n ≤ 5) (ls : ss.length = n) (st : ∀ i : Nat, i < n → StepOk (ss.getD i 0)) (a0 : 0 ≤ at_) (ar : at_ < e n) (ba : Bd 5040 BI at_) : ZoneArg ((List.range n).map e) ss (e n) at_ where
  n1 := by simpa using n1
  n2 := by
    have : ((List.range n).map e).length = n := by simp
    omega
  ls := by simpa using ls
  b0 := by rw [range_getD (by omega)]; exact h.e0
  bb := fun i hi => by
    have hi : i < n := by simpa using hi
    rw [range_getD hi]
    refine (h.bd i (by omega)).mono (by decide) ?_
    show 60 * (i : Int) ≤ 1000000
    omega
  br := (h.bd n (Nat.le_refl n)).mono (by decide) (by
    show 60 * (n : Int) ≤ 1000000
    omega)
  r0 := by
    have := h.lt_last (n - 1) 0 (by omega)
    rw [h.e0] at this
    exact this
  ri := fun i hi => by
    have hi : i < n := by simpa using hi
    have hl : ((List.range n).map e).length = n := by simp
    rw [range_getD hi]
    by_cases c : i + 1 < n
    · rw [getD_l (by omega), range_getD c]
      exact h.lt i hi
    · have e1 : i + 1 = n := by omega
      have e2 := getD_e (bs := (List.range n).map e) (r := e n)
      rw [hl] at e2
      rw [e1, e2]
      have := h.lt i hi
      rw [e1] at this
      exact this
  st := fun i hi => st i (by simpa using hi)
  a0 := a0
  ar := ar
  ba := ba
theorem share_lt {r : Rat} {z : Int} (h : 0 < r) (z0 : 0 ≤ z) (z1 : z < 12) : 0 ≤ r * Rat.divInt z 12 ∧ r * Rat.divInt z 12 < r := by
  have h1 := divInt_nonneg' z0 (show (0 : Int) < 12 by decide)
  have h2 : Rat.divInt z 12 < 1 := by
    have h3 : (z : Rat) < ((12 : Int) : Rat) := Rat.intCast_lt_intCast.mpr z1
    rw [Rat.divInt_eq_div]
    have h4 : ((12 : Int) : Rat) = 12 := rfl
    rw [h4] at h3 ⊢
    grind
  refine ⟨Rat.mul_nonneg (Rat.le_of_lt h) h1, ?_⟩
  have := Rat.mul_lt_mul_of_pos_left h2 h
  grind
theorem edge_w {n d : Int} (n0 : 1 ≤ n) (n1 : n ≤ 60) (d0 : 0 < d) (hd : d ∣ 420) : 0 < Rat.divInt n d ∧ Bd 420 60 (Rat.divInt n d) := ⟨divInt_pos (by omega) d0, Bd.quot d0 hd (by omega) (by omega)⟩
end Tb

/-! ## TbMath9 -/
set_option linter.all false
namespace Tb
/-! ### corners as the law draws them -/
structure CrnOk (X Y : Nat → Rat) (n : Nat) : Prop where
  gap : ∀ i : Nat, i < n → GapOk (X (i + 1) - X i)
  bx : ∀ i : Nat, i ≤ n → Bd 6 (20 + 30 * (i : Int)) (X i)
  b_y : ∀ i : Nat, i < n → Bd 12 60 (Y i)
theorem CrnOk.ext {X Y : Nat → Rat} {n : Nat} {g y : Rat} (h : CrnOk X Y n) (hg : GapOk g) (hy : Bd 12 60 y) : CrnOk (extF X (n + 1) (X n + g)) (extF Y n y) (n + 1) where
  gap := fun i hi => by
    by_cases c : i = n
    · subst c
      rw [extF_same, extF_ne (by omega)]
      have : X i + g - X i = g := by grind
      rw [this]
      exact hg
    · rw [extF_ne (by omega), extF_ne (by omega)]
      exact h.gap i (by omega)
  bx := fun i hi => by
    by_cases c : i = n + 1
    · subst c
      rw [extF_same]
      refine ((h.bx n (Nat.le_refl n)).add (hg.bd.mono (N := 6) (by decide) (Int.le_refl _))).mono (Int.dvd_refl _) ?_
      have : ((n + 1 : Nat) : Int) = (n : Int) + 1 := by omega
      rw [this]
      omega
    · rw [extF_ne c]
      exact h.bx i (by omega)
  b_y := fun i hi => by
    by_cases c : i = n
    · subst c
      rw [extF_same]
      exact hy
    · rw [extF_ne c]
      exact h.b_y i (by omega)
def crn (X Y : Nat → Rat) (n : Nat) : List (Rat × Rat) := (List.range n).map fun i => (X i, Y i)
theorem crn_len {X Y : Nat → Rat} {n : Nat} : (crn X Y n).length = n := by simp [crn]
theorem crn_get {X Y : Nat → Rat} {n i : Nat} (h : i < n) : (crn X Y n).getD i (0, 0) = (X i, Y i) := by simp [crn, h]
theorem CrnOk.ok {X Y : Nat → Rat} {n : Nat} (h : CrnOk X Y n) (n2 : 2 ≤ n) (n12 : n ≤ 12) : CsOk (crn X Y n) where
  n2 := by rw [crn_len]; exact n2
  n12 := by rw [crn_len]; exact n12
  bx := fun i hi => by
    rw [crn_len] at hi
    unfold cx
    rw [crn_get hi]
    refine (h.bx i (by omega)).mono (Int.dvd_refl _) ?_
    omega
  b_y := fun i hi => by
    rw [crn_len] at hi
    unfold cy
    rw [crn_get hi]
    exact h.b_y i hi
  gap := fun i hi => by
    rw [crn_len] at hi
    unfold cx
    rw [crn_get hi, crn_get (show i < n by omega)]
    exact h.gap i (by omega)
theorem gap_of {n m : Int} (h1 : 1 ≤ n) (h2 : n ≤ 30) (h3 : 1 ≤ m) (h4 : m ≤ 2) : GapOk (Rat.divInt n m) := ⟨n, m, h1, h2, h3, h4, rfl⟩
theorem dvd_6 {d : Int} (h1 : 1 ≤ d) (h2 : d ≤ 3) : d ∣ 6 := by
  rcases (show d = 1 ∨ d = 2 ∨ d = 3 by omega) with rfl | rfl | rfl <;> decide
theorem dvd_12 {d : Int} (h1 : 1 ≤ d) (h2 : d ≤ 4) : d ∣ 12 := by
  rcases (show d = 1 ∨ d = 2 ∨ d = 3 ∨ d = 4 by omega) with rfl | rfl | rfl | rfl <;> decide
theorem dvd_27720 {d : Int} (h1 : 1 ≤ d) (h2 : d ≤ 12) : d ∣ 27720 := by
  rcases (show d = 1 ∨ d = 2 ∨ d = 3 ∨ d = 4 ∨ d = 5 ∨ d = 6 ∨ d = 7 ∨ d = 8 ∨ d = 9 ∨ d = 10 ∨ d = 11 ∨ d = 12 by omega) with rfl | rfl | rfl | rfl | rfl | rfl | rfl | rfl | rfl | rfl | rfl | rfl <;> decide
/-! ### one column more -/
structure MOk (m : Made) (i : Nat) : Prop where
  wf : ∀ a ∈ refs m, a < i
  base : ∀ g, m = .base g → ∀ row : Int, -100 ≤ row → row ≤ 100 → Bd MB BV (g row)
  times : ∀ a q, m = .times a q → QOk q
  along : ∀ a q, m = .along a q → QOk q
  by_ : ∀ a cs, m = .by_ a cs → CsOk cs
theorem made_lt {ms : List Made} {m : Made} {k : Nat} (h : k < ms.length) : made (ms ++ [m]) k = made ms k := by
  unfold made
  simp only [List.getD_eq_getElem?_getD]
  rw [List.getElem?_append_left h]
theorem made_eq {ms : List Made} {m : Made} : made (ms ++ [m]) ms.length = m := by
  unfold made
  simp only [List.getD_eq_getElem?_getD]
  rw [List.getElem?_append_right (Nat.le_refl _)]
  simp
theorem made_gt {ms : List Made} {m : Made} {k : Nat} (h : ms.length < k) : made (ms ++ [m]) k = .base fun _ => 0 := by
  unfold made
  simp only [List.getD_eq_getElem?_getD]
  rw [List.getElem?_eq_none (by rw [List.length_append]; show ms.length + 1 ≤ k; omega)]
  rfl
theorem base0 : ∀ g, (Made.base fun _ => 0) = .base g → ∀ row : Int, -100 ≤ row → row ≤ 100 → Bd MB BV (g row) := fun g e row _ _ => by
  cases e
  exact Bd.of_int (z := 0) rfl (by decide) (by decide)
theorem mok0 (i : Nat) : MOk (.base fun _ => 0) i := ⟨fun a ha => (by cases ha), base0, fun a q e => (by cases e), fun a q e => (by cases e), fun a q e => (by cases e)⟩
theorem TabOk.mok {ms : List Made} (h : TabOk ms) (k : Nat) : MOk (made ms k) k := ⟨fun a ha => h.wf k a ha, fun g e => h.base k g e, fun a q e => h.times k a q e, fun a q e => h.along k a q e, fun a q e => h.by_ k a q e⟩
theorem TabOk.of {ms : List Made} (h7 : ms.length ≤ 7) (h : ∀ k, MOk (made ms k) k) : TabOk ms := ⟨fun k a ha => (h k).wf a ha, h7, fun k g e => (h k).base g e, fun k a q e => (h k).times a q e, fun k a q e => (h k).along a q e, fun k a q e => (h k).by_ a q e⟩
theorem tabok_nil : TabOk [] := TabOk.of (by decide) fun k => mok0 k
theorem TabOk.snoc {ms : List Made} {m : Made} (h : TabOk ms) (h7 : ms.length < 7) (hm : MOk m ms.length) : TabOk (ms ++ [m]) := TabOk.of (by rw [List.length_append]; show ms.length + 1 ≤ 7; omega) fun k => by
  rcases Nat.lt_trichotomy k ms.length with c | c | c
  · rw [made_lt c]
    exact h.mok k
  · subst c
    rw [made_eq]
    exact hm
  · rw [made_gt c]
    exact mok0 k
end Tb

/-! ## TbEv -/
set_option Elab.async false
set_option linter.all false
set_option maxRecDepth 100000
set_option maxHeartbeats 4000000
namespace Tb
open PySem PySem.Spec PyProof.Rows L2 Evl
/-! ### a def that stands, and the promise it keeps -/
structure Fn (P : Program) (w : World) (K : PySem.W.Frag) (mg : Str → Option Value) (base : Heap) (k : Nat) (x : Str) (ps : List Str) (sp : Sp) : Prop where
  ex : ∃ f fd, FnOk P w K mg base CX0 k f fd ps sp ∧ mg x = some (.ref f) ∧ PySem.W.keepIn K (.ref f) = true ∧ Binds K fd ps []
structure Me (P : Program) (w : World) (K : PySem.W.Frag) (mg : Str → Option Value) (base : Heap) (C : Addr) (k : Nat) (m : Str) (ps : List Str) (sp : Sp) : Prop where
  ex : ∃ f fd, FnOk P w K mg base CX0 k f fd ps sp ∧ Meth K C m f ∧ Binds K fd ps []
section
variable {X : Cx} {k j : Nat} {x m : Str} {ps : List Str} {sp : Sp} {p pos apos : Pos} {e o : Expr} {es : List Expr} {t : TA} {ta : TE} {C : Addr}
theorem pe_fn (h : Fn X.prog X.w X.K X.mg X.base k x ps sp) (hr : Room k X.A) (hg : Gl X x) (ha : PA X (e :: es) t) (hdb : (x == ("__debug__" : Str)) = false := by decide)
    (he : starEach (e :: es) X.env = (false, eval e X.env) :: starEach es X.env := by rfl) (hpl : (backTo pos (starEach es X.env)).any (·.1) = false := by rfl) : PE X (.Call (.Name x p) (e :: es) [] pos) (tCall sp [] E0 t) := by
  obtain ⟨f, fd, F, hm, hk, hb⟩ := h.ex
  exact pe_call F hr hg hm hk hb .nil pass0 ha hdb he hpl
theorem pe_me {pl : Sem Bool} (h : Me X.prog X.w X.K X.mg X.base C k m ps sp) (c : Cls X.K C) (hr : Room k X.A) (he : PE X o ta) (ha : PA X (e :: es) t)
    (hst : starEach (e :: es) X.env = (false, eval e X.env) :: starEach es X.env := by rfl) (hpl : (backTo pos (starEach es X.env)).any (·.1) = false := by rfl)
    (ht : eval (.Call (.Attribute o m apos) (e :: es) [] pos) X.env = (do
      let ov ← eval o X.env
      standAt apos.atName
      let (f, first) ← holding [ov] (getMethod ov m pl)
      callWith pos f first (backTo pos (starEach (e :: es) X.env)) (backToKw pos (keywordEach [] X.env))) := by rfl) :
    PE X (.Call (.Attribute o m apos) (e :: es) [] pos) (tMeth C m sp [] E0 ta t) := by
  obtain ⟨f, fd, F, hm, hb⟩ := h.ex
  exact pe_meth (pl := pl) he c hm F hr hb .nil pass0 ha hst hpl ht
theorem pe_me0 {pl : Sem Bool} (h : Me X.prog X.w X.K X.mg X.base C k m ps sp) (c : Cls X.K C) (hr : Room k X.A) (he : PE X o ta)
    (ht : eval (.Call (.Attribute o m apos) [] [] pos) X.env = (do
      let ov ← eval o X.env
      standAt apos.atName
      let (f, first) ← holding [ov] (getMethod ov m pl)
      callWith pos f first (backTo pos (starEach [] X.env)) (backToKw pos (keywordEach [] X.env))) := by rfl) :
    PE X (.Call (.Attribute o m apos) [] [] pos) (tMeth C m sp [] E0 ta tNil) := by
  obtain ⟨f, fd, F, hm, hb⟩ := h.ex
  exact pe_meth0 (pl := pl) he c hm F hr hb .nil pass0 ht
/-- a built-in type, by its name -/
theorem pe_ty {n : String} (hg : Gl X x) (hm : X.mg x = none) (hv : bootBuiltins x = some (.type n)) (hn : x ≠ "__name__" := by decide) (hd : (x == ("__debug__" : Str)) = false := by decide) : PE X (.Name x pos) (tC (.ty n)) := pe_bltn (v := .ty n) hg hm hv rfl hn hd
/-- an object of the module, by its name -/
theorem pe_gref {a : Addr} (hg : Gl X x) (hm : X.mg x = some (.ref a)) (hd : (x == ("__debug__" : Str)) = false := by decide) : PE X (.Name x pos) (tC (.ref a)) := pe_glob (v := .ref a) hg hm rfl hd
/-- either of two readings -/
theorem PE.or {t1 t2 : TE} (h1 : PE X e t1) (h2 : PE X e t2) : PE X e (fun σ H Q => t1 σ H Q ∨ t2 σ H Q) :=
  ⟨fun pins s σ H Q I h => h.elim (h1.run pins s σ H Q I) (h2.run pins s σ H Q I)⟩
end

/-! ### what evaluates to something of which R holds; a worth -/
def EvR (te : TE) (σ : L2.St) (H : Hp) (R : V → Hp → Prop) : Prop := ∀ H1, Ex H H1 → ∀ Q : VK, (∀ v H2, Ex H1 H2 → R v H2 → Q v H2) → te σ H1 Q
def Mon (R : V → Hp → Prop) : Prop := ∀ v H H', Ex H H' → R v H → R v H'
def WAt (K : PySem.W.Frag) (H : Hp) (a : Addr) (q : Rat) : Prop := SqT K H a [.int q.num, .int (q.den : Int)]
def IsW (K : PySem.W.Frag) (q : Rat) : V → Hp → Prop := fun v H => ∃ a, v = .ref a ∧ WAt K H a q
theorem WAt.mono {K : PySem.W.Frag} {H H' : Hp} {a : Addr} {q : Rat} (h : WAt K H a q) (e : Ex H H') : WAt K H' a q := ex_t e h
theorem isw_mon {K : PySem.W.Frag} {q : Rat} : Mon (IsW K q) := fun _ _ _ e ⟨a, h, w⟩ => ⟨a, h, w.mono e⟩
abbrev EW (K : PySem.W.Frag) (te : TE) (σ : L2.St) (H : Hp) (q : Rat) : Prop := EvR te σ H (IsW K q)
/-- a promise: arguments of which A i holds, an answer of which R i holds; all that stood stands -/
def spI {ι : Type} (A : ι → List V → Hp → Prop) (R : ι → V → Hp → Prop) : Sp := fun vs H Q _ => ∃ i, A i vs H ∧ ∀ v H', Ex H H' → R i v H' → Q v H'
section
variable {K : PySem.W.Frag} {σ : L2.St} {H H' : Hp} {ta tb te : TE} {v x y : V} {R R1 R2 : V → Hp → Prop} {q r : Rat} {a : Addr} {i : Nat} {D : Ends} {tz : TS}
theorem EvR.mono (h : EvR te σ H R) (e : Ex H H') : EvR te σ H' R := fun H1 e1 Q q => h H1 (e.trans e1) Q q
theorem EvR.imp (h : EvR te σ H R1) (k : ∀ v H1, Ex H H1 → R1 v H1 → R2 v H1) : EvR te σ H R2 := fun H1 e1 Q q => h H1 e1 Q fun v H2 e2 r => q v H2 e2 (k v H2 (e1.trans e2) r)
theorem er_of (h : Ev te σ H v) (k : ∀ H1, Ex H H1 → R v H1) : EvR te σ H R := fun H1 e1 Q q => h H1 e1 Q fun H2 e2 => q v H2 e2 (k H2 (e1.trans e2))
theorem ew_var (h : σ[i]? = some (some (.ref a))) (hw : WAt K H a q) : EW K (tVar i) σ H q := er_of (ev_var h) fun _ e => ⟨a, rfl, hw.mono e⟩
theorem ew_of (h : Ev te σ H (.ref a)) (hw : WAt K H a q) : EW K te σ H q := er_of h fun _ e => ⟨a, rfl, hw.mono e⟩
theorem ew_eq (h : EW K te σ H q) (e : q = r) : EW K te σ H r := e ▸ h
theorem wat_num (h : WAt K H a q) : Ev (tOp (rIxT K) (tC (.ref a)) (tC (.int 0))) σ H (.int q.num) := ev_op ev_c ev_c (rv_ixT h rfl)
theorem ev_num (hv : Ev ta σ H (.ref a)) (h : WAt K H a q) : Ev (tOp (rIxT K) ta (tC (.int 0))) σ H (.int q.num) := ev_op hv ev_c (rv_ixT h rfl)
theorem ev_den (hv : Ev ta σ H (.ref a)) (h : WAt K H a q) : Ev (tOp (rIxT K) ta (tC (.int 1))) σ H (.int (q.den : Int)) := ev_op hv ev_c (rv_ixT h rfl)
/-- a pair of ints as a worth -/
theorem ew_pair {n d : Int} (ha : Ev ta σ H (.int n)) (hb : Ev tb σ H (.int d)) (hn : n = q.num) (hd : d = (q.den : Int)) : EW K (tTup (tCons ta (tCons tb tNil))) σ H q := fun H1 e1 Q k =>
  ha H1 e1 _ fun H2 e2 => hb H2 (e1.trans e2) _ fun H3 e3 => ⟨by show 2 ≤ sizeLine; decide, fun p hp => k _ _ ((e2.trans e3).trans (Ex.new hp)) ⟨p, rfl, by subst hn hd; exact SqT.of upd_same⟩⟩
theorem er_call1 {ι : Type} {A : ι → List V → Hp → Prop} {B : ι → V → Hp → Prop} {E : XK} (i : ι) (ha : EvR ta σ H R1) (k : ∀ x H1, Ex H H1 → R1 x H1 → A i [x] H1) : EvR (tCall (spI A B) [] E (tCons ta tNil)) σ H (B i) := fun H1 e1 Q q =>
  ha H1 e1 _ fun x H2 e2 r => ⟨i, k x H2 (e1.trans e2) r, fun v H3 e3 b => q v H3 (e2.trans e3) b⟩
theorem er_call2 {ι : Type} {A : ι → List V → Hp → Prop} {B : ι → V → Hp → Prop} {E : XK} (i : ι) (ha : EvR ta σ H R1) (hb : EvR tb σ H R2) (m : Mon R1) (k : ∀ x y H1, Ex H H1 → R1 x H1 → R2 y H1 → A i [x, y] H1) :
    EvR (tCall (spI A B) [] E (tCons ta (tCons tb tNil))) σ H (B i) := fun H1 e1 Q q =>
  ha H1 e1 _ fun x H2 e2 r => hb H2 (e1.trans e2) _ fun y H3 e3 r2 => ⟨i, k x y H3 ((e1.trans e2).trans e3) (m x H2 H3 e3 r) r2, fun v H4 e4 b => q v H4 ((e2.trans e3).trans e4) b⟩
theorem ev_of_bool {b : Bool} (h : EvR te σ H fun v _ => v = .bl b) : Ev te σ H (.bl b) := fun H1 e1 Q q => h H1 e1 Q fun v H2 e2 r => by
  subst r
  exact q H2 e2
theorem ev_of_v {z : V} (h : EvR te σ H fun v _ => v = z) : Ev te σ H z := fun H1 e1 Q q => h H1 e1 Q fun v H2 e2 r => by
  subst r
  exact q H2 e2
theorem s_asgR {i : Nat} (h : EvR te σ H R) (k : ∀ v H1, Ex H H1 → R v H1 → D.nx (σ.set i (some v)) H1) : tAsg te (gName i) D σ H := h H (Ex.refl H) _ k
theorem q_asgR {i : Nat} (h : EvR te σ H R) (k : ∀ v H1, Ex H H1 → R v H1 → tz D (σ.set i (some v)) H1) : tSeq (tAsg te (gName i)) tz D σ H := h H (Ex.refl H) _ k
theorem s_retR (h : EvR te σ H R) (k : ∀ v H1, Ex H H1 → R v H1 → D.rt v H1) : tRet te D σ H := h H (Ex.refl H) _ k
theorem q_asgW {i : Nat} (h : EW K te σ H q) (k : ∀ a H1, Ex H H1 → WAt K H1 a q → tz D (σ.set i (some (.ref a))) H1) : tSeq (tAsg te (gName i)) tz D σ H := h H (Ex.refl H) _ fun v H1 e ⟨a, h1, h2⟩ => by
  subst h1
  exact k a H1 e h2
theorem s_retW (h : EW K te σ H q) (k : ∀ a H1, Ex H H1 → WAt K H1 a q → D.rt (.ref a) H1) : tRet te D σ H := h H (Ex.refl H) _ fun v H1 e ⟨a, h1, h2⟩ => by
  subst h1
  exact k a H1 e h2
end

/-! ### the promises of the reckoning defs -/
/-- two worths -/
def A2 (K : PySem.W.Frag) (pre : Rat → Rat → Prop) : Rat × Rat → List V → Hp → Prop := fun p vs H => ∃ a b, vs = [.ref a, .ref b] ∧ WAt K H a p.1 ∧ WAt K H b p.2 ∧ Sm p.1 ∧ Sm p.2 ∧ pre p.1 p.2
def spW2 (K : PySem.W.Frag) (pre : Rat → Rat → Prop) (f : Rat → Rat → Rat) : Sp := spI (A2 K pre) fun p => IsW K (f p.1 p.2)
def spB2 (K : PySem.W.Frag) (pre : Rat → Rat → Prop) (f : Rat → Rat → Bool) : Sp := spI (A2 K pre) fun p v _ => v = .bl (f p.1 p.2)
def spI2 (K : PySem.W.Frag) (pre : Rat → Rat → Prop) (f : Rat → Rat → Int) : Sp := spI (A2 K pre) fun p v _ => v = .int (f p.1 p.2)
abbrev Any2 : Rat → Rat → Prop := fun _ _ => True
abbrev Pos2 : Rat → Rat → Prop := fun _ r => 0 < r
abbrev Pos1 : Rat → Rat → Prop := fun q _ => 0 < q
/-- two ints, the second above 0 -/
def spLow (K : PySem.W.Frag) : Sp := spI (fun (p : Int × Int) vs _ => vs = [.int p.1, .int p.2] ∧ 0 < p.2 ∧ p.2.natAbs < 2 ^ 8000) fun p => IsW K (Rat.divInt p.1 p.2)
section
variable {K : PySem.W.Frag} {σ : L2.St} {H H' : Hp} {ta tb te : TE} {q r : Rat} {E : XK} {pre : Rat → Rat → Prop} {f : Rat → Rat → Rat} {g : Rat → Rat → Bool} {n d : Int}
theorem ew_2 (ha : EW K ta σ H q) (hb : EW K tb σ H r) (hq : Sm q) (hr : Sm r) (hp : pre q r) : EW K (tCall (spW2 K pre f) [] E (tCons ta (tCons tb tNil))) σ H (f q r) :=
  er_call2 (A := A2 K pre) (q, r) ha hb isw_mon fun _ _ _ _ ⟨a, e1, w1⟩ ⟨b, e2, w2⟩ => ⟨a, b, by rw [e1, e2], w1, w2, hq, hr, hp⟩
theorem ev_b2 (ha : EW K ta σ H q) (hb : EW K tb σ H r) (hq : Sm q) (hr : Sm r) (hp : pre q r) : Ev (tCall (spB2 K pre g) [] E (tCons ta (tCons tb tNil))) σ H (.bl (g q r)) :=
  ev_of_v (er_call2 (A := A2 K pre) (q, r) ha hb isw_mon fun _ _ _ _ ⟨a, e1, w1⟩ ⟨b, e2, w2⟩ => ⟨a, b, by rw [e1, e2], w1, w2, hq, hr, hp⟩)
theorem ev_i2 {g : Rat → Rat → Int} (ha : EW K ta σ H q) (hb : EW K tb σ H r) (hq : Sm q) (hr : Sm r) (hp : pre q r) : Ev (tCall (spI2 K pre g) [] E (tCons ta (tCons tb tNil))) σ H (.int (g q r)) :=
  ev_of_v (er_call2 (A := A2 K pre) (q, r) ha hb isw_mon fun _ _ _ _ ⟨a, e1, w1⟩ ⟨b, e2, w2⟩ => ⟨a, b, by rw [e1, e2], w1, w2, hq, hr, hp⟩)
theorem ew_low (ha : Ev ta σ H (.int n)) (hb : Ev tb σ H (.int d)) (hd : 0 < d) (hs : d.natAbs < 2 ^ 8000) : EW K (tCall (spLow K) [] E (tCons ta (tCons tb tNil))) σ H (Rat.divInt n d) :=
  er_call2 (R1 := fun v _ => v = .int n) (R2 := fun v _ => v = .int d) (n, d) (er_of ha fun _ _ => rfl) (er_of hb fun _ _ => rfl) (fun _ _ _ _ h => h) fun _ _ _ _ e1 e2 => ⟨by rw [e1, e2], hd, hs⟩
theorem Sm.sn (h : Sm q) : q.num.natAbs < 2 ^ 2000 := h.1
theorem Sm.sd (h : Sm q) : ((q.den : Nat) : Int).natAbs < 2 ^ 2000 := h.2
theorem Sm.nd (h : Sm q) (k : Sm r) : CMulW q.num (r.den : Int) := wide_mul h.sn k.sd (by decide) (by decide) (by decide)
theorem Sm.nn (h : Sm q) (k : Sm r) : CMulW q.num r.num := wide_mul h.sn k.sn (by decide) (by decide) (by decide)
theorem Sm.dd (h : Sm q) (k : Sm r) : CMulW (q.den : Int) (r.den : Int) := wide_mul h.sd k.sd (by decide) (by decide) (by decide)
theorem Sm.dn (h : Sm q) (k : Sm r) : CMulW (q.den : Int) r.num := wide_mul h.sd k.sn (by decide) (by decide) (by decide)
theorem pow_le : (2 : Nat) ^ (2000 + 2000) ≤ 2 ^ 8000 := Nat.pow_le_pow_right (by decide) (by decide)
theorem lt8 {x : Int} (h : x.natAbs < 2 ^ (2000 + 2000)) : x.natAbs < 2 ^ 8000 := Nat.lt_of_lt_of_le h pow_le
theorem Sm.ddl (h : Sm q) (k : Sm r) : ((q.den : Int) * (r.den : Int)).natAbs < 2 ^ 8000 := lt8 (wide_lt h.sd k.sd)
theorem Sm.dnl (h : Sm q) (k : Sm r) : ((q.den : Int) * r.num).natAbs < 2 ^ 8000 := lt8 (wide_lt h.sd k.sn)
theorem Sm.ndl (h : Sm q) (k : Sm r) : (q.num * (r.den : Int)).natAbs < 2 ^ 8000 := lt8 (wide_lt h.sn k.sd)
theorem den_mul (q r : Rat) : (0 : Int) < (q.den : Int) * (r.den : Int) := Int.mul_pos (den_pos q) (den_pos r)
end
end Tb

/-! ## TbTop -/
set_option Elab.async false
set_option linter.all false
set_option maxRecDepth 100000
set_option maxHeartbeats 4000000
namespace Tb
open PySem PySem.Spec PyProof.Rows L2
def top (i : Nat) : Stmt := PySem.Challenge.pw_tabletsky_k21_whole_tables_row_by_row.main.body.getD i (.Pass ⟨0, 0, 0, 0⟩)
abbrev s_is_whole : Stmt := top 10
abbrev s_common_part : Stmt := top 11
abbrev s_is_worth : Stmt := top 12
abbrev s_worth : Stmt := top 13
abbrev s_plus : Stmt := top 14
abbrev s_minus : Stmt := top 15
abbrev s_times : Stmt := top 16
abbrev s_over : Stmt := top 17
abbrev s_is_less : Stmt := top 18
abbrev s_rounds_in : Stmt := top 19
abbrev s_rest_of : Stmt := top 20
abbrev s_Line_init : Stmt := inClass (top 22) 0
abbrev s_Line_phase_of : Stmt := inClass (top 22) 1
abbrev s_Line_phase : Stmt := inClass (top 22) 2
abbrev s_Line_rises : Stmt := inClass (top 22) 3
abbrev s_Line_value : Stmt := inClass (top 22) 4
abbrev s_are_rising : Stmt := top 25
abbrev s_are_steps : Stmt := top 26
abbrev s_Zones_init : Stmt := inClass (top 27) 0
abbrev s_Zones_zone_of : Stmt := inClass (top 27) 1
abbrev s_Zones_evened : Stmt := inClass (top 27) 2
abbrev s_Zones_place_of : Stmt := inClass (top 27) 3
abbrev s_Zones_value : Stmt := inClass (top 27) 4
abbrev s_is_name : Stmt := top 34
abbrev s_are_corners : Stmt := top 35
abbrev s_is_made : Stmt := top 36
abbrev s_between : Stmt := top 37
abbrev s_Table_init : Stmt := inClass (top 38) 0
abbrev s_Table_names : Stmt := inClass (top 38) 1
abbrev s_Table_rule_of : Stmt := inClass (top 38) 2
abbrev s_Table_value : Stmt := inClass (top 38) 3
abbrev s_Table_summed : Stmt := inClass (top 38) 4
abbrev s_Table_stretch : Stmt := inClass (top 38) 5
abbrev s_Table_worths : Stmt := inClass (top 38) 6
abbrev s_Table_run : Stmt := inClass (top 38) 7
abbrev s_Table_line : Stmt := inClass (top 38) 8
abbrev s_kept : Stmt := top 40
abbrev s_l_digits : Stmt := top 43
abbrev s_l_low : Stmt := top 44
abbrev s_l_add : Stmt := top 45
abbrev s_l_take : Stmt := top 46
abbrev s_l_by : Stmt := top 47
abbrev s_l_less : Stmt := top 48
abbrev s_l_unit : Stmt := top 49
abbrev s_l_drawn_line : Stmt := top 50
abbrev s_l_drawn_zones : Stmt := top 52
abbrev s_l_base : Stmt := top 54
abbrev s_l_drawn_corners : Stmt := top 55
abbrev s_l_drawn_columns : Stmt := top 56
abbrev s_l_bent : Stmt := top 57
abbrev s_l_all_worths : Stmt := top 58
abbrev s_l_run : Stmt := top 59
abbrev s_l_own : Stmt := top 60
abbrev s_law : Stmt := top 61

/-! ### what the walk leans on of the top -/
structure Txt (K : PySem.W.Frag) (w : World) (mg : Str → Option Value) (CL CZ CT NO MA : Addr) : Prop where
  f_isinstance : mg "isinstance" = none
  f_int : mg "int" = none
  f_bool : mg "bool" = none
  f_abs : mg "abs" = none
  f_len : mg "len" = none
  f_tuple : mg "tuple" = none
  f_list : mg "list" = none
  f_str : mg "str" = none
  f_all : mg "all" = none
  f_max : mg "max" = none
  f_enumerate : mg "enumerate" = none
  f_zip : mg "zip" = none
  f_range : mg "range" = none
  g_Line : mg "Line" = some (.ref CL)
  g_Zones : mg "Zones" = some (.ref CZ)
  g_Table : mg "Table" = some (.ref CT)
  g_NOUGHT : mg "NOUGHT" = some (.ref NO)
  g_MADE : mg "MADE" = some (.ref MA)
  nought : ∀ H, SqT K H NO [.int 0, .int 1]
  made : ∃ es n, KDict K w MA es n
  keys : ∀ s : Str, s ∈ (["sum", "less", "times", "along", "by"] : List Str) → ∃ u, PySem.W.nsIn K MA s = some (some u)
  zones : ∃ t, mg "MOST_ZONES" = some (.int 12 t)
  columns : ∃ t, mg "MOST_COLUMNS" = some (.int 12 t)
  corners : ∃ t, mg "MOST_CORNERS" = some (.int 12 t)
  summed : ∃ t, mg "MOST_SUMMED" = some (.int 5000 t)
  small : ∃ t, mg "SMALL" = some (.str "abcdefghijklmnopqrstuvwxyz" t)
  c_Line : Cls K CL
  c_Zones : Cls K CZ
  c_Table : Cls K CT
  l_low : NoAttr K CL "low"
  l_high : NoAttr K CL "high"
  l_step : NoAttr K CL "step"
  l_turn : NoAttr K CL "turn"
  l_begin : NoAttr K CL "begin"
  z_ring : NoAttr K CZ "ring"
  z_borders : NoAttr K CZ "borders"
  z_steps : NoAttr K CZ "steps"
  z_marks : NoAttr K CZ "marks"
  z_begin : NoAttr K CZ "begin"
  t_made : NoAttr K CT "made"
  t_order : NoAttr K CT "order"
  y_line : ∀ {H : Hp} {a dx : Addr} {fs : List (Str × V)}, H a = some (.ins CL dx fs) → TyX K H (.ref a) (.ref CL)
  y_zones : ∀ {H : Hp} {a dx : Addr} {fs : List (Str × V)}, H a = some (.ins CZ dx fs) → TyX K H (.ref a) (.ref CZ)
  i_ll : PySem.W.kitOne K (.ref CL) (.ref CL) = some true
  i_zl : PySem.W.kitOne K (.ref CZ) (.ref CL) = some false
  i_zz : PySem.W.kitOne K (.ref CZ) (.ref CZ) = some true
  i_tl : PySem.W.kitOne K (.type "tuple") (.ref CL) = some false
  i_tz : PySem.W.kitOne K (.type "tuple") (.ref CZ) = some false
  i_lt : PySem.W.kitOne K (.ref CL) (.type "tuple") = some false
  i_zt : PySem.W.kitOne K (.ref CZ) (.type "tuple") = some false
end Tb

/-! ## TbSix -/
set_option Elab.async false
set_option linter.all false
set_option maxRecDepth 100000
set_option maxHeartbeats 4000000
namespace Tb
open PySem PySem.Spec PyProof.Rows L2 Evl
section
variable {P : Program} {w : World} {K : PySem.W.Frag} {mg : Str → Option Value} {base : Heap} {CL CZ CT NO MA : Addr} {f : Addr} {fd : FuncData}
/-! ### is_whole, common_part, is_worth -/
def spWhole : Sp := spI (fun (i : Int) vs _ => vs = [.int i]) fun _ v _ => v = .bl true
def spPart : Sp := spI (fun (p : Int × Int) vs _ => vs = [.int p.1, .int p.2]) fun p v _ => v = .int (Int.gcd p.1 p.2 : Nat)
def spIsWorth (K : PySem.W.Frag) : Sp := spI (fun (p : Rat) vs H => ∃ a, vs = [.ref a] ∧ WAt K H a p) fun _ v _ => v = .bl true
theorem wat_ty {H : Hp} {a : Addr} {xs : List V} (h : SqT K H a xs) : TyX K H (.ref a) (.type "tuple") := by
  rcases h with (h | ⟨o, h⟩) | ⟨o, its, n, h, hc, _⟩
  · exact .base (.tup h)
  · exact .fTuple h
  · exact .kTuple h hc
theorem sc_is_whole : FnScope ["thing"] ["thing"] (defScope s_is_whole) := ⟨rfl, rfl, rfl, by decide +kernel, rfl, by decide +kernel, by decide +kernel⟩
theorem ok_is_whole (T : Txt K w mg CL CZ CT NO MA) (F : FunD K "is_whole" "is_whole" (defArgs s_is_whole) (defBody s_is_whole) (defScope s_is_whole) [] [] f fd) : FnOk P w K mg base CX0 1 f fd ["thing"] spWhole := by
  refine F.ok sc_is_whole (fun vs H Q E h => ?_) (fun cdv A outer s H vs Q E hr h => ?_)
  · obtain ⟨i, rfl, _⟩ := h
    rfl
  obtain ⟨i, rfl, q⟩ := h
  refine ⟨_, PSs.nox (pss_one (ps_ret (pe_and (pe_callB call_isi (by rfl) T.f_isinstance (by decide +kernel) (pa_cons (pv 0) (pa_cons (pe_ty (n := "int") (by rfl) T.f_int (by decide +kernel)) pa_nil))) (pe_one (pe_not (pe_callB call_isi (by rfl) T.f_isinstance (by decide +kernel) (pa_cons (pv 0) (pa_cons (pe_ty (n := "bool") (by rfl) T.f_bool (by decide +kernel)) pa_nil)))))))), ?_⟩
  refine ⟨_, rfl, .int i, .ty "int", _, _, true, rfl, .ty _, .base (.int i), kit_ty (by decide +kernel), true, rfl, iteT ?_⟩
  refine ⟨_, rfl, .int i, .ty "bool", _, _, false, rfl, .ty _, .base (.int i), kit_ty (by decide +kernel), false, rfl, q _ H (Ex.refl H) rfl⟩
theorem sc_common_part : FnScope ["one", "other"] ["one", "other"] (defScope s_common_part) := ⟨rfl, rfl, rfl, by decide +kernel, rfl, by decide +kernel, by decide +kernel⟩
theorem ok_common_part (T : Txt K w mg CL CZ CT NO MA) (F : FunD K "common_part" "common_part" (defArgs s_common_part) (defBody s_common_part) (defScope s_common_part) [] [] f fd) : FnOk P w K mg base CX0 1 f fd ["one", "other"] spPart := by
  refine F.ok sc_common_part (fun vs H Q E h => ?_) (fun cdv A outer s H vs Q E hr h => ?_)
  · obtain ⟨i, rfl, _⟩ := h
    rfl
  obtain ⟨⟨n, d⟩, rfl, q⟩ := h
  refine ⟨_, PSs.nox (pss_cons (ps_par (i := 0) (j := 1) rfl sc_common_part.nd rfl rfl (by decide) rfl rfl (pa_cons (pe_callB call_abs (by rfl) T.f_abs (by decide +kernel) (pa_cons (pv 0) pa_nil)) (pa_cons (pe_callB call_abs (by rfl) T.f_abs (by decide +kernel) (pa_cons (pv 1) pa_nil)) pa_nil)) rfl)
    (pss_cons (ps_while PassesOwn.never (pt_cmpR op_gt (pv 1) pe_int (nomark _)) (pss_one (ps_par (i := 0) (j := 1) rfl sc_common_part.nd rfl rfl (by decide) rfl rfl (pa_cons (pv 1) (pa_cons (pe_op op_mod (pv 0) (pv 1)) pa_nil)) rfl)))
    (pss_one (ps_ret (pv 0))))), ?_⟩
  have ab : ∀ x : Int, (if x < 0 then -x else x) = (x.natAbs : Int) := fun x => by split <;> omega
  refine ⟨.int n, rfl, n, rfl, .int d, rfl, d, rfl, _, _, rfl, ?_⟩
  refine q_while (fun m σ' H' => ∃ a b : Int, σ' = [some (.int a), some (.int b)] ∧ 0 ≤ a ∧ 0 ≤ b ∧ m = b.toNat ∧ Int.gcd a b = Int.gcd n d ∧ Ex H H') d.natAbs ⟨n.natAbs, d.natAbs, by rw [ab, ab] <;> rfl, by omega, by omega, by omega, by show Nat.gcd _ _ = Nat.gcd _ _; simp, Ex.refl H⟩ ?_
  rintro m σ' H' ⟨a, b, rfl, ha, hb, rfl, hg, e⟩
  refine ⟨decide (0 < b), et_test (ev_op (ev_var rfl) ev_c rv_I0), fun hb1 H1 e1 => ?_, fun hb1 H1 e1 => ?_⟩
  · have hb1 : 0 < b := of_decide_eq_true hb1
    have hm0 := Int.emod_nonneg a (show b ≠ 0 by omega)
    have hm1 := Int.emod_lt_of_pos a hb1
    refine ⟨fun σ2 H2 => ∃ m', m' < b.toNat ∧ ∃ a b : Int, σ2 = [some (.int a), some (.int b)] ∧ 0 ≤ a ∧ 0 ≤ b ∧ m' = b.toNat ∧ Int.gcd a b = Int.gcd n d ∧ Ex H H2, fun σ2 H2 h => h, ?_⟩
    refine ⟨.int b, rfl, .int a, rfl, .int b, rfl, a, b, rfl, rfl, hb1, _, _, rfl, (a % b).toNat, by omega, b, a % b, rfl, by omega, hm0, rfl, ?_, e.trans e1⟩
    rw [gcd_step ha hb1, hg]
  · have hb1 : ¬ 0 < b := of_decide_eq_false hb1
    have hb0 : b = 0 := by omega
    subst hb0
    refine ⟨_, rfl, q _ H1 (e.trans e1) ?_⟩
    have : Int.gcd a 0 = a.natAbs := Int.gcd_zero_right a
    show V.int a = V.int ((Int.gcd n d : Nat) : Int)
    rw [← hg, this]
    congr 1
    omega
theorem sc_is_worth : FnScope ["thing"] ["thing"] (defScope s_is_worth) := ⟨rfl, rfl, rfl, by decide +kernel, rfl, by decide +kernel, by decide +kernel⟩
theorem ok_is_worth (T : Txt K w mg CL CZ CT NO MA) (h_is_whole : Fn P w K mg base 1 "is_whole" ["thing"] spWhole) (h_common_part : Fn P w K mg base 1 "common_part" ["one", "other"] spPart)
    (F : FunD K "is_worth" "is_worth" (defArgs s_is_worth) (defBody s_is_worth) (defScope s_is_worth) [] [] f fd) : FnOk P w K mg base CX0 2 f fd ["thing"] (spIsWorth K) := by
  refine F.ok sc_is_worth (fun vs H Q E h => ?_) (fun cdv A outer s H vs Q E hr h => ?_)
  · obtain ⟨i, ⟨a, rfl, _⟩, _⟩ := h
    rfl
  obtain ⟨u, ⟨a, rfl, hw⟩, q⟩ := h
  refine ⟨_, PSs.nox (pss_cons (ps_if (PW.pt (pw_or (pt_not (pt_val (pe_callB call_isi (by rfl) T.f_isinstance (by decide +kernel) (pa_cons (pv 0) (pa_cons (pe_ty (n := "tuple") (by rfl) T.f_tuple (by decide +kernel)) pa_nil))))) (pw_or (pt_cmpR op_ne (pe_callB call_len_seq (by rfl) T.f_len (by decide +kernel) (pa_cons (pv 0) pa_nil)) pe_int (nomark _)) (pw_or (pt_not (pt_val (pe_fn h_is_whole (hr.mono (by decide)) rfl (pa_cons (pe_ix ix_tup (pv 0) pe_int (fun _ _ => rfl)) pa_nil)))) (pw_or1 (pt_not (pt_val (pe_fn h_is_whole (hr.mono (by decide)) rfl (pa_cons (pe_ix ix_tup (pv 0) pe_int (fun _ _ => rfl)) pa_nil))))))))) (pss_one (ps_ret pe_bl)) pss_nil)
    (pss_one (ps_ret (pe_and (pe_cmpR op_gt (pe_ix ix_tup (pv 0) pe_int (fun _ _ => rfl)) pe_int (nomark _)) (pe_one (pe_cmpR op_eq (pe_fn h_common_part (hr.mono (by decide)) rfl (pa_cons (pe_ix ix_tup (pv 0) pe_int (fun _ _ => rfl)) (pa_cons (pe_ix ix_tup (pv 0) pe_int (fun _ _ => rfl)) pa_nil))) pe_int (nomark _))))))), ?_⟩
  have hv : Ev (tVar 0) (start ["thing"] [V.ref a]) H (.ref a) := ev_var rfl
  have hn := ev_num hv hw
  have hd := ev_den hv hw
  refine q_when (b := false) (et_is (et_or (a := !true) (et_not (et_B (fun H1 e1 Q1 k1 => ?_))) fun _ => et_or (a := false) (et_test (fun H1 e1 Q1 k1 => ?_)) fun _ => et_or (a := !true) (et_not (et_B ?_)) fun _ => (et_not (et_B (b := true) ?_))) rfl) (fun h => by cases h) fun _ H1 e1 => ?_
  · exact ⟨_, rfl, .ref a, .ty "tuple", _, _, true, rfl, .ty _, wat_ty (hw.mono e1), kit_ty (by decide +kernel), k1 H1 (Ex.refl H1)⟩
  · exact ⟨_, rfl, a, _, rfl, .inr (hw.mono e1), rfl, k1 H1 (Ex.refl H1)⟩
  · exact ev_of_v (er_call1 (R1 := fun v _ => v = .int u.num) u.num (er_of hn fun _ _ => rfl) fun x H1 _ e => by rw [e])
  · exact ev_of_v (er_call1 (R1 := fun v _ => v = .int (u.den : Int)) (u.den : Int) (er_of hd fun _ _ => rfl) fun x H1 _ e => by rw [e])
  · refine s_ret (ev_andV (a := true) (b := true) ?_ fun _ => ?_) fun H2 e2 => q _ H2 (e1.trans e2) rfl
    · refine ev_is (ev_op (hd.mono e1) ev_c rv_I0) ?_
      have := den_pos u
      rw [decide_eq_true this]
    · refine ev_is (ev_op (ev_of_v (er_call2 (R1 := fun v _ => v = .int u.num) (R2 := fun v _ => v = .int (u.den : Int)) (u.num, (u.den : Int)) (er_of (hn.mono e1) fun _ _ => rfl) (er_of (hd.mono e1) fun _ _ => rfl) (fun _ _ _ _ h => h) fun x y H2 _ h1 h2 => by rw [h1, h2])) ev_c (rv_eq rfl)) ?_
      have hc : Int.gcd u.num (u.den : Int) = 1 := u.reduced
      rw [hc]
      rfl
end
end Tb

/-! ## TbSix2 -/
set_option Elab.async false
set_option linter.all false
set_option maxRecDepth 100000
set_option maxHeartbeats 4000000
namespace Tb
open PySem PySem.Spec PyProof.Rows L2 Evl
section
variable {P : Program} {w : World} {K : PySem.W.Frag} {mg : Str → Option Value} {base : Heap} {CL CZ CT NO MA : Addr} {f : Addr} {fd : FuncData}
theorem ev_whole {σ : L2.St} {H : Hp} {te : TE} {E : XK} {i : Int} (h : Ev te σ H (.int i)) : Ev (tCall spWhole [] E (tCons te tNil)) σ H (.bl true) :=
  ev_of_v (er_call1 (R1 := fun v _ => v = .int i) i (er_of h fun _ _ => rfl) fun x H1 _ e => by rw [e])
theorem ev_part {σ : L2.St} {H : Hp} {ta tb : TE} {E : XK} {i j : Int} (h : Ev ta σ H (.int i)) (h2 : Ev tb σ H (.int j)) : Ev (tCall spPart [] E (tCons ta (tCons tb tNil))) σ H (.int (Int.gcd i j : Nat)) :=
  ev_of_v (er_call2 (R1 := fun v _ => v = .int i) (R2 := fun v _ => v = .int j) (i, j) (er_of h fun _ _ => rfl) (er_of h2 fun _ _ => rfl) (fun _ _ _ _ h => h) fun x y H2 _ h1 h2 => by rw [h1, h2])
theorem gcd_div {n d : Int} (h : 0 < d) (hs : d.natAbs < 2 ^ 8000) (x : Int) : CDivW x ((Int.gcd n d : Nat) : Int) := by
  have h1 := gcd_pos (n := n) h
  have h2 := gcd_le (n := n) h
  exact wide_div h1 (Nat.lt_of_le_of_lt (by omega) hs) (by decide) (by decide)
theorem sc_worth : FnScope ["top", "bottom", "part"] ["top", "bottom"] (defScope s_worth) := ⟨rfl, rfl, rfl, by decide +kernel, rfl, by decide +kernel, by decide +kernel⟩
theorem ok_worth (h_is_whole : Fn P w K mg base 1 "is_whole" ["thing"] spWhole) (h_common_part : Fn P w K mg base 1 "common_part" ["one", "other"] spPart)
    {dvs : List V} (F : FunD K "worth" "worth" (defArgs s_worth) (defBody s_worth) (defScope s_worth) dvs [] f fd) : FnOk P w K mg base CX0 2 f fd ["top", "bottom"] (spLow K) := by
  refine F.ok sc_worth (fun vs H Q E h => ?_) (fun cdv A outer s H vs Q E hr h => ?_)
  · obtain ⟨i, ⟨rfl, _⟩, _⟩ := h
    rfl
  obtain ⟨⟨n, d⟩, ⟨rfl, hd, hs⟩, q⟩ := h
  refine ⟨_, PSs.nox (pss_cons (ps_if (PW.pt (pw_or (pt_not (pt_val (pe_fn h_is_whole (hr.mono (by decide)) rfl (pa_cons (pv 0) pa_nil)))) (pw_or (pt_not (pt_val (pe_fn h_is_whole (hr.mono (by decide)) rfl (pa_cons (pv 1) pa_nil)))) (pw_or1 (pt_cmpR op_eq (pv 1) pe_int (nomark _)))))) (pss_one ps_never) pss_nil)
    (pss_cons (ps_set (i := 2) sc_worth.nd rfl (Or.inl rfl) (pe_fn h_common_part (hr.mono (by decide)) rfl (pa_cons (pv 0) (pa_cons (pv 1) pa_nil))))
    (pss_cons (ps_if (pt_cmpR op_lt (pv 1) pe_int (nomark _)) (pss_one (ps_set (i := 2) sc_worth.nd rfl (Or.inl rfl) (pe_un un_neg (pv 2)))) pss_nil)
    (pss_one (ps_ret (pe_tup (pa_cons (pe_op op_fdivW (pv 0) (pv 2)) (pa_cons (pe_op op_fdivW (pv 1) (pv 2)) pa_nil)))))))), ?_⟩
  have hd : 0 < d := hd
  have hs : d.natAbs < 2 ^ 8000 := hs
  refine q_when (b := false) (et_is (et_or (a := !true) (et_not (et_B (ev_whole (ev_var rfl)))) fun _ => et_or (a := !true) (et_not (et_B (ev_whole (ev_var rfl)))) fun _ => et_test (ev_is (ev_op (ev_var rfl) ev_c (rv_eq rfl)) (w := .bl false) (congrArg V.bl (decide_eq_false fun e => by injection e with e; omega)))) rfl) (fun h => by cases h) fun _ H1 e1 => ?_
  refine q_asg (ev_part (ev_var rfl) (ev_var rfl)) fun H2 e2 => ?_
  refine q_when (b := false) (et_test (ev_is (ev_op (ev_var rfl) ev_c rv_I0) (congrArg V.bl (decide_eq_false (by omega))))) (fun h => by cases h) fun _ H3 e3 => ?_
  refine s_retW (K := K) (q := Rat.divInt n d) (ew_pair (ev_op (ev_var rfl) (ev_var rfl) (rv_I (gcd_div hd hs _))) (ev_op (ev_var rfl) (ev_var rfl) (rv_I (gcd_div hd hs _))) (low_num hd) (low_den hd)) fun a H4 e4 hw => ?_
  exact q _ _ ((e1.trans e2).trans (e3.trans e4)) ⟨a, rfl, hw⟩
theorem spw_len {pre : Rat → Rat → Prop} {g : Rat → Rat → Rat} {a b : Str} : ∀ vs H Q E, spW2 K pre g vs H Q E → vs.length = ([a, b] : List Str).length := fun vs H Q E ⟨_, ⟨_, _, e, _⟩, _⟩ => by
  rw [e] <;> rfl
theorem spb_len {pre : Rat → Rat → Prop} {g : Rat → Rat → Bool} {a b : Str} : ∀ vs H Q E, spB2 K pre g vs H Q E → vs.length = ([a, b] : List Str).length := fun vs H Q E ⟨_, ⟨_, _, e, _⟩, _⟩ => by
  rw [e] <;> rfl
theorem spi_len {pre : Rat → Rat → Prop} {g : Rat → Rat → Int} {a b : Str} : ∀ vs H Q E, spI2 K pre g vs H Q E → vs.length = ([a, b] : List Str).length := fun vs H Q E ⟨_, ⟨_, _, e, _⟩, _⟩ => by
  rw [e] <;> rfl
theorem sc_plus : FnScope ["one", "other"] ["one", "other"] (defScope s_plus) := ⟨rfl, rfl, rfl, by decide +kernel, rfl, by decide +kernel, by decide +kernel⟩
theorem ok_plus (h_worth : Fn P w K mg base 2 "worth" ["top", "bottom"] (spLow K)) (F : FunD K "plus" "plus" (defArgs s_plus) (defBody s_plus) (defScope s_plus) [] [] f fd) : FnOk P w K mg base CX0 3 f fd ["one", "other"] (spW2 K Any2 (· + ·)) := by
  refine F.ok sc_plus spw_len (fun cdv A outer s H vs Q E hr h => ?_)
  obtain ⟨⟨q, r⟩, ⟨a, b, rfl, wa, wb, sq, sr, _⟩, k⟩ := h
  refine ⟨_, PSs.nox (pss_one (ps_ret (pe_fn h_worth (hr.mono (by decide)) rfl (pa_cons (pe_op op_add (pe_op op_mulW (pe_ix ix_tup (pv 0) pe_int (fun _ _ => rfl)) (pe_ix ix_tup (pv 1) pe_int (fun _ _ => rfl))) (pe_op op_mulW (pe_ix ix_tup (pv 1) pe_int (fun _ _ => rfl)) (pe_ix ix_tup (pv 0) pe_int (fun _ _ => rfl)))) (pa_cons (pe_op op_mulW (pe_ix ix_tup (pv 0) pe_int (fun _ _ => rfl)) (pe_ix ix_tup (pv 1) pe_int (fun _ _ => rfl))) pa_nil))))), ?_⟩
  have va : Ev (tVar 0) (start ["one", "other"] [V.ref a, V.ref b]) H (.ref a) := ev_var rfl
  have vb : Ev (tVar 1) (start ["one", "other"] [V.ref a, V.ref b]) H (.ref b) := ev_var rfl
  exact s_retR (ew_eq (ew_low (ev_op (ev_op (ev_num va wa) (ev_den vb wb) (rv_I (sq.nd sr))) (ev_op (ev_num vb wb) (ev_den va wa) (rv_I (sr.nd sq))) rv_I0) (ev_op (ev_den va wa) (ev_den vb wb) (rv_I (sq.dd sr))) (den_mul q r) (sq.ddl sr)) (q_add q r)) fun v H1 e1 hw => k v H1 e1 hw
theorem sc_minus : FnScope ["one", "other"] ["one", "other"] (defScope s_minus) := ⟨rfl, rfl, rfl, by decide +kernel, rfl, by decide +kernel, by decide +kernel⟩
theorem ok_minus (h_worth : Fn P w K mg base 2 "worth" ["top", "bottom"] (spLow K)) (F : FunD K "minus" "minus" (defArgs s_minus) (defBody s_minus) (defScope s_minus) [] [] f fd) : FnOk P w K mg base CX0 3 f fd ["one", "other"] (spW2 K Any2 (· - ·)) := by
  refine F.ok sc_minus spw_len (fun cdv A outer s H vs Q E hr h => ?_)
  obtain ⟨⟨q, r⟩, ⟨a, b, rfl, wa, wb, sq, sr, _⟩, k⟩ := h
  refine ⟨_, PSs.nox (pss_one (ps_ret (pe_fn h_worth (hr.mono (by decide)) rfl (pa_cons (pe_op op_sub (pe_op op_mulW (pe_ix ix_tup (pv 0) pe_int (fun _ _ => rfl)) (pe_ix ix_tup (pv 1) pe_int (fun _ _ => rfl))) (pe_op op_mulW (pe_ix ix_tup (pv 1) pe_int (fun _ _ => rfl)) (pe_ix ix_tup (pv 0) pe_int (fun _ _ => rfl)))) (pa_cons (pe_op op_mulW (pe_ix ix_tup (pv 0) pe_int (fun _ _ => rfl)) (pe_ix ix_tup (pv 1) pe_int (fun _ _ => rfl))) pa_nil))))), ?_⟩
  have va : Ev (tVar 0) (start ["one", "other"] [V.ref a, V.ref b]) H (.ref a) := ev_var rfl
  have vb : Ev (tVar 1) (start ["one", "other"] [V.ref a, V.ref b]) H (.ref b) := ev_var rfl
  exact s_retR (ew_eq (ew_low (ev_op (ev_op (ev_num va wa) (ev_den vb wb) (rv_I (sq.nd sr))) (ev_op (ev_num vb wb) (ev_den va wa) (rv_I (sr.nd sq))) rv_I0) (ev_op (ev_den va wa) (ev_den vb wb) (rv_I (sq.dd sr))) (den_mul q r) (sq.ddl sr)) (q_sub q r)) fun v H1 e1 hw => k v H1 e1 hw
theorem sc_times : FnScope ["one", "other"] ["one", "other"] (defScope s_times) := ⟨rfl, rfl, rfl, by decide +kernel, rfl, by decide +kernel, by decide +kernel⟩
theorem ok_times (h_worth : Fn P w K mg base 2 "worth" ["top", "bottom"] (spLow K)) (F : FunD K "times" "times" (defArgs s_times) (defBody s_times) (defScope s_times) [] [] f fd) : FnOk P w K mg base CX0 3 f fd ["one", "other"] (spW2 K Any2 (· * ·)) := by
  refine F.ok sc_times spw_len (fun cdv A outer s H vs Q E hr h => ?_)
  obtain ⟨⟨q, r⟩, ⟨a, b, rfl, wa, wb, sq, sr, _⟩, k⟩ := h
  refine ⟨_, PSs.nox (pss_one (ps_ret (pe_fn h_worth (hr.mono (by decide)) rfl (pa_cons (pe_op op_mulW (pe_ix ix_tup (pv 0) pe_int (fun _ _ => rfl)) (pe_ix ix_tup (pv 1) pe_int (fun _ _ => rfl))) (pa_cons (pe_op op_mulW (pe_ix ix_tup (pv 0) pe_int (fun _ _ => rfl)) (pe_ix ix_tup (pv 1) pe_int (fun _ _ => rfl))) pa_nil))))), ?_⟩
  have va : Ev (tVar 0) (start ["one", "other"] [V.ref a, V.ref b]) H (.ref a) := ev_var rfl
  have vb : Ev (tVar 1) (start ["one", "other"] [V.ref a, V.ref b]) H (.ref b) := ev_var rfl
  exact s_retR (ew_eq (ew_low (ev_op (ev_num va wa) (ev_num vb wb) (rv_I (sq.nn sr))) (ev_op (ev_den va wa) (ev_den vb wb) (rv_I (sq.dd sr))) (den_mul q r) (sq.ddl sr)) (q_mul q r)) fun v H1 e1 hw => k v H1 e1 hw
theorem sc_over : FnScope ["one", "other"] ["one", "other"] (defScope s_over) := ⟨rfl, rfl, rfl, by decide +kernel, rfl, by decide +kernel, by decide +kernel⟩
theorem ok_over (h_worth : Fn P w K mg base 2 "worth" ["top", "bottom"] (spLow K)) (F : FunD K "over" "over" (defArgs s_over) (defBody s_over) (defScope s_over) [] [] f fd) : FnOk P w K mg base CX0 3 f fd ["one", "other"] (spW2 K Pos2 (· / ·)) := by
  refine F.ok sc_over spw_len (fun cdv A outer s H vs Q E hr h => ?_)
  obtain ⟨⟨q, r⟩, ⟨a, b, rfl, wa, wb, sq, sr, hp⟩, k⟩ := h
  refine ⟨_, PSs.nox (pss_cons (ps_if (pt_cmpR op_eq (pe_ix ix_tup (pv 1) pe_int (fun _ _ => rfl)) pe_int (nomark _)) (pss_one ps_never) pss_nil)
    (pss_one (ps_ret (pe_fn h_worth (hr.mono (by decide)) rfl (pa_cons (pe_op op_mulW (pe_ix ix_tup (pv 0) pe_int (fun _ _ => rfl)) (pe_ix ix_tup (pv 1) pe_int (fun _ _ => rfl))) (pa_cons (pe_op op_mulW (pe_ix ix_tup (pv 0) pe_int (fun _ _ => rfl)) (pe_ix ix_tup (pv 1) pe_int (fun _ _ => rfl))) pa_nil)))))), ?_⟩
  have hp : 0 < r := hp
  have hn := num_pos hp
  have va : Ev (tVar 0) (start ["one", "other"] [V.ref a, V.ref b]) H (.ref a) := ev_var rfl
  have vb : Ev (tVar 1) (start ["one", "other"] [V.ref a, V.ref b]) H (.ref b) := ev_var rfl
  refine q_when (b := false) (et_test (ev_is (ev_op (ev_num vb wb) ev_c (rv_eq rfl)) (congrArg V.bl (decide_eq_false fun e => absurd (show r.num = 0 from V.int.inj e) (by omega))))) (fun h => by cases h) fun _ H1 e1 => ?_
  exact s_retR (ew_eq (ew_low (ev_op (ev_num (va.mono e1) (wa.mono e1)) (ev_den (vb.mono e1) (wb.mono e1)) (rv_I (sq.nd sr))) (ev_op (ev_den (va.mono e1) (wa.mono e1)) (ev_num (vb.mono e1) (wb.mono e1)) (rv_I (sq.dn sr))) (q_div_den q hp) (sq.dnl sr)) (q_div q r)) fun v H2 e2 hw => k v H2 (e1.trans e2) hw
theorem sc_is_less : FnScope ["one", "other"] ["one", "other"] (defScope s_is_less) := ⟨rfl, rfl, rfl, by decide +kernel, rfl, by decide +kernel, by decide +kernel⟩
theorem ok_is_less (F : FunD K "is_less" "is_less" (defArgs s_is_less) (defBody s_is_less) (defScope s_is_less) [] [] f fd) : FnOk P w K mg base CX0 1 f fd ["one", "other"] (spB2 K Any2 fun q r => decide (q < r)) := by
  refine F.ok sc_is_less spb_len (fun cdv A outer s H vs Q E hr h => ?_)
  obtain ⟨⟨q, r⟩, ⟨a, b, rfl, wa, wb, sq, sr, _⟩, k⟩ := h
  refine ⟨_, PSs.nox (pss_one (ps_ret (pe_cmpR op_lt (pe_op op_mulW (pe_ix ix_tup (pv 0) pe_int (fun _ _ => rfl)) (pe_ix ix_tup (pv 1) pe_int (fun _ _ => rfl))) (pe_op op_mulW (pe_ix ix_tup (pv 1) pe_int (fun _ _ => rfl)) (pe_ix ix_tup (pv 0) pe_int (fun _ _ => rfl))) (nomark _)))), ?_⟩
  have va : Ev (tVar 0) (start ["one", "other"] [V.ref a, V.ref b]) H (.ref a) := ev_var rfl
  have vb : Ev (tVar 1) (start ["one", "other"] [V.ref a, V.ref b]) H (.ref b) := ev_var rfl
  refine s_ret (ev_op (ev_op (ev_num va wa) (ev_den vb wb) (rv_I (sq.nd sr))) (ev_op (ev_num vb wb) (ev_den va wa) (rv_I (sr.nd sq))) rv_I0) fun H1 e1 => k _ H1 e1 ?_
  show V.bl (decide (q.num * (r.den : Int) < r.num * (q.den : Int))) = V.bl (decide (q < r))
  rw [decide_eq_decide.mpr (Rat.lt_iff q r).symm]
theorem sc_rounds_in : FnScope ["one", "other"] ["one", "other"] (defScope s_rounds_in) := ⟨rfl, rfl, rfl, by decide +kernel, rfl, by decide +kernel, by decide +kernel⟩
theorem ok_rounds_in (F : FunD K "rounds_in" "rounds_in" (defArgs s_rounds_in) (defBody s_rounds_in) (defScope s_rounds_in) [] [] f fd) : FnOk P w K mg base CX0 1 f fd ["one", "other"] (spI2 K Pos1 fun u o => (o / u).floor) := by
  refine F.ok sc_rounds_in spi_len (fun cdv A outer s H vs Q E hr h => ?_)
  obtain ⟨⟨q, r⟩, ⟨a, b, rfl, wa, wb, sq, sr, hp⟩, k⟩ := h
  refine ⟨_, PSs.nox (pss_one (ps_ret (pe_op op_fdivW (pe_op op_mulW (pe_ix ix_tup (pv 1) pe_int (fun _ _ => rfl)) (pe_ix ix_tup (pv 0) pe_int (fun _ _ => rfl))) (pe_op op_mulW (pe_ix ix_tup (pv 1) pe_int (fun _ _ => rfl)) (pe_ix ix_tup (pv 0) pe_int (fun _ _ => rfl)))))), ?_⟩
  have hp : 0 < q := hp
  have va : Ev (tVar 0) (start ["one", "other"] [V.ref a, V.ref b]) H (.ref a) := ev_var rfl
  have vb : Ev (tVar 1) (start ["one", "other"] [V.ref a, V.ref b]) H (.ref b) := ev_var rfl
  refine s_ret (ev_op (ev_op (ev_num vb wb) (ev_den va wa) (rv_I (sr.nd sq))) (ev_op (ev_den vb wb) (ev_num va wa) (rv_I (sr.dn sq))) (rv_I (wide_div (q_div_den r hp) (sr.dnl sq) (by decide) (by decide)))) fun H1 e1 => k _ H1 e1 ?_
  show V.int (r.num * (q.den : Int) / ((r.den : Int) * q.num)) = V.int (r / q).floor
  rw [← q_floor hp, Int.mul_comm (r.den : Int)]
theorem sc_rest_of : FnScope ["one", "other"] ["one", "other"] (defScope s_rest_of) := ⟨rfl, rfl, rfl, by decide +kernel, rfl, by decide +kernel, by decide +kernel⟩
/-- a whole number as a worth -/
theorem ew_int {σ : L2.St} {H : Hp} {ta tb : TE} {i : Int} (ha : Ev ta σ H (.int i)) (hb : Ev tb σ H (.int 1)) : EW K (tTup (tCons ta (tCons tb tNil))) σ H (i : Rat) :=
  ew_pair ha hb (by rw [Rat.num_intCast]) (by rw [Rat.den_intCast]; rfl)
theorem ok_rest_of (h_minus : Fn P w K mg base 3 "minus" ["one", "other"] (spW2 K Any2 (· - ·))) (h_times : Fn P w K mg base 3 "times" ["one", "other"] (spW2 K Any2 (· * ·)))
    (h_rounds_in : Fn P w K mg base 1 "rounds_in" ["one", "other"] (spI2 K Pos1 fun u o => (o / u).floor))
    (F : FunD K "rest_of" "rest_of" (defArgs s_rest_of) (defBody s_rest_of) (defScope s_rest_of) [] [] f fd) : FnOk P w K mg base CX0 4 f fd ["one", "other"] (spW2 K (fun u o => 0 < u ∧ Sm (((o / u).floor : Int) : Rat) ∧ Sm ((((o / u).floor : Int) : Rat) * u)) rest) := by
  refine F.ok sc_rest_of spw_len (fun cdv A outer s H vs Q E hr h => ?_)
  obtain ⟨⟨q, r⟩, ⟨a, b, rfl, wa, wb, sq, sr, hp, h1, h2⟩, k⟩ := h
  refine ⟨_, PSs.nox (pss_one (ps_ret (pe_fn h_minus (hr.mono (by decide)) rfl (pa_cons (pv 1) (pa_cons (pe_fn h_times (hr.mono (by decide)) rfl (pa_cons (pe_tup (pa_cons (pe_fn h_rounds_in (hr.mono (by decide)) rfl (pa_cons (pv 0) (pa_cons (pv 1) pa_nil))) (pa_cons pe_int pa_nil))) (pa_cons (pv 0) pa_nil))) pa_nil))))), ?_⟩
  have va : EW K (tVar 0) (start ["one", "other"] [V.ref a, V.ref b]) H q := ew_var rfl wa
  have vb : EW K (tVar 1) (start ["one", "other"] [V.ref a, V.ref b]) H r := ew_var rfl wb
  exact s_retR (ew_2 vb (ew_2 (ew_int (ev_i2 va vb sq sr hp) ev_c) va h1 sq trivial) sr h2 trivial) fun v H1 e1 hw => k v H1 e1 hw
end
end Tb

/-! ## TbLow -/
set_option Elab.async false
set_option linter.all false
set_option maxRecDepth 100000
set_option maxHeartbeats 4000000
namespace Tb
open PySem PySem.Spec PyProof.Rows L2 Evl
section
variable {P : Program} {w : World} {K : PySem.W.Frag} {mg : Str → Option Value} {base : Heap} {CL CZ CT NO MA : Addr} {f : Addr} {fd : FuncData}
/-! ### the law's own fractions -/
theorem sc_l_low : FnScope ["_law_upper", "_law_lower", "_law_one", "_law_other"] ["_law_upper", "_law_lower"] (defScope s_l_low) := ⟨rfl, rfl, rfl, by decide +kernel, rfl, by decide +kernel, by decide +kernel⟩
theorem ok_l_low (T : Txt K w mg CL CZ CT NO MA) (F : FunD K "_law_low" "_law_low" (defArgs s_l_low) (defBody s_l_low) (defScope s_l_low) [] [] f fd) : FnOk P w K mg base CX0 1 f fd ["_law_upper", "_law_lower"] (spLow K) := by
  refine F.ok sc_l_low (fun vs H Q E h => ?_) (fun cdv A outer s H vs Q E hr h => ?_)
  · obtain ⟨i, ⟨rfl, _⟩, _⟩ := h
    rfl
  obtain ⟨⟨n, d⟩, ⟨rfl, hd, hs⟩, q⟩ := h
  refine ⟨_, PSs.nox (pss_cons (ps_par (i := 2) (j := 3) rfl sc_l_low.nd rfl rfl (by decide) rfl rfl (pa_cons (pe_callB call_abs (by rfl) T.f_abs (by decide +kernel) (pa_cons (pv 0) pa_nil)) (pa_cons (pe_callB call_abs (by rfl) T.f_abs (by decide +kernel) (pa_cons (pv 1) pa_nil)) pa_nil)) rfl)
    (pss_cons (ps_while PassesOwn.never (pt_cmpR op_gt (pv 3) pe_int (nomark _)) (pss_one (ps_par (i := 2) (j := 3) rfl sc_l_low.nd rfl rfl (by decide) rfl rfl (pa_cons (pv 3) (pa_cons (pe_op op_mod (pv 2) (pv 3)) pa_nil)) rfl)))
    (pss_cons (ps_if (pt_cmpR op_lt (pv 1) pe_int (nomark _)) (pss_one (ps_set (i := 2) sc_l_low.nd rfl (Or.inl rfl) (pe_op op_sub pe_int (pv 2)))) pss_nil)
    (pss_one (ps_ret (pe_tup (pa_cons (pe_op op_fdivW (pv 0) (pv 2)) (pa_cons (pe_op op_fdivW (pv 1) (pv 2)) pa_nil)))))))), ?_⟩
  have hd : 0 < d := hd
  have hs : d.natAbs < 2 ^ 8000 := hs
  have ab : ∀ x : Int, (if x < 0 then -x else x) = (x.natAbs : Int) := fun x => by split <;> omega
  refine ⟨.int n, rfl, n, rfl, .int d, rfl, d, rfl, _, _, rfl, ?_⟩
  refine q_while (fun m σ' H' => ∃ a b : Int, σ' = [some (.int n), some (.int d), some (.int a), some (.int b)] ∧ 0 ≤ a ∧ 0 ≤ b ∧ m = b.toNat ∧ Int.gcd a b = Int.gcd n d ∧ Ex H H') d.natAbs ⟨n.natAbs, d.natAbs, by rw [ab, ab] <;> rfl, by omega, by omega, by omega, by show Nat.gcd _ _ = Nat.gcd _ _; simp, Ex.refl H⟩ ?_
  rintro m σ' H' ⟨a, b, rfl, ha, hb, rfl, hg, e⟩
  refine ⟨decide (0 < b), et_test (ev_op (ev_var rfl) ev_c rv_I0), fun hb1 H1 e1 => ?_, fun hb1 H1 e1 => ?_⟩
  · have hb1 : 0 < b := of_decide_eq_true hb1
    have hm0 := Int.emod_nonneg a (show b ≠ 0 by omega)
    have hm1 := Int.emod_lt_of_pos a hb1
    refine ⟨fun σ2 H2 => ∃ m', m' < b.toNat ∧ ∃ a b : Int, σ2 = [some (.int n), some (.int d), some (.int a), some (.int b)] ∧ 0 ≤ a ∧ 0 ≤ b ∧ m' = b.toNat ∧ Int.gcd a b = Int.gcd n d ∧ Ex H H2, fun σ2 H2 h => h, ?_⟩
    refine ⟨.int b, rfl, .int a, rfl, .int b, rfl, a, b, rfl, rfl, hb1, _, _, rfl, (a % b).toNat, by omega, b, a % b, rfl, by omega, hm0, rfl, ?_, e.trans e1⟩
    rw [gcd_step ha hb1, hg]
  · have hb1 : ¬ 0 < b := of_decide_eq_false hb1
    have hb0 : b = 0 := by omega
    subst hb0
    have : Int.gcd a 0 = a.natAbs := Int.gcd_zero_right a
    have ea : a = ((Int.gcd n d : Nat) : Int) := by
      rw [← hg, this]
      omega
    subst ea
    refine q_when (b := false) (et_test (ev_is (ev_op (ev_var rfl) ev_c rv_I0) (congrArg V.bl (decide_eq_false (by omega))))) (fun h => by cases h) fun _ H3 e3 => ?_
    refine s_retW (K := K) (q := Rat.divInt n d) (ew_pair (ev_op (ev_var rfl) (ev_var rfl) (rv_I (gcd_div hd hs _))) (ev_op (ev_var rfl) (ev_var rfl) (rv_I (gcd_div hd hs _))) (low_num hd) (low_den hd)) fun a H4 e4 hw => ?_
    exact q _ _ ((e.trans e1).trans (e3.trans e4)) ⟨a, rfl, hw⟩
theorem sc_l_add : FnScope ["_law_one", "_law_other"] ["_law_one", "_law_other"] (defScope s_l_add) := ⟨rfl, rfl, rfl, by decide +kernel, rfl, by decide +kernel, by decide +kernel⟩
theorem ok_l_add (h_l_low : Fn P w K mg base 1 "_law_low" ["_law_upper", "_law_lower"] (spLow K)) (F : FunD K "_law_add" "_law_add" (defArgs s_l_add) (defBody s_l_add) (defScope s_l_add) [] [] f fd) : FnOk P w K mg base CX0 2 f fd ["_law_one", "_law_other"] (spW2 K Any2 (· + ·)) := by
  refine F.ok sc_l_add spw_len (fun cdv A outer s H vs Q E hr h => ?_)
  obtain ⟨⟨q, r⟩, ⟨a, b, rfl, wa, wb, sq, sr, _⟩, k⟩ := h
  refine ⟨_, PSs.nox (pss_one (ps_ret (pe_fn h_l_low (hr.mono (by decide)) rfl (pa_cons (pe_op op_add (pe_op op_mulW (pe_ix ix_tup (pv 0) pe_int (fun _ _ => rfl)) (pe_ix ix_tup (pv 1) pe_int (fun _ _ => rfl))) (pe_op op_mulW (pe_ix ix_tup (pv 1) pe_int (fun _ _ => rfl)) (pe_ix ix_tup (pv 0) pe_int (fun _ _ => rfl)))) (pa_cons (pe_op op_mulW (pe_ix ix_tup (pv 0) pe_int (fun _ _ => rfl)) (pe_ix ix_tup (pv 1) pe_int (fun _ _ => rfl))) pa_nil))))), ?_⟩
  have va : Ev (tVar 0) (start ["_law_one", "_law_other"] [V.ref a, V.ref b]) H (.ref a) := ev_var rfl
  have vb : Ev (tVar 1) (start ["_law_one", "_law_other"] [V.ref a, V.ref b]) H (.ref b) := ev_var rfl
  exact s_retR (ew_eq (ew_low (ev_op (ev_op (ev_num va wa) (ev_den vb wb) (rv_I (sq.nd sr))) (ev_op (ev_num vb wb) (ev_den va wa) (rv_I (sr.nd sq))) rv_I0) (ev_op (ev_den va wa) (ev_den vb wb) (rv_I (sq.dd sr))) (den_mul q r) (sq.ddl sr)) (q_add q r)) fun v H1 e1 hw => k v H1 e1 hw
theorem sc_l_take : FnScope ["_law_one", "_law_other"] ["_law_one", "_law_other"] (defScope s_l_take) := ⟨rfl, rfl, rfl, by decide +kernel, rfl, by decide +kernel, by decide +kernel⟩
theorem ok_l_take (h_l_low : Fn P w K mg base 1 "_law_low" ["_law_upper", "_law_lower"] (spLow K)) (F : FunD K "_law_take" "_law_take" (defArgs s_l_take) (defBody s_l_take) (defScope s_l_take) [] [] f fd) : FnOk P w K mg base CX0 2 f fd ["_law_one", "_law_other"] (spW2 K Any2 (· - ·)) := by
  refine F.ok sc_l_take spw_len (fun cdv A outer s H vs Q E hr h => ?_)
  obtain ⟨⟨q, r⟩, ⟨a, b, rfl, wa, wb, sq, sr, _⟩, k⟩ := h
  refine ⟨_, PSs.nox (pss_one (ps_ret (pe_fn h_l_low (hr.mono (by decide)) rfl (pa_cons (pe_op op_sub (pe_op op_mulW (pe_ix ix_tup (pv 0) pe_int (fun _ _ => rfl)) (pe_ix ix_tup (pv 1) pe_int (fun _ _ => rfl))) (pe_op op_mulW (pe_ix ix_tup (pv 1) pe_int (fun _ _ => rfl)) (pe_ix ix_tup (pv 0) pe_int (fun _ _ => rfl)))) (pa_cons (pe_op op_mulW (pe_ix ix_tup (pv 0) pe_int (fun _ _ => rfl)) (pe_ix ix_tup (pv 1) pe_int (fun _ _ => rfl))) pa_nil))))), ?_⟩
  have va : Ev (tVar 0) (start ["_law_one", "_law_other"] [V.ref a, V.ref b]) H (.ref a) := ev_var rfl
  have vb : Ev (tVar 1) (start ["_law_one", "_law_other"] [V.ref a, V.ref b]) H (.ref b) := ev_var rfl
  exact s_retR (ew_eq (ew_low (ev_op (ev_op (ev_num va wa) (ev_den vb wb) (rv_I (sq.nd sr))) (ev_op (ev_num vb wb) (ev_den va wa) (rv_I (sr.nd sq))) rv_I0) (ev_op (ev_den va wa) (ev_den vb wb) (rv_I (sq.dd sr))) (den_mul q r) (sq.ddl sr)) (q_sub q r)) fun v H1 e1 hw => k v H1 e1 hw
theorem sc_l_by : FnScope ["_law_one", "_law_other"] ["_law_one", "_law_other"] (defScope s_l_by) := ⟨rfl, rfl, rfl, by decide +kernel, rfl, by decide +kernel, by decide +kernel⟩
theorem ok_l_by (h_l_low : Fn P w K mg base 1 "_law_low" ["_law_upper", "_law_lower"] (spLow K)) (F : FunD K "_law_by" "_law_by" (defArgs s_l_by) (defBody s_l_by) (defScope s_l_by) [] [] f fd) : FnOk P w K mg base CX0 2 f fd ["_law_one", "_law_other"] (spW2 K Any2 (· * ·)) := by
  refine F.ok sc_l_by spw_len (fun cdv A outer s H vs Q E hr h => ?_)
  obtain ⟨⟨q, r⟩, ⟨a, b, rfl, wa, wb, sq, sr, _⟩, k⟩ := h
  refine ⟨_, PSs.nox (pss_one (ps_ret (pe_fn h_l_low (hr.mono (by decide)) rfl (pa_cons (pe_op op_mulW (pe_ix ix_tup (pv 0) pe_int (fun _ _ => rfl)) (pe_ix ix_tup (pv 1) pe_int (fun _ _ => rfl))) (pa_cons (pe_op op_mulW (pe_ix ix_tup (pv 0) pe_int (fun _ _ => rfl)) (pe_ix ix_tup (pv 1) pe_int (fun _ _ => rfl))) pa_nil))))), ?_⟩
  have va : Ev (tVar 0) (start ["_law_one", "_law_other"] [V.ref a, V.ref b]) H (.ref a) := ev_var rfl
  have vb : Ev (tVar 1) (start ["_law_one", "_law_other"] [V.ref a, V.ref b]) H (.ref b) := ev_var rfl
  exact s_retR (ew_eq (ew_low (ev_op (ev_num va wa) (ev_num vb wb) (rv_I (sq.nn sr))) (ev_op (ev_den va wa) (ev_den vb wb) (rv_I (sq.dd sr))) (den_mul q r) (sq.ddl sr)) (q_mul q r)) fun v H1 e1 hw => k v H1 e1 hw
theorem sc_l_less : FnScope ["_law_one", "_law_other"] ["_law_one", "_law_other"] (defScope s_l_less) := ⟨rfl, rfl, rfl, by decide +kernel, rfl, by decide +kernel, by decide +kernel⟩
theorem ok_l_less (F : FunD K "_law_less" "_law_less" (defArgs s_l_less) (defBody s_l_less) (defScope s_l_less) [] [] f fd) : FnOk P w K mg base CX0 1 f fd ["_law_one", "_law_other"] (spB2 K Any2 fun q r => decide (q < r)) := by
  refine F.ok sc_l_less spb_len (fun cdv A outer s H vs Q E hr h => ?_)
  obtain ⟨⟨q, r⟩, ⟨a, b, rfl, wa, wb, sq, sr, _⟩, k⟩ := h
  refine ⟨_, PSs.nox (pss_one (ps_ret (pe_cmpR op_lt (pe_op op_mulW (pe_ix ix_tup (pv 0) pe_int (fun _ _ => rfl)) (pe_ix ix_tup (pv 1) pe_int (fun _ _ => rfl))) (pe_op op_mulW (pe_ix ix_tup (pv 1) pe_int (fun _ _ => rfl)) (pe_ix ix_tup (pv 0) pe_int (fun _ _ => rfl))) (nomark _)))), ?_⟩
  have va : Ev (tVar 0) (start ["_law_one", "_law_other"] [V.ref a, V.ref b]) H (.ref a) := ev_var rfl
  have vb : Ev (tVar 1) (start ["_law_one", "_law_other"] [V.ref a, V.ref b]) H (.ref b) := ev_var rfl
  refine s_ret (ev_op (ev_op (ev_num va wa) (ev_den vb wb) (rv_I (sq.nd sr))) (ev_op (ev_num vb wb) (ev_den va wa) (rv_I (sr.nd sq))) rv_I0) fun H1 e1 => k _ H1 e1 ?_
  show V.bl (decide (q.num * (r.den : Int) < r.num * (q.den : Int))) = V.bl (decide (q < r))
  rw [decide_eq_decide.mpr (Rat.lt_iff q r).symm]
end
end Tb

/-! ## TbEv2 -/
set_option Elab.async false
set_option linter.all false
set_option maxRecDepth 100000
set_option maxHeartbeats 4000000
namespace Tb
open PySem PySem.Spec PyProof.Rows L2 Evl
/-! ### fields and methods -/
/-- an instance of C at p that has these fields -/
def Ins (H : Hp) (p C : Addr) (fs : List (Str × V)) : Prop := ∃ dx, H p = some (.ins C dx fs)
theorem Ins.mono {H H' : Hp} {p C : Addr} {fs : List (Str × V)} (h : Ins H p C fs) (e : Ex H H') : Ins H' p C fs := by
  obtain ⟨dx, h⟩ := h
  exact ⟨dx, e _ _ h⟩
section
variable {K : PySem.W.Frag} {σ : L2.St} {H H' : Hp} {ta tb tv te : TE} {v x y : V} {R R1 R2 R3 : V → Hp → Prop} {q r : Rat} {a p C dx : Addr} {i : Nat} {D : Ends} {tz : TS} {fs : List (Str × V)} {f m : Str}
theorem ev_fld (ha : Ev ta σ H (.ref p)) (ho : Ins H p C fs) (c : Cls K C) (n : NoAttr K C f) (l : fs.lookup f = some v) : Ev (tFld K ta f) σ H v := fun H1 e1 Q k =>
  ha H1 e1 _ fun H2 e2 => by
    obtain ⟨dx, h⟩ := ho.mono (e1.trans e2)
    exact ⟨p, C, dx, fs, v, rfl, h, c, n, l, k H2 e2⟩
theorem er_meth0 {ι : Type} {A : ι → List V → Hp → Prop} {B : ι → V → Hp → Prop} {E : XK} (i : ι) (ha : Ev ta σ H (.ref p)) (ho : Ins H p C fs) (l : fs.lookup m = none) (k : ∀ H1, Ex H H1 → A i [.ref p] H1) :
    EvR (tMeth C m (spI A B) [] E ta tNil) σ H (B i) := fun H1 e1 Q q =>
  ha H1 e1 _ fun H2 e2 => by
    obtain ⟨dx, h⟩ := ho.mono (e1.trans e2)
    exact ⟨p, dx, fs, rfl, h, l, i, k H2 (e1.trans e2), fun v H3 e3 b => q v H3 (e2.trans e3) b⟩
theorem er_meth1 {ι : Type} {A : ι → List V → Hp → Prop} {B : ι → V → Hp → Prop} {E : XK} (i : ι) (ha : Ev ta σ H (.ref p)) (ho : Ins H p C fs) (l : fs.lookup m = none) (hb : EvR tb σ H R2) (k : ∀ y H1, Ex H H1 → R2 y H1 → A i [.ref p, y] H1) :
    EvR (tMeth C m (spI A B) [] E ta (tCons tb tNil)) σ H (B i) := fun H1 e1 Q q =>
  ha H1 e1 _ fun H2 e2 => by
    obtain ⟨dx, h⟩ := ho.mono (e1.trans e2)
    exact ⟨p, dx, fs, rfl, h, l, hb H2 (e1.trans e2) _ fun y H3 e3 r => ⟨i, k y H3 ((e1.trans e2).trans e3) r, fun v H4 e4 b => q v H4 ((e2.trans e3).trans e4) b⟩⟩
theorem er_meth2 {ι : Type} {A : ι → List V → Hp → Prop} {B : ι → V → Hp → Prop} {E : XK} {tc : TE} (i : ι) (ha : Ev ta σ H (.ref p)) (ho : Ins H p C fs) (l : fs.lookup m = none) (hb : EvR tb σ H R2) (hc : EvR tc σ H R3) (mo : Mon R2)
    (k : ∀ y z H1, Ex H H1 → R2 y H1 → R3 z H1 → A i [.ref p, y, z] H1) : EvR (tMeth C m (spI A B) [] E ta (tCons tb (tCons tc tNil))) σ H (B i) := fun H1 e1 Q q =>
  ha H1 e1 _ fun H2 e2 => by
    obtain ⟨dx, h⟩ := ho.mono (e1.trans e2)
    exact ⟨p, dx, fs, rfl, h, l, hb H2 (e1.trans e2) _ fun y H3 e3 r => hc H3 ((e1.trans e2).trans e3) _ fun z H4 e4 r2 => ⟨i, k y z H4 (((e1.trans e2).trans e3).trans e4) (mo y H3 H4 e4 r) r2, fun v H5 e5 b => q v H5 (((e2.trans e3).trans e4).trans e5) b⟩⟩
theorem ix_tupB {X : Cx} {K : PySem.W.Frag} (h : X.K = K := by rfl) : IxR X (rIxT K) := by
  subst h
  exact ix_tup
theorem ix_listB {X : Cx} {K : PySem.W.Frag} (h : X.K = K := by rfl) : IxR X (rIxL K) := by
  subst h
  exact ix_list
theorem pe_gint {X : Cx} {x : Str} {i : Int} {t : Tok} {pos : Pos} (hg : Gl X x) (hm : X.mg x = some (.int i t)) (hd : (x == ("__debug__" : Str)) = false := by decide) : PE X (.Name x pos) (tC (.int i)) := pe_glob (v := .int i) hg hm ⟨t, rfl⟩ hd
theorem pe_gstr {X : Cx} {x s : Str} {t : Tok} {pos : Pos} (hg : Gl X x) (hm : X.mg x = some (.str s t)) (hd : (x == ("__debug__" : Str)) = false := by decide) : PE X (.Name x pos) (tC (.str s)) := pe_glob (v := .str s) hg hm ⟨t, rfl⟩ hd
/-- all but p stands -/
def Ek (p : Addr) (H H' : Hp) : Prop := ∀ c o, H c = some o → c ≠ p → H' c = some o
theorem Ek.refl (p : Addr) (H : Hp) : Ek p H H := fun _ _ h _ => h
theorem ekx (e : Ex H H') : Ek p H H' := fun c o h _ => e c o h
theorem Ek.trans {H1 H2 : Hp} (a : Ek p H H1) (b : Ek p H1 H2) : Ek p H H2 := fun c o h n => b c o (a c o h n) n
theorem Ek.upd {o : HO} : Ek p H (upd H p o) := fun c u h n => by
  rw [upd_ne n]
  exact h
theorem Ek.set {H1 : Hp} {o : HO} (a : Ek p H H1) : Ek p H (L2.upd H1 p o) := a.trans Ek.upd
theorem Ek.tup {xs : List V} (e : Ek p H H') (hp : Ins H p C fs) (h : SqT K H a xs) : SqT K H' a xs := by
  obtain ⟨dx, hp⟩ := hp
  rcases h with (h | ⟨o, h⟩) | h
  · exact .inl (.inl (e _ _ h (ne_of h hp (by intro z; cases z))))
  · exact .inl (.inr ⟨o, e _ _ h (ne_of h hp (by intro z; cases z))⟩)
  · exact .inr h
theorem Ek.wat (e : Ek p H H') (hp : Ins H p C fs) (h : WAt K H a q) : WAt K H' a q := e.tup hp h
/-- the same of a list that changes -/
theorem Ek.tupL {xs ys : List V} (e : Ek p H H') (hp : H p = some (.lst ys)) (h : SqT K H a xs) : SqT K H' a xs := by
  rcases h with (h | ⟨o, h⟩) | h
  · exact .inl (.inl (e _ _ h (ne_of h hp (by intro z; cases z))))
  · exact .inl (.inr ⟨o, e _ _ h (ne_of h hp (by intro z; cases z))⟩)
  · exact .inr h
theorem Ek.watL {ys : List V} (e : Ek p H H') (hp : H p = some (.lst ys)) (h : WAt K H a q) : WAt K H' a q := e.tupL hp h
theorem Ek.insL {ys : List V} {b : Addr} (e : Ek p H H') (hp : H p = some (.lst ys)) (h : Ins H b C fs) : Ins H' b C fs := by
  obtain ⟨dx, h⟩ := h
  exact ⟨dx, e _ _ h (ne_of h hp (by intro z; cases z))⟩
/-- o.f = e -/
theorem s_fld (hv : EvR tv σ H R) (m : Mon R) (ha : Ev ta σ H (.ref p)) (ho : H p = some (.ins C dx fs)) (c : Cls K C) (n : NoAttr K C f) (hl : fs.length < 1000)
    (k : ∀ v H1, Ex H H1 → R v H1 → D.nx σ (upd H1 p (.ins C dx (putF f v fs)))) : sFld K ta tv f D σ H :=
  hv H (Ex.refl H) _ fun v H1 e1 r => ha H1 e1 _ fun H2 e2 => ⟨p, C, dx, fs, rfl, (e1.trans e2) _ _ ho, c, n, hl, k v H2 (e1.trans e2) (m v H1 H2 e2 r)⟩
theorem q_fld (hv : EvR tv σ H R) (m : Mon R) (ha : Ev ta σ H (.ref p)) (ho : H p = some (.ins C dx fs)) (c : Cls K C) (n : NoAttr K C f) (hl : fs.length < 1000)
    (k : ∀ v H1, Ex H H1 → R v H1 → tz D σ (upd H1 p (.ins C dx (putF f v fs)))) : tSeq (sFld K ta tv f) tz D σ H := s_fld (D := { D with nx := tz D }) hv m ha ho c n hl k
theorem eq_mon {u : V} : Mon (fun v _ => v = u) := fun _ _ _ _ h => h
end
end Tb

/-! ## TbLine -/
set_option Elab.async false
set_option linter.all false
set_option maxRecDepth 100000
set_option maxHeartbeats 4000000
namespace Tb
open PySem PySem.Spec PyProof.Rows L2 Evl
def lfs (l h s t b : Addr) : List (Str × V) := [("low", .ref l), ("high", .ref h), ("step", .ref s), ("turn", .ref t), ("begin", .ref b)]
structure LineAt (K : PySem.W.Frag) (CL : Addr) (H : Hp) (p : Addr) (L : LineD) : Prop where
  ex : ∃ l h s t b, Ins H p CL (lfs l h s t b) ∧ WAt K H l L.low ∧ WAt K H h L.high ∧ WAt K H s L.step ∧ WAt K H t L.turn ∧ WAt K H b L.begin
theorem LineAt.mono {K : PySem.W.Frag} {CL : Addr} {H H' : Hp} {p : Addr} {L : LineD} (h : LineAt K CL H p L) (e : Ex H H') : LineAt K CL H' p L := by
  obtain ⟨l, h, s, t, b, h0, h1, h2, h3, h4, h5⟩ := h.ex
  exact ⟨l, h, s, t, b, h0.mono e, h1.mono e, h2.mono e, h3.mono e, h4.mono e, h5.mono e⟩
def ALine (K : PySem.W.Frag) (CL : Addr) : LineD × Int → List V → Hp → Prop := fun p vs H => ∃ a, vs = [.ref a, .int p.2] ∧ LineAt K CL H a p.1 ∧ LineOk p.1 ∧ -100 ≤ p.2 ∧ p.2 ≤ 100
abbrev spPhase (K : PySem.W.Frag) (CL : Addr) : Sp := spI (ALine K CL) fun p => IsW K (p.1.phase p.2)
abbrev spRises (K : PySem.W.Frag) (CL : Addr) : Sp := spI (ALine K CL) fun p v _ => v = .bl (decide (p.1.phase p.2 < p.1.high - p.1.low))
abbrev spLVal (K : PySem.W.Frag) (CL : Addr) : Sp := spI (ALine K CL) fun p => IsW K (p.1.val p.2)
abbrev spRest (K : PySem.W.Frag) : Sp := spW2 K (fun u o => 0 < u ∧ Sm (((o / u).floor : Int) : Rat) ∧ Sm ((((o / u).floor : Int) : Rat) * u)) rest
section
variable {P : Program} {w : World} {K : PySem.W.Frag} {mg : Str → Option Value} {base : Heap} {CL CZ CT NO MA : Addr} {f : Addr} {fd : FuncData}
theorem aline_len {x y : Str} {R : LineD × Int → V → Hp → Prop} : ∀ vs H Q E, spI (ALine K CL) R vs H Q E → vs.length = ([x, y] : List Str).length := fun vs H Q E ⟨_, ⟨_, e, _⟩, _⟩ => by
  rw [e] <;> rfl
theorem sc_Line_phase : FnScope ["self", "row"] ["self", "row"] (defScope s_Line_phase) := ⟨rfl, rfl, rfl, by decide +kernel, rfl, by decide +kernel, by decide +kernel⟩
theorem ok_Line_phase (T : Txt K w mg CL CZ CT NO MA) (h_plus : Fn P w K mg base 3 "plus" ["one", "other"] (spW2 K Any2 (· + ·))) (h_times : Fn P w K mg base 3 "times" ["one", "other"] (spW2 K Any2 (· * ·)))
    (h_rest_of : Fn P w K mg base 4 "rest_of" ["one", "other"] (spRest K)) (F : FunD K "phase" "Line.phase" (defArgs s_Line_phase) (defBody s_Line_phase) (defScope s_Line_phase) [] [] f fd) :
    FnOk P w K mg base CX0 5 f fd ["self", "row"] (spPhase K CL) := by
  refine F.ok sc_Line_phase aline_len (fun cdv A outer s H vs Q E hr h => ?_)
  obtain ⟨⟨L, row⟩, ⟨a, rfl, hL, ok, r1, r2⟩, k⟩ := h
  refine ⟨_, PSs.nox (pss_one (ps_ret (pe_fn h_rest_of (hr.mono (by decide)) rfl (pa_cons (pe_fld (pv 0) rfl) (pa_cons (pe_fn h_plus (hr.mono (by decide)) rfl (pa_cons (pe_fld (pv 0) rfl) (pa_cons (pe_fn h_times (hr.mono (by decide)) rfl (pa_cons (pe_tup (pa_cons (pv 1) (pa_cons pe_int pa_nil))) (pa_cons (pe_fld (pv 0) rfl) pa_nil))) pa_nil))) pa_nil))))), ?_⟩
  obtain ⟨l, h, st, t, b, h0, h1, h2, h3, h4, h5⟩ := hL.ex
  have hv : Ev (tVar 0) (start ["self", "row"] [V.ref a, V.int row]) H (.ref a) := ev_var rfl
  have hrow : Sm ((row : Int) : Rat) := (Bd.int 1 r1 r2).sm1 (by decide +kernel)
  refine s_retR (ew_2 (ew_of (ev_fld hv h0 T.c_Line T.l_turn rfl) h4) (ew_2 (ew_of (ev_fld hv h0 T.c_Line T.l_begin rfl) h5) (ew_2 (ew_int (i := row) (ev_var rfl) ev_c) (ew_of (ev_fld hv h0 T.c_Line T.l_step rfl) h3) hrow (ok.step.sm1 (by decide +kernel)) trivial)
    (ok.begin.sm1 (by decide +kernel)) ((ok.rowstep r1 r2).sm1 (by decide +kernel)) trivial) (ok.turn.sm1 (by decide +kernel)) ((ok.at_ r1 r2).sm1 (by decide +kernel)) (rest_pre ok.pos ok.turn (ok.at_ r1 r2) (by decide +kernel))) fun v H1 e1 hw => k v H1 e1 hw
theorem sc_Line_rises : FnScope ["self", "row"] ["self", "row"] (defScope s_Line_rises) := ⟨rfl, rfl, rfl, by decide +kernel, rfl, by decide +kernel, by decide +kernel⟩
theorem ok_Line_rises (T : Txt K w mg CL CZ CT NO MA) (h_minus : Fn P w K mg base 3 "minus" ["one", "other"] (spW2 K Any2 (· - ·))) (h_is_less : Fn P w K mg base 1 "is_less" ["one", "other"] (spB2 K Any2 fun q r => decide (q < r)))
    (h_Line_phase : Me P w K mg base CL 5 "phase" ["self", "row"] (spPhase K CL)) (F : FunD K "rises" "Line.rises" (defArgs s_Line_rises) (defBody s_Line_rises) (defScope s_Line_rises) [] [] f fd) :
    FnOk P w K mg base CX0 6 f fd ["self", "row"] (spRises K CL) := by
  refine F.ok sc_Line_rises aline_len (fun cdv A outer s H vs Q E hr h => ?_)
  obtain ⟨⟨L, row⟩, ⟨a, rfl, hL, ok, r1, r2⟩, k⟩ := h
  refine ⟨_, PSs.nox (pss_one (ps_ret (pe_fn h_is_less (hr.mono (by decide)) rfl (pa_cons (pe_me h_Line_phase T.c_Line (hr.mono (by decide)) (pv 0) (pa_cons (pv 1) pa_nil)) (pa_cons (pe_fn h_minus (hr.mono (by decide)) rfl (pa_cons (pe_fld (pv 0) rfl) (pa_cons (pe_fld (pv 0) rfl) pa_nil))) pa_nil))))), ?_⟩
  obtain ⟨l, h, st, t, b, h0, h1, h2, h3, h4, h5⟩ := hL.ex
  have hv : Ev (tVar 0) (start ["self", "row"] [V.ref a, V.int row]) H (.ref a) := ev_var rfl
  refine s_ret (ev_b2 (er_meth1 (A := ALine K CL) (L, row) hv h0 rfl (R2 := fun v _ => v = .int row) (er_of (ev_var rfl) fun _ _ => rfl) fun y H1 e1 hy => ⟨a, by rw [hy], hL.mono e1, ok, r1, r2⟩)
    (ew_2 (ew_of (ev_fld hv h0 T.c_Line T.l_high rfl) h2) (ew_of (ev_fld hv h0 T.c_Line T.l_low rfl) h1) (ok.high.sm1 (by decide +kernel)) (ok.low.sm1 (by decide +kernel)) trivial)
    ((ok.phase r1 r2).sm1 (by decide +kernel)) ((ok.high.sub ok.low).sm1 (by decide +kernel)) trivial) fun H1 e1 => k _ H1 e1 rfl
theorem sc_Line_value : FnScope ["self", "row", "phase"] ["self", "row"] (defScope s_Line_value) := ⟨rfl, rfl, rfl, by decide +kernel, rfl, by decide +kernel, by decide +kernel⟩
theorem ok_Line_value (T : Txt K w mg CL CZ CT NO MA) (h_plus : Fn P w K mg base 3 "plus" ["one", "other"] (spW2 K Any2 (· + ·))) (h_minus : Fn P w K mg base 3 "minus" ["one", "other"] (spW2 K Any2 (· - ·)))
    (h_Line_phase : Me P w K mg base CL 5 "phase" ["self", "row"] (spPhase K CL)) (h_Line_rises : Me P w K mg base CL 6 "rises" ["self", "row"] (spRises K CL)) (F : FunD K "value" "Line.value" (defArgs s_Line_value) (defBody s_Line_value) (defScope s_Line_value) [] [] f fd) :
    FnOk P w K mg base CX0 7 f fd ["self", "row"] (spLVal K CL) := by
  refine F.ok sc_Line_value aline_len (fun cdv A outer s H vs Q E hr h => ?_)
  obtain ⟨⟨L, row⟩, ⟨a, rfl, hL, ok, r1, r2⟩, k⟩ := h
  refine ⟨_, PSs.nox (pss_cons (ps_set (i := 2) sc_Line_value.nd rfl (Or.inl rfl) (pe_me h_Line_phase T.c_Line (hr.mono (by decide)) (pv 0) (pa_cons (pv 1) pa_nil)))
    (pss_cons (ps_if (pt_val (pe_me h_Line_rises T.c_Line (hr.mono (by decide)) (pv 0) (pa_cons (pv 1) pa_nil))) (pss_one (ps_ret (pe_fn h_plus (hr.mono (by decide)) rfl (pa_cons (pe_fld (pv 0) rfl) (pa_cons (pv 2) pa_nil))))) pss_nil)
    (pss_one (ps_ret (pe_fn h_plus (hr.mono (by decide)) rfl (pa_cons (pe_fld (pv 0) rfl) (pa_cons (pe_fn h_minus (hr.mono (by decide)) rfl (pa_cons (pe_fld (pv 0) rfl) (pa_cons (pv 2) pa_nil))) pa_nil))))))), ?_⟩
  obtain ⟨l, h, st, t, b, h0, h1, h2, h3, h4, h5⟩ := hL.ex
  refine q_asgW (er_meth1 (A := ALine K CL) (L, row) (ev_var rfl) h0 rfl (R2 := fun v _ => v = .int row) (er_of (ev_var rfl) fun _ _ => rfl) fun y H1 e1 hy => ⟨a, by rw [hy], hL.mono e1, ok, r1, r2⟩) fun p H1 e1 hp => ?_
  refine q_when (et_B (ev_of_v (er_meth1 (A := ALine K CL) (L, row) (ev_var rfl) (h0.mono e1) rfl (R2 := fun v _ => v = .int row) (er_of (ev_var rfl) fun _ _ => rfl) fun y H2 e2 hy => ⟨a, by rw [hy], hL.mono (e1.trans e2), ok, r1, r2⟩))) (fun hb H2 e2 => ?_) (fun hb H2 e2 => ?_)
  · have hb := of_decide_eq_true hb
    refine s_retW (ew_2 (ew_of (ev_fld (ev_var rfl) (h0.mono (e1.trans e2)) T.c_Line T.l_low rfl) (h1.mono (e1.trans e2))) (ew_var rfl (hp.mono e2)) (ok.low.sm1 (by decide +kernel)) ((ok.phase r1 r2).sm1 (by decide +kernel)) trivial) fun v H3 e3 hw => k _ H3 ((e1.trans e2).trans e3) ⟨v, rfl, ?_⟩
    show WAt K H3 v (L.val row)
    unfold LineD.val
    rw [if_pos hb]
    exact hw
  · have hb := of_decide_eq_false hb
    refine s_retW (ew_2 (ew_of (ev_fld (ev_var rfl) (h0.mono (e1.trans e2)) T.c_Line T.l_low rfl) (h1.mono (e1.trans e2))) (ew_2 (ew_of (ev_fld (ev_var rfl) (h0.mono (e1.trans e2)) T.c_Line T.l_turn rfl) (h4.mono (e1.trans e2))) (ew_var rfl (hp.mono e2)) (ok.turn.sm1 (by decide +kernel)) ((ok.phase r1 r2).sm1 (by decide +kernel)) trivial)
      (ok.low.sm1 (by decide +kernel)) ((ok.turn.sub (ok.phase r1 r2)).sm1 (by decide +kernel)) trivial) fun v H3 e3 hw => k _ H3 ((e1.trans e2).trans e3) ⟨v, rfl, ?_⟩
    show WAt K H3 v (L.val row)
    unfold LineD.val
    rw [if_neg hb]
    exact hw
end
end Tb

/-! ## TbLine2 -/
set_option Elab.async false
set_option linter.all false
set_option maxRecDepth 100000
set_option maxHeartbeats 4000000
namespace Tb
open PySem PySem.Spec PyProof.Rows L2 Evl
/-! ### a worth as data; tests of kinds -/
def wd (q : Rat) : PyData := .tuple [.int q.num, .int (q.den : Int)]
section
variable {K : PySem.W.Frag} {σ : L2.St} {H H' : Hp} {ta tb te : TE} {v cv x y : V} {q r : Rat} {a : Addr} {t u : Value} {b : Bool} {E : XK}
theorem dp_w (h : WAt K H a q) : Dp K H (.ref a) (wd q) := .tup h (.cons (.int _) (.cons (.int _) .nil))
theorem shaped_w : SeqAt.shaped (wd q) = true := rfl
theorem rv_neD {d e : PyData} (h1 : ∀ H1, Ex H H1 → Dp K H1 x d) (h2 : ∀ H1, Ex H H1 → Dp K H1 y e) (s1 : SeqAt.shaped d = true) (s2 : SeqAt.shaped e = true) : RV (rNeD K) x y H (.bl (!PyData.eqv d e)) := fun H1 e1 _ q => ⟨d, e, h1 H1 e1, h2 H1 e1, s1, s2, q H1 (Ex.refl H1)⟩
theorem ev_neW (ha : EW K ta σ H q) (hb : EW K tb σ H r) : Ev (tOp (rNeD K) ta tb) σ H (.bl (!PyData.eqv (wd q) (wd r))) := fun H1 e1 Q k =>
  ha H1 e1 _ fun v H2 e2 ⟨a, h1, w1⟩ => hb H2 (e1.trans e2) _ fun u H3 e3 ⟨b, h2, w2⟩ => by
    subst h1 h2
    exact ⟨_, _, dp_w (w1.mono e3), dp_w w2, rfl, rfl, k H3 (e2.trans e3)⟩
theorem ev_isi (h : Ev te σ H v) (ty : ∀ H1, Ex H H1 → TyX K H1 v t) (c : ClsV cv u) (e : PySem.W.kitOne K t u = some b) : Ev (tCB (rIsi K) (tCons te (tCons (tC cv) tNil))) σ H (.bl b) := fun H1 e1 Q k =>
  h H1 e1 _ fun H2 e2 => ⟨v, cv, t, u, b, rfl, c, ty H2 (e1.trans e2), e, k H2 e2⟩
theorem ev_isw (h : EW K te σ H q) : Ev (tCall (spIsWorth K) [] E (tCons te tNil)) σ H (.bl true) :=
  ev_of_v (er_call1 (A := fun (p : Rat) vs H => ∃ a, vs = [.ref a] ∧ WAt K H a p) q h fun x H1 _ ⟨a, e, hw⟩ => ⟨a, by rw [e], hw⟩)
theorem ev_bF {b : Bool} (h : Ev te σ H (.bl b)) (e : b = false) : Ev te σ H (.bl false) := e ▸ h
theorem ev_bT {b : Bool} (h : Ev te σ H (.bl b)) (e : b = true) : Ev te σ H (.bl true) := e ▸ h
end
section
variable {P : Program} {w : World} {K : PySem.W.Frag} {mg : Str → Option Value} {base : Heap} {CL CZ CT NO MA : Addr} {f : Addr} {fd : FuncData}
theorem Txt.wat0 (T : Txt K w mg CL CZ CT NO MA) (H : Hp) : WAt K H NO 0 := T.nought H
theorem Txt.ew0 (T : Txt K w mg CL CZ CT NO MA) {σ : L2.St} {H : Hp} : EW K (tC (.ref NO)) σ H 0 := ew_of ev_c (T.wat0 H)
theorem sm0 : Sm 0 := sm_int (z := 0) (by decide +kernel)
/-- what phase_of is told: the line's least worth, its turn, a worth, a way -/
structure PoD where
  low : Rat
  turn : Rat
  at_ : Rat
  up : Bool
def APo (K : PySem.W.Frag) (CL : Addr) : PoD → List V → Hp → Prop := fun d vs H => ∃ p c l t fs, vs = [.ref p, .ref c, .bl d.up] ∧ Ins H p CL fs ∧ fs.lookup ("low" : Str) = some (.ref l) ∧ fs.lookup ("turn" : Str) = some (.ref t) ∧ WAt K H l d.low ∧ WAt K H t d.turn ∧ WAt K H c d.at_ ∧
  Bd MB BI d.low ∧ Bd MB (4 * BI) d.turn ∧ Bd MB BI d.at_
def RPo (K : PySem.W.Frag) : V → Hp → Prop := fun v H => ∃ r, IsW K r v H ∧ Bd MB BL r
theorem rpo_mon : Mon (RPo K) := fun v H H' e ⟨r, h, b⟩ => ⟨r, isw_mon v H H' e h, b⟩
abbrev spPhaseOf (K : PySem.W.Frag) (CL : Addr) : Sp := spI (APo K CL) fun _ => RPo K
theorem sc_Line_phase_of : FnScope ["self", "thing", "up", "phase"] ["self", "thing", "up"] (defScope s_Line_phase_of) := ⟨rfl, rfl, rfl, by decide +kernel, rfl, by decide +kernel, by decide +kernel⟩
theorem ok_Line_phase_of (T : Txt K w mg CL CZ CT NO MA) (h_minus : Fn P w K mg base 3 "minus" ["one", "other"] (spW2 K Any2 (· - ·))) (F : FunD K "phase_of" "Line.phase_of" (defArgs s_Line_phase_of) (defBody s_Line_phase_of) (defScope s_Line_phase_of) [] [] f fd) :
    FnOk P w K mg base CX0 4 f fd ["self", "thing", "up"] (spPhaseOf K CL) := by
  refine F.ok sc_Line_phase_of (fun vs H Q E h => ?_) (fun cdv A outer s H vs Q E hr h => ?_)
  · obtain ⟨d, ⟨_, _, _, _, _, rfl, _⟩, _⟩ := h
    rfl
  obtain ⟨⟨lo, tu, at_, up⟩, ⟨p, c, l, t, fs, rfl, hp, fl, ft, wl, wt, wc, bl, bt, bc⟩, k⟩ := h
  refine ⟨_, PSs.nox (pss_cons (ps_set (i := 3) sc_Line_phase_of.nd rfl (Or.inl rfl) (pe_fn h_minus (hr.mono (by decide)) rfl (pa_cons (pv 1) (pa_cons (pe_fld (pv 0) rfl) pa_nil))))
    (pss_cons (ps_if (PW.pt (pw_and (pt_not (pt_val (pv 2))) (pw_and1 (pt_cmpR (op_neD hr.units) (pv 1) (pe_fld (pv 0) rfl) (nomark _))))) (pss_one (ps_set (i := 3) sc_Line_phase_of.nd rfl (Or.inl rfl) (pe_fn h_minus (hr.mono (by decide)) rfl (pa_cons (pe_fld (pv 0) rfl) (pa_cons (pv 3) pa_nil))))) pss_nil)
    (pss_one (ps_ret (pv 3))))), ?_⟩
  refine q_asgW (ew_2 (ew_var rfl wc) (ew_of (ev_fld (ev_var rfl) hp T.c_Line T.l_low fl) wl) (bc.sm1 (by decide +kernel)) (bl.sm1 (by decide +kernel)) trivial) fun a H1 e1 wa => ?_
  have hd : Bd MB (BI + BI) (at_ - lo) := bc.sub bl
  refine q_when (et_and (et_not (et_B (b := up) (ev_var rfl))) fun _ => et_test (ev_neW (ew_var rfl (wc.mono e1)) (ew_of (ev_fld (ev_var rfl) (hp.mono e1) T.c_Line T.l_low fl) (wl.mono e1)))) (fun _ H2 e2 => ?_) (fun _ H2 e2 => ?_)
  · refine s_asgR (ew_2 (ew_of (ev_fld (ev_var rfl) (hp.mono (e1.trans e2)) T.c_Line T.l_turn ft) (wt.mono (e1.trans e2))) (ew_var rfl (wa.mono e2)) (bt.sm1 (by decide +kernel)) (hd.sm1 (by decide +kernel)) trivial) fun v H3 e3 r3 => ?_
    exact ⟨v, rfl, k v H3 ((e1.trans e2).trans e3) ⟨_, r3, (bt.sub hd).mono (Int.dvd_refl _) (by decide)⟩⟩
  · exact ⟨_, rfl, k _ H2 (e1.trans e2) ⟨_, ⟨a, rfl, wa.mono e2⟩, hd.mono (Int.dvd_refl _) (by decide)⟩⟩
/-- what a line is made of -/
structure LineArg (K : PySem.W.Frag) (H : Hp) (a1 a2 a3 a4 : Addr) (lo hi st at_ : Rat) : Prop where
  w1 : WAt K H a1 lo
  w2 : WAt K H a2 hi
  w3 : WAt K H a3 st
  w4 : WAt K H a4 at_
  l0 : 0 ≤ lo
  l1 : lo < hi
  l2 : 0 < st
  l3 : st ≤ hi - lo
  l4 : lo ≤ at_
  l5 : at_ ≤ hi
  b1 : Bd MB BI lo
  b2 : Bd MB BI hi
  b3 : Bd MB BI st
  b4 : Bd MB BI at_
def spLineInit (K : PySem.W.Frag) (CL : Addr) : Sp := fun vs H Q _ => ∃ (p dx a1 a2 a3 a4 : Addr) (lo hi st at_ : Rat) (b : Bool), vs = [.ref p, .ref a1, .ref a2, .ref a3, .ref a4, .bl b] ∧ H p = some (.ins CL dx []) ∧ LineArg K H a1 a2 a3 a4 lo hi st at_ ∧
  ∀ L H', LineAt K CL H' p L → LineOk L → Ek p H H' → Q .non H'
theorem sc_Line_init : FnScope ["self", "low", "high", "step", "at", "up"] ["self", "low", "high", "step", "at", "up"] (defScope s_Line_init) := ⟨rfl, rfl, rfl, by decide +kernel, rfl, by decide +kernel, by decide +kernel⟩
theorem ok_Line_init (T : Txt K w mg CL CZ CT NO MA) (h_minus : Fn P w K mg base 3 "minus" ["one", "other"] (spW2 K Any2 (· - ·))) (h_times : Fn P w K mg base 3 "times" ["one", "other"] (spW2 K Any2 (· * ·)))
    (h_is_less : Fn P w K mg base 1 "is_less" ["one", "other"] (spB2 K Any2 fun q r => decide (q < r))) (h_is_worth : Fn P w K mg base 2 "is_worth" ["thing"] (spIsWorth K)) (h_Line_phase_of : Me P w K mg base CL 4 "phase_of" ["self", "thing", "up"] (spPhaseOf K CL))
    {kws : List (Str × V)} (F : FunD K "__init__" "Line.__init__" (defArgs s_Line_init) (defBody s_Line_init) (defScope s_Line_init) [] kws f fd) :
    FnOk P w K mg base CX0 5 f fd ["self", "low", "high", "step", "at", "up"] (spLineInit K CL) := by
  refine F.ok sc_Line_init (fun vs H Q E h => ?_) (fun cdv A outer s H vs Q E hr h => ?_)
  · obtain ⟨_, _, _, _, _, _, _, _, _, _, _, rfl, _⟩ := h
    rfl
  obtain ⟨p, dx, a1, a2, a3, a4, lo, hi, st, at_, b, rfl, hp, LA, k⟩ := h
  refine ⟨_, PSs.nox (pss_cons (ps_if (PW.pt (pw_or (pt_not (pt_val (pe_fn h_is_worth (hr.mono (by decide)) rfl (pa_cons (pv 1) pa_nil)))) (pw_or1 (pt_val (pe_fn h_is_less (hr.mono (by decide)) rfl (pa_cons (pv 1) (pa_cons (pe_gref rfl T.g_NOUGHT) pa_nil))))))) (pss_one ps_never) pss_nil)
    (pss_cons (ps_if (PW.pt (pw_or (pt_not (pt_val (pe_fn h_is_worth (hr.mono (by decide)) rfl (pa_cons (pv 2) pa_nil)))) (pw_or1 (pt_not (pt_val (pe_fn h_is_less (hr.mono (by decide)) rfl (pa_cons (pv 1) (pa_cons (pv 2) pa_nil)))))))) (pss_one ps_never) pss_nil)
    (pss_cons (ps_if (PW.pt (pw_or (pt_not (pt_val (pe_fn h_is_worth (hr.mono (by decide)) rfl (pa_cons (pv 3) pa_nil)))) (pw_or (pt_not (pt_val (pe_fn h_is_less (hr.mono (by decide)) rfl (pa_cons (pe_gref rfl T.g_NOUGHT) (pa_cons (pv 3) pa_nil))))) (pw_or1 (pt_val (pe_fn h_is_less (hr.mono (by decide)) rfl (pa_cons (pe_fn h_minus (hr.mono (by decide)) rfl (pa_cons (pv 2) (pa_cons (pv 1) pa_nil))) (pa_cons (pv 3) pa_nil)))))))) (pss_one ps_never) pss_nil)
    (pss_cons (ps_if (PW.pt (pw_or (pt_not (pt_val (pe_fn h_is_worth (hr.mono (by decide)) rfl (pa_cons (pv 4) pa_nil)))) (pw_or (pt_val (pe_fn h_is_less (hr.mono (by decide)) rfl (pa_cons (pv 4) (pa_cons (pv 1) pa_nil)))) (pw_or1 (pt_val (pe_fn h_is_less (hr.mono (by decide)) rfl (pa_cons (pv 2) (pa_cons (pv 4) pa_nil)))))))) (pss_one ps_never) pss_nil)
    (pss_cons (ps_if (pt_not (pt_val (pe_callB call_isi (by rfl) T.f_isinstance (by decide +kernel) (pa_cons (pv 5) (pa_cons (pe_ty (n := "bool") (by rfl) T.f_bool (by decide +kernel)) pa_nil))))) (pss_one ps_never) pss_nil)
    (pss_cons (ps_fld (pv 0) (pv 1) rfl)
    (pss_cons (ps_fld (pv 0) (pv 2) rfl)
    (pss_cons (ps_fld (pv 0) (pv 3) rfl)
    (pss_cons (ps_fld (pv 0) (pe_fn h_times (hr.mono (by decide)) rfl (pa_cons (pe_tup (pa_cons pe_int (pa_cons pe_int pa_nil))) (pa_cons (pe_fn h_minus (hr.mono (by decide)) rfl (pa_cons (pv 2) (pa_cons (pv 1) pa_nil))) pa_nil))) rfl)
    (pss_one (ps_fld (pv 0) (pe_me h_Line_phase_of T.c_Line (hr.mono (by decide)) (pv 0) (pa_cons (pv 4) (pa_cons (pv 5) pa_nil))) rfl))))))))))), ?_⟩
  obtain ⟨w1, w2, w3, w4, l0, l1, l2, l3, l4, l5, b1, b2, b3, b4⟩ := LA
  have s1 : Sm lo := b1.sm1 (by decide +kernel)
  have s2 : Sm hi := b2.sm1 (by decide +kernel)
  have s3 : Sm st := b3.sm1 (by decide +kernel)
  have s4 : Sm at_ := b4.sm1 (by decide +kernel)
  have s21 : Sm (hi - lo) := (b2.sub b1).sm1 (by decide +kernel)
  have hI : Ins H p CL [] := ⟨dx, hp⟩
  refine q_when (b := false) (et_is (et_or (a := !true) (et_not (et_B (ev_isw (ew_var rfl w1)))) fun _ => et_B (ev_bF (ev_b2 (ew_var rfl w1) T.ew0 s1 sm0 trivial) (decide_eq_false (Rat.not_lt.mpr l0)))) rfl) (fun h => by cases h) fun _ H1 e1 => ?_
  refine q_when (b := false) (et_is (et_or (a := !true) (et_not (et_B (ev_isw (ew_var rfl (w2.mono e1))))) fun _ => et_not (et_B (ev_bT (ev_b2 (ew_var rfl (w1.mono e1)) (ew_var rfl (w2.mono e1)) s1 s2 trivial) (decide_eq_true l1)))) rfl) (fun h => by cases h) fun _ H2 e2 => ?_
  have e12 := e1.trans e2
  refine q_when (b := false) (et_is (et_or (a := !true) (et_not (et_B (ev_isw (ew_var rfl (w3.mono e12))))) fun _ => et_or (a := !true) (et_not (et_B (ev_bT (ev_b2 T.ew0 (ew_var rfl (w3.mono e12)) sm0 s3 trivial) (decide_eq_true l2)))) fun _ =>
    et_B (ev_bF (ev_b2 (ew_2 (ew_var rfl (w2.mono e12)) (ew_var rfl (w1.mono e12)) s2 s1 trivial) (ew_var rfl (w3.mono e12)) s21 s3 trivial) (decide_eq_false (Rat.not_lt.mpr l3)))) rfl) (fun h => by cases h) fun _ H3 e3 => ?_
  have e13 := e12.trans e3
  refine q_when (b := false) (et_is (et_or (a := !true) (et_not (et_B (ev_isw (ew_var rfl (w4.mono e13))))) fun _ => et_or (a := false) (et_B (ev_bF (ev_b2 (ew_var rfl (w4.mono e13)) (ew_var rfl (w1.mono e13)) s4 s1 trivial) (decide_eq_false (Rat.not_lt.mpr l4)))) fun _ =>
    et_B (ev_bF (ev_b2 (ew_var rfl (w2.mono e13)) (ew_var rfl (w4.mono e13)) s2 s4 trivial) (decide_eq_false (Rat.not_lt.mpr l5)))) rfl) (fun h => by cases h) fun _ H4 e4 => ?_
  have e14 := e13.trans e4
  refine q_when (b := false) (et_is (et_not (et_B (b := true) (ev_isi (ev_var rfl) (fun _ _ => .base (.bl b)) (.ty "bool") (kit_ty (by decide +kernel))))) rfl) (fun h => by cases h) fun _ H5 e5 => ?_
  have e15 := e14.trans e5
  refine q_fld (er_of (ev_var rfl) fun _ _ => rfl) (eq_mon (u := .ref a1)) (ev_var rfl) (e15 _ _ hp) T.c_Line T.l_low (by decide) fun v1 H6 e6 r1 => ?_
  subst r1
  have k6 : Ek p H (upd H6 p (.ins CL dx [("low", .ref a1)])) := (ekx (e15.trans e6)).set
  refine q_fld (er_of (ev_var rfl) fun _ _ => rfl) (eq_mon (u := .ref a2)) (ev_var rfl) (show (upd H6 p (.ins CL dx [("low", .ref a1)])) p = _ from upd_same) T.c_Line T.l_high (by show 1 < 1000; decide) fun v2 H7 e7 r2 => ?_
  subst r2
  have k7 : Ek p H (upd H7 p (.ins CL dx [("low", .ref a1), ("high", .ref a2)])) := (k6.trans (ekx e7)).set
  refine q_fld (er_of (ev_var rfl) fun _ _ => rfl) (eq_mon (u := .ref a3)) (ev_var rfl) (show (upd H7 p (.ins CL dx [("low", .ref a1), ("high", .ref a2)])) p = _ from upd_same) T.c_Line T.l_step (by show 2 < 1000; decide) fun v3 H8 e8 r3 => ?_
  subst r3
  have k8 : Ek p H (upd H8 p (.ins CL dx [("low", .ref a1), ("high", .ref a2), ("step", .ref a3)])) := (k7.trans (ekx e8)).set
  have bt : Bd MB (4 * BI) (((2 : Int) : Rat) * (hi - lo)) := ((b2.sub b1).int_mul (C := 2) (by decide) (by decide)).mono (Int.dvd_refl _) (by decide)
  refine q_fld (ew_2 (ew_int (i := 2) ev_c ev_c) (ew_2 (ew_var rfl (k8.wat hI w2)) (ew_var rfl (k8.wat hI w1)) s2 s1 trivial) (sm_int (by decide +kernel)) s21 trivial) isw_mon (ev_var rfl)
    (show (upd H8 p (.ins CL dx [("low", .ref a1), ("high", .ref a2), ("step", .ref a3)])) p = _ from upd_same) T.c_Line T.l_turn (by show 3 < 1000; decide) fun v4 H9 e9 r4 => ?_
  obtain ⟨t, rfl, wt⟩ := r4
  have k9 : Ek p H (upd H9 p (.ins CL dx [("low", .ref a1), ("high", .ref a2), ("step", .ref a3), ("turn", .ref t)])) := (k8.trans (ekx e9)).set
  have i9 : Ins H9 p CL [("low", .ref a1), ("high", .ref a2), ("step", .ref a3)] := ⟨dx, e9 _ _ upd_same⟩
  have wt9 : WAt K (upd H9 p (.ins CL dx [("low", .ref a1), ("high", .ref a2), ("step", .ref a3), ("turn", .ref t)])) t (((2 : Int) : Rat) * (hi - lo)) := Ek.wat Ek.upd i9 wt
  have j9 : Ins (upd H9 p (.ins CL dx [("low", .ref a1), ("high", .ref a2), ("step", .ref a3), ("turn", .ref t)])) p CL [("low", .ref a1), ("high", .ref a2), ("step", .ref a3), ("turn", .ref t)] := ⟨dx, upd_same⟩
  refine s_fld (er_meth2 (A := APo K CL) ⟨lo, ((2 : Int) : Rat) * (hi - lo), at_, b⟩ (ev_var rfl) j9 rfl (ew_var rfl (k9.wat hI w4)) (R3 := fun v _ => v = .bl b) (er_of (ev_var rfl) fun _ _ => rfl) isw_mon fun y z G e ⟨c, h1, h2⟩ h3 => ?_) rpo_mon (ev_var rfl) (show (upd H9 p (.ins CL dx [("low", .ref a1), ("high", .ref a2), ("step", .ref a3), ("turn", .ref t)])) p = _ from upd_same)
    T.c_Line T.l_begin (by show 4 < 1000; decide) fun v5 G1 g1 r5 => ?_
  · subst h1 h3
    exact ⟨p, c, a1, t, _, rfl, j9.mono e, rfl, rfl, (k9.wat hI w1).mono e, wt9.mono e, h2, b1, bt, b4⟩
  · obtain ⟨r, ⟨ab, rfl, wb⟩, bb⟩ := r5
    have kl : Ek p H (upd G1 p (.ins CL dx (lfs a1 a2 a3 t ab))) := (k9.trans (ekx g1)).set
    have jG : Ins G1 p CL [("low", .ref a1), ("high", .ref a2), ("step", .ref a3), ("turn", .ref t)] := j9.mono g1
    refine k ⟨lo, hi, st, ((2 : Int) : Rat) * (hi - lo), r⟩ _ ⟨a1, a2, a3, t, ab, ⟨dx, upd_same⟩, kl.wat hI w1, kl.wat hI w2, kl.wat hI w3, Ek.wat Ek.upd jG (wt9.mono g1), Ek.wat Ek.upd jG wb⟩ ⟨?_, b1.mono (Int.dvd_refl _) (by decide), b2.mono (Int.dvd_refl _) (by decide), b3.mono (Int.dvd_refl _) (by decide), bt.mono (Int.dvd_refl _) (by decide), bb⟩ kl
    show 0 < ((2 : Int) : Rat) * (hi - lo)
    have e2 : ((2 : Int) : Rat) = 2 := rfl
    rw [e2]
    grind
end
end Tb

/-! ## TbEv3 -/
set_option Elab.async false
set_option linter.all false
set_option maxRecDepth 100000
set_option maxHeartbeats 4000000
namespace Tb
open PySem PySem.Spec PyProof.Rows L2 Evl
/-! ### comprehensions and loops over anything of n turns -/
theorem lc_any {J : It} {n : Nat} {g : TG} {tt : TT} {te : TE} {vs : List Nat} {σ : L2.St} {H1 : Hp} {D : Addr} {Qd : Hp → Prop} (Pv : Nat → Hp → Prop) (h0 : Pv 0 (upd H1 D (.lst []))) (hgo : ∀ i H, i < n → Pv i H → J.go i H) (hst : ∀ H, Pv n H → J.stop n H)
    (hs : ∀ i x H H', i < n → Pv i H → J.yld i H x H' → g x (wipe σ vs) H' fun σ2 H2 => wipe σ2 vs = wipe σ vs ∧ tt σ2 H2 fun b H3 =>
      if b = true then te σ2 H3 fun y H4 => ∃ acc, H4 D = some (.lst acc) ∧ acc.length < sizeLine ∧ Pv (i + 1) (upd H4 D (.lst (acc ++ [y]))) else Pv (i + 1) H3) (hd : ∀ H, Pv n H → Qd H) :
    ∃ W : Nat → Nat → Hp → Prop, (∃ m, W 0 m (upd H1 D (.lst []))) ∧ ∀ i m H, W i m H →
      (J.stop i H ∧ Qd H) ∨ (J.go i H ∧ ∃ Nx : Hp → Prop, (∀ H', Nx H' → ∃ m', m' < m ∧ W (i + 1) m' H') ∧ ∀ x H', J.yld i H x H' → g x (wipe σ vs) H' fun σ2 H2 => wipe σ2 vs = wipe σ vs ∧ tt σ2 H2 fun b H3 =>
        if b = true then te σ2 H3 fun y H4 => ∃ acc, H4 D = some (.lst acc) ∧ acc.length < sizeLine ∧ Nx (upd H4 D (.lst (acc ++ [y]))) else Nx H3) := by
  refine ⟨fun i m H => m = n - i ∧ i ≤ n ∧ Pv i H, ⟨n, by simp, Nat.zero_le _, h0⟩, ?_⟩
  rintro i m H ⟨rfl, hi, p⟩
  by_cases hlt : i < n
  · exact .inr ⟨hgo i H hlt p, Pv (i + 1), fun H' p' => ⟨n - (i + 1), by omega, rfl, hlt, p'⟩, fun x H' y => hs i x H H' hlt p y⟩
  · have e : i = n := by omega
    subst e
    exact .inl ⟨hst H p, hd H p⟩
theorem for_any {J : It} {n : Nat} {g : TG} {tb : TS} {D : Ends} {σ : L2.St} {H : Hp} (Pv : Nat → L2.St → Hp → Prop) (h0 : Pv 0 σ H) (hgo : ∀ i σ H, i < n → Pv i σ H → J.go i H) (hst : ∀ σ H, Pv n σ H → J.stop n H)
    (hs : ∀ i x σ H H', i < n → Pv i σ H → J.yld i H x H' → g x σ H' fun σ2 H2 => tb { D with nx := Pv (i + 1), ct := Pv (i + 1), bk := D.nx } σ2 H2) (hd : ∀ σ H, Pv n σ H → D.nx σ H) :
    ∃ W : Nat → Nat → L2.St → Hp → Prop, (∃ m, W 0 m σ H) ∧ ∀ i m σ H, W i m σ H →
      (J.stop i H ∧ D.nx σ H) ∨ (J.go i H ∧ ∃ N : L2.St → Hp → Prop, (∀ σ' H', N σ' H' → ∃ m', m' < m ∧ W (i + 1) m' σ' H') ∧ ∀ x H', J.yld i H x H' → g x σ H' fun σ2 H2 => tb { D with nx := N, ct := N, bk := D.nx } σ2 H2) := by
  refine ⟨fun i m σ H => m = n - i ∧ i ≤ n ∧ Pv i σ H, ⟨n, by simp, Nat.zero_le _, h0⟩, ?_⟩
  rintro i m σ H ⟨rfl, hi, p⟩
  by_cases hlt : i < n
  · exact .inr ⟨hgo i σ H hlt p, Pv (i + 1), fun σ' H' p' => ⟨n - (i + 1), by omega, rfl, hlt, p'⟩, fun x H' y => hs i x σ H H' hlt p y⟩
  · have e : i = n := by omega
    subst e
    exact .inl ⟨hst σ H p, hd σ H p⟩
/-- a new list whose items satisfy R -/
def EvN (te : TE) (σ : L2.St) (H : Hp) (R : List V → Hp → Prop) : Prop := ∀ H1, Ex H H1 → ∀ Q : VK, (∀ p xs H2, H1 p = none → Ex H1 H2 → H2 p = some (.lst xs) → R xs H2 → Q (.ref p) H2) → te σ H1 Q
/-- of what holds of a value, when a list changes -/
def MonL (R : V → Hp → Prop) : Prop := ∀ v H H' p ys, H p = some (.lst ys) → Ek p H H' → R v H → R v H'
theorem isw_monL {K : PySem.W.Frag} {q : Rat} : MonL (IsW K q) := fun _ _ _ _ _ hp e ⟨a, h, w⟩ => ⟨a, h, e.watL hp w⟩
theorem eq_monL {u : V} : MonL (fun v _ => v = u) := fun _ _ _ _ _ _ _ h => h
/-- the items, one by one -/
def Each (n : Nat) (R : Nat → V → Hp → Prop) : List V → Hp → Prop := fun xs H => xs.length = n ∧ ∀ (i : Nat) x, xs[i]? = some x → R i x H
section
variable {K : PySem.W.Frag} {σ : L2.St} {H H' : Hp} {ta tb te tl : TE} {v x y : V} {R : V → Hp → Prop} {a b : Addr} {D : Ends} {tz : TS} {tt : TT}
theorem EvN.mono {R : List V → Hp → Prop} (h : EvN te σ H R) (e : Ex H H') : EvN te σ H' R := fun H1 e1 Q q => h H1 (e.trans e1) Q q
theorem EvN.imp {R S : List V → Hp → Prop} (h : EvN te σ H R) (k : ∀ xs H1, Ex H H1 → R xs H1 → S xs H1) : EvN te σ H S := fun H1 e1 Q q => h H1 e1 Q fun p xs H2 n e2 h2 r => q p xs H2 n e2 h2 (k xs H2 (e1.trans e2) r)
theorem en_of {xs : List V} (h : EvL te σ H xs) : EvN te σ H fun ys _ => ys = xs := fun H1 e1 Q q => h H1 e1 Q fun p H2 n e2 h2 => q p xs H2 n e2 h2 rfl
theorem Each.app {n : Nat} {R : Nat → V → Hp → Prop} {xs : List V} {p : Addr} {ys : List V} (h : Each n R xs H) (hp : H p = some (.lst ys)) (e : Ek p H H') (m : ∀ i, MonL (R i)) (hr : R n x H) : Each (n + 1) R (xs ++ [x]) H' := by
  refine ⟨by rw [List.length_append, h.1] <;> rfl, fun i z hz => ?_⟩
  by_cases hi : i < xs.length
  · rw [List.getElem?_append_left hi] at hz
    exact m i z H H' p ys hp e (h.2 i z hz)
  · rw [List.getElem?_append_right (by omega)] at hz
    obtain ⟨h1, h2⟩ := List.getElem?_eq_some_iff.mp hz
    have h1 : i - xs.length < 1 := h1
    have ei : i = n := by
      have := h.1
      omega
    subst ei
    have : z = x := by
      rw [← h2]
      simp [h.1]
    rw [this]
    exact m _ x H H' p ys hp e hr
theorem Each.ex {n : Nat} {R : Nat → V → Hp → Prop} {xs : List V} (h : Each n R xs H) (e : Ex H H') (m : ∀ i, Mon (R i)) : Each n R xs H' := ⟨h.1, fun i z hz => m i z H H' e (h.2 i z hz)⟩
theorem Each.ekl {n : Nat} {R : Nat → V → Hp → Prop} {xs ys : List V} {p : Addr} (h : Each n R xs H) (hp : H p = some (.lst ys)) (e : Ek p H H') (m : ∀ i, MonL (R i)) : Each n R xs H' := ⟨h.1, fun i z hz => m i z H H' p ys hp e (h.2 i z hz)⟩
/-- the word of a comprehension that keeps all -/
def Lw (H : Hp) (R : Nat → V → Hp → Prop) (Dl : Addr) (i : Nat) (H' : Hp) : Prop := H Dl = none ∧ Ex H H' ∧ ∃ acc, H' Dl = some (.lst acc) ∧ Each i R acc H'
theorem lw_start {R : Nat → V → Hp → Prop} {Dl : Addr} (hD : H Dl = none) : Lw H R Dl 0 (upd H Dl (.lst [])) := ⟨hD, Ex.new hD, [], upd_same, rfl, fun i z hz => by simp at hz⟩
theorem lw_turn {R : Nat → V → Hp → Prop} {Dl : Addr} {i n : Nat} {σ2 : L2.St} {H2 : Hp} (m : ∀ i, Mon (R i)) (ml : ∀ i, MonL (R i)) (p : Lw H R Dl i H') (e : Ex H' H2) (hi : i < n) (hn : n ≤ 50000) (he : EvR te σ2 H (R i)) :
    tYes σ2 H2 fun b H3 => if b = true then te σ2 H3 fun y H4 => ∃ acc, H4 Dl = some (.lst acc) ∧ acc.length < sizeLine ∧ Lw H R Dl (i + 1) (upd H4 Dl (.lst (acc ++ [y]))) else Lw H R Dl (i + 1) H3 := by
  obtain ⟨p1, p2, acc, p3, p4⟩ := p
  show te σ2 H2 fun y H4 => ∃ acc, H4 Dl = some (.lst acc) ∧ acc.length < sizeLine ∧ Lw H R Dl (i + 1) (upd H4 Dl (.lst (acc ++ [y])))
  refine he H2 (p2.trans e) _ fun y H4 e4 r => ⟨acc, e4 _ _ (e _ _ p3), sz_lt (by rw [p4.1]; omega), p1, Ex.mut ((p2.trans e).trans e4) p1, acc ++ [y], upd_same, ?_⟩
  exact (p4.ex (e.trans e4) m).app (e4 _ _ (e _ _ p3)) Ek.upd ml r
variable {R : Nat → V → Hp → Prop} {vs : List Nat} {j j2 : Nat}
/-- [e for x in list] -/
theorem en_lcL {xs : List V} (m : ∀ i, Mon (R i)) (ml : ∀ i, MonL (R i)) (h : Ev tl σ H (.ref a)) (hx : SqL K H a xs) (hz : xs.length ≤ 50000) (hw : ∀ x, wipe ((wipe σ vs).set j (some x)) vs = wipe σ vs)
    (he : ∀ (i : Nat) (x : V) H1, Ex H H1 → xs[i]? = some x → EvR te ((wipe σ vs).set j (some x)) H1 (R i)) : EvN (tLc (iList K tl) (gName j) tYes te vs) σ H (Each xs.length R) := fun H0 e Q q => h H0 e _ fun H1 e1 => ⟨a, rfl, ⟨xs, ex_l (e.trans e1) hx⟩, fun Dl hD =>
  lc_list (xs := xs) (Lw H1 R Dl) (lw_start hD) (fun i H' _ p => ex_l ((e.trans e1).trans p.2.1) hx) (fun i x H' hi p => ⟨hw x, lw_turn m ml p (Ex.refl H') (List.getElem?_eq_some_iff.mp hi).1 hz (he i x H1 (e.trans e1) hi)⟩)
    (fun H' ⟨p1, p2, acc, p3, p4⟩ => q Dl acc H' (fresh_back e1 p1) (e1.trans p2) p3 p4)⟩
/-- [e for x in a new list] -/
theorem en_lcN {n : Nat} {S : List V → Hp → Prop} (m : ∀ i, Mon (R i)) (ml : ∀ i, MonL (R i)) (h : EvN tl σ H S) (hz : ∀ xs H1, S xs H1 → xs.length = n) (hn : n ≤ 50000) (hw : ∀ x, wipe ((wipe σ vs).set j (some x)) vs = wipe σ vs)
    (he : ∀ (xs : List V) (i : Nat) (x : V) H1, Ex H H1 → S xs H1 → xs[i]? = some x → EvR te ((wipe σ vs).set j (some x)) H1 (R i)) : EvN (tLc (iList K tl) (gName j) tYes te vs) σ H (Each n R) := fun H0 e Q q => h H0 e _ fun a xs H1 ha e1 h1 hS => ⟨a, rfl, ⟨xs, sq_of h1⟩, fun Dl hD => by
  have hl := hz xs H1 hS
  subst hl
  exact lc_list (xs := xs) (Lw H1 R Dl) (lw_start hD) (fun i H' _ p => sq_of (p.2.1 _ _ h1)) (fun i x H' hi p => ⟨hw x, lw_turn m ml p (Ex.refl H') (List.getElem?_eq_some_iff.mp hi).1 hn (he xs i x H1 (e.trans e1) hS hi)⟩)
    (fun H' ⟨p1, p2, acc, p3, p4⟩ => q Dl acc H' (fresh_back e1 p1) (e1.trans p2) p3 p4)⟩
/-- [e for x in range(lo, hi)] -/
theorem en_lcR2 {ta : TA} {lo hi : Int} (m : ∀ i, Mon (R i)) (ml : ∀ i, MonL (R i)) (h : EvA ta σ H [.int lo, .int hi]) (hb : -100000 ≤ lo ∧ lo ≤ hi ∧ hi ≤ lo + 50000 ∧ hi ≤ 100000) (hw : ∀ x, wipe ((wipe σ vs).set j (some x)) vs = wipe σ vs)
    (he : ∀ (i : Nat), lo + (i : Int) < hi → EvR te ((wipe σ vs).set j (some (.int (lo + (i : Int))))) H (R i)) : EvN (tLc (iRng2 ta) (gName j) tYes te vs) σ H (Each (hi - lo).toNat R) := fun H0 e Q q => h H0 e _ fun H1 e1 => ⟨lo, hi, rfl, ⟨by omega, by omega, by omega, by omega⟩, fun Dl hD =>
  lc_range (lo := lo) (n := (hi - lo).toNat) (Lw H1 R Dl) (lw_start hD) (fun i H' hi' p => ⟨hw _, lw_turn m ml p (Ex.refl H') hi' (by omega) ((he i (by omega)).mono (e.trans e1))⟩)
    (fun H' ⟨p1, p2, acc, p3, p4⟩ => q Dl acc H' (fresh_back e1 p1) (e1.trans p2) p3 p4)⟩
theorem en_lcR1 {ta : TA} {hi : Int} (m : ∀ i, Mon (R i)) (ml : ∀ i, MonL (R i)) (h : EvA ta σ H [.int hi]) (hb : 0 ≤ hi ∧ hi ≤ 50000) (hw : ∀ x, wipe ((wipe σ vs).set j (some x)) vs = wipe σ vs)
    (he : ∀ (i : Nat), (i : Int) < hi → EvR te ((wipe σ vs).set j (some (.int (i : Int)))) H (R i)) : EvN (tLc (iRng1 ta) (gName j) tYes te vs) σ H (Each hi.toNat R) := fun H0 e Q q => h H0 e _ fun H1 e1 => ⟨hi, rfl, by omega, by omega, fun Dl hD =>
  lc_range (lo := 0) (n := hi.toNat) (Lw H1 R Dl) (lw_start hD) (fun i H' hi' p => by
    have e0 : (0 : Int) + (i : Int) = (i : Int) := Int.zero_add _
    show wipe ((wipe σ vs).set j (some (.int ((0 : Int) + (i : Int))))) vs = wipe σ vs ∧ tYes ((wipe σ vs).set j (some (.int ((0 : Int) + (i : Int))))) H' _
    rw [e0]
    exact ⟨hw _, lw_turn m ml p (Ex.refl H') hi' (by omega) ((he i (by omega)).mono (e.trans e1))⟩)
    (fun H' ⟨p1, p2, acc, p3, p4⟩ => q Dl acc H' (fresh_back e1 p1) (e1.trans p2) p3 p4)⟩
abbrev g2 (K : PySem.W.Frag) (j j2 : Nat) : TG := gTup K 2 (gCons (gName j) (gCons (gName j2) gNil))
/-- [e for x, y in zip(one, other)] -/
theorem en_lcZ {ta : TA} {xs ys : List V} (m : ∀ i, Mon (R i)) (ml : ∀ i, MonL (R i)) (h : EvA ta σ H [.ref a, .ref b]) (hx : SqL K H a xs) (hy : SqL K H b ys) (hl : xs.length = ys.length) (hz : xs.length ≤ 50000) (hw : ∀ x y, wipe (((wipe σ vs).set j (some x)).set j2 (some y)) vs = wipe σ vs)
    (he : ∀ (i : Nat) (x y : V) H1, Ex H H1 → xs[i]? = some x → ys[i]? = some y → EvR te (((wipe σ vs).set j (some x)).set j2 (some y)) H1 (R i)) : EvN (tLc (iZip K ta) (g2 K j j2) tYes te vs) σ H (Each xs.length R) := fun H0 e Q q => h H0 e _ fun H1 e1 =>
  ⟨a, b, xs, ys, rfl, ex_l (e.trans e1) hx, ex_l (e.trans e1) hy, fun Dl hD =>
  lc_any (n := xs.length) (Lw H1 R Dl) (lw_start hD) (fun i H' hi p => ⟨xs, ys, xs[i], ys[i], ex_l ((e.trans e1).trans p.2.1) hx, ex_l ((e.trans e1).trans p.2.1) hy, by simp [hi], by simp⟩)
    (fun H' p => ⟨xs, ys, ex_l ((e.trans e1).trans p.2.1) hx, ex_l ((e.trans e1).trans p.2.1) hy, .inl (Nat.le_refl _)⟩)
    (fun i p H' H2 hi P ⟨T, x, y, ep, hT, eH, f1, f2⟩ => by
      subst ep eH
      have gx := f1 xs (ex_l ((e.trans e1).trans P.2.1) hx)
      have gy := f2 ys (ex_l ((e.trans e1).trans P.2.1) hy)
      exact ⟨T, [x, y], rfl, SqT.of upd_same, rfl, x, [y], rfl, y, [], rfl, rfl, hw x y, lw_turn m ml P (Ex.new hT) hi hz (he i x y H1 (e.trans e1) gx gy)⟩)
    (fun H' ⟨p1, p2, acc, p3, p4⟩ => q Dl acc H' (fresh_back e1 p1) (e1.trans p2) p3 p4)⟩
/-- the same, the second a new list -/
theorem en_lcZN {xs ys : List V} (m : ∀ i, Mon (R i)) (ml : ∀ i, MonL (R i)) (h : Ev ta σ H (.ref a)) (hx : SqL K H a xs) (hb : EvL tb σ H ys) (hl : xs.length = ys.length ∨ xs.length = ys.length + 1) (hz : xs.length ≤ 50000) (hw : ∀ x y, wipe (((wipe σ vs).set j (some x)).set j2 (some y)) vs = wipe σ vs)
    (he : ∀ (i : Nat) (x y : V) H1, Ex H H1 → xs[i]? = some x → ys[i]? = some y → EvR te (((wipe σ vs).set j (some x)).set j2 (some y)) H1 (R i)) : EvN (tLc (iZip K (tCons ta (tCons tb tNil))) (g2 K j j2) tYes te vs) σ H (Each ys.length R) := fun H0 e Q q => h H0 e _ fun Ha ea => hb Ha (e.trans ea) _ fun b H1 nb eb hp =>
  have e1 := ea.trans eb
  ⟨a, b, xs, ys, rfl, ex_l (e.trans e1) hx, sq_of hp, fun Dl hD =>
  lc_any (n := ys.length) (Lw H1 R Dl) (lw_start hD) (fun i H' hi p => ⟨xs, ys, xs[i], ys[i], ex_l ((e.trans e1).trans p.2.1) hx, sq_of (p.2.1 _ _ hp), by simp, by simp [hi]⟩)
    (fun H' p => ⟨xs, ys, ex_l ((e.trans e1).trans p.2.1) hx, sq_of (p.2.1 _ _ hp), .inr (Nat.le_refl _)⟩)
    (fun i p H' H2 hi P ⟨T, x, y, ep, hT, eH, f1, f2⟩ => by
      subst ep eH
      have gx := f1 xs (ex_l ((e.trans e1).trans P.2.1) hx)
      have gy := f2 ys (sq_of (P.2.1 _ _ hp))
      exact ⟨T, [x, y], rfl, SqT.of upd_same, rfl, x, [y], rfl, y, [], rfl, rfl, hw x y, lw_turn m ml P (Ex.new hT) hi (by omega) (he i x y H1 (e.trans e1) gx gy)⟩)
    (fun H' ⟨p1, p2, acc, p3, p4⟩ => q Dl acc H' (fresh_back e1 p1) (e1.trans p2) p3 p4)⟩
/-- [k for k, x in enumerate(list) if t] -/
theorem el_lcE {ta : TA} {xs : List V} (f : Nat → Bool) (h : EvA ta σ H [.ref a]) (hx : SqL K H a xs) (hz : xs.length < 50000) (hw : ∀ x y, wipe (((wipe σ vs).set j (some x)).set j2 (some y)) vs = wipe σ vs)
    (ht : ∀ (i : Nat) (x : V) H1, Ex H H1 → xs[i]? = some x → EvT tt (((wipe σ vs).set j (some (.int (i : Nat)))).set j2 (some x)) H1 (f i))
    (he : ∀ (i : Nat) (x : V) H1, Ex H H1 → xs[i]? = some x → f i = true → Ev te (((wipe σ vs).set j (some (.int (i : Nat)))).set j2 (some x)) H1 (.int (i : Nat))) :
    EvL (tLc (iEnum K ta) (g2 K j j2) tt te vs) σ H (given xs.length f fun i => .int (i : Nat)) := fun H0 e Q q => h H0 e _ fun H1 e1 => ⟨a, xs, rfl, ex_l (e.trans e1) hx, fun Dl hD =>
  lc_any (n := xs.length) (Cw H1 f (fun i => .int (i : Nat)) Dl) ⟨hD, Ex.new hD, upd_same⟩ (fun i H' hi p => ⟨xs, xs[i], ex_l ((e.trans e1).trans p.2.1) hx, by simp [hi]⟩) (fun H' p => ⟨xs, ex_l ((e.trans e1).trans p.2.1) hx, Nat.le_refl _⟩)
    (fun i p H' H2 hi P ⟨T, x, ep, hT, eH, f1⟩ => by
      subst ep eH
      have gx := f1 xs (ex_l ((e.trans e1).trans P.2.1) hx)
      have P2 : Cw H1 f (fun i => .int (i : Nat)) Dl i (upd H' T (.tup [.int (i : Nat), x])) := ⟨P.1, P.2.1.trans (Ex.new hT), (Ex.new hT) _ _ P.2.2⟩
      exact ⟨T, [.int (i : Nat), x], rfl, SqT.of upd_same, rfl, .int (i : Nat), [x], rfl, x, [], rfl, rfl, hw _ x, cw_turn P2 (by omega) (ht i x H1 (e.trans e1) gx) (fun hf => he i x H1 (e.trans e1) gx hf)⟩)
    (fun H' p => q Dl H' (fresh_back e1 p.1) (e1.trans p.2.1) p.2.2)⟩
/-- [e for c in text] -/
theorem en_lcS {s : Str} (m : ∀ i, Mon (R i)) (ml : ∀ i, MonL (R i)) (h : Ev tl σ H (.str s)) (hz : s.cps.size ≤ 50000) (hw : ∀ x, wipe ((wipe σ vs).set j (some x)) vs = wipe σ vs)
    (he : ∀ (i c : Nat) H1, Ex H H1 → s.cps[i]? = some c → EvR te ((wipe σ vs).set j (some (.str ⟨#[c]⟩))) H1 (R i)) : EvN (tLc (iStr tl) (gName j) tYes te vs) σ H (Each s.cps.size R) := fun H0 e Q q => h H0 e _ fun H1 e1 => ⟨s, rfl, fun Dl hD =>
  lc_any (n := s.cps.size) (Lw H1 R Dl) (lw_start hD) (fun i H' hi p => hi) (fun H' p => Nat.le_refl _)
    (fun i p H' H2 hi P ⟨eH, c, hc, ep⟩ => by
      subst ep eH
      exact ⟨hw _, lw_turn m ml P (Ex.refl _) hi hz (he i c H1 (e.trans e1) hc)⟩)
    (fun H' ⟨p1, p2, acc, p3, p4⟩ => q Dl acc H' (fresh_back e1 p1) (e1.trans p2) p3 p4)⟩
/-! ### a new list handed to a built-in -/
theorem ev_allN {n : Nat} {ta : TE} (h : EvN ta σ H (Each n fun _ v _ => v = .bl true)) : Ev (tCB (rAll K) (tCons ta tNil)) σ H (.bl true) := fun H1 e1 Q k =>
  h H1 e1 _ fun p xs H2 _ e2 hp hr => by
    have ex : xs = (List.replicate n true).map V.bl := by
      apply List.ext_getElem?
      intro i
      by_cases hi : i < n
      · have hi' : i < xs.length := by rw [hr.1]; exact hi
        have := hr.2 i xs[i] (by simp)
        rw [List.getElem?_eq_getElem hi', this]
        simp [hi]
      · rw [List.getElem?_eq_none (by rw [hr.1]; omega), List.getElem?_eq_none (by simp; omega)]
    refine ⟨p, List.replicate n true, rfl, SqL.of (by rw [hp, ex]), ?_⟩
    have : (List.replicate n true).all id = true := by simp
    rw [this]
    exact k H2 e2
theorem ev_maxL {ns : List Int} {z : Int} {ta : TE} (h : EvL ta σ H (ns.map V.int)) (h0 : 0 < ns.length) (hz : ∀ m, m ∈ ns → (∀ y, y ∈ ns → y ≤ m) → m = z) : Ev (tCB (rMax K) (tCons ta tNil)) σ H (.int z) := fun H1 e1 Q k =>
  h H1 e1 _ fun p H2 _ e2 hp => ⟨p, ns, rfl, SqL.of hp, h0, fun m hm hy => by
    rw [hz m hm hy]
    exact k H2 e2⟩
/-- xs.append(e) -/
theorem s_appR {l : Addr} {xs : List V} {R : V → Hp → Prop} (hl : H l = some (.lst xs)) (ha : Ev ta σ H (.ref l)) (h : EvR te σ H R) (hz : xs.length < 100000) (k : ∀ v H1, Ex H H1 → R v H1 → D.nx σ (upd H1 l (.lst (xs ++ [v])))) :
    tDrop (tBM K "list" rAppend ta (tCons te tNil)) D σ H := ha H (Ex.refl H) _ fun H1 e1 =>
  ⟨Or.inl ⟨rfl, xs, sq_of (e1 l _ hl)⟩, h H1 e1 _ fun v H2 e2 r => ⟨l, xs, v, rfl, rfl, e2 l _ (e1 l _ hl), sz_lt hz, k v H2 (e1.trans e2) r⟩⟩
theorem q_appR {l : Addr} {xs : List V} {R : V → Hp → Prop} (hl : H l = some (.lst xs)) (ha : Ev ta σ H (.ref l)) (h : EvR te σ H R) (hz : xs.length < 100000) (k : ∀ v H1, Ex H H1 → R v H1 → tz D σ (upd H1 l (.lst (xs ++ [v])))) :
    tSeq (tDrop (tBM K "list" rAppend ta (tCons te tNil))) tz D σ H := s_appR (D := { D with nx := tz D }) hl ha h hz k
theorem q_asgN {i : Nat} {R : List V → Hp → Prop} (h : EvN te σ H R) (k : ∀ p xs H1, H p = none → Ex H H1 → H1 p = some (.lst xs) → R xs H1 → tz D (σ.set i (some (.ref p))) H1) : tSeq (tAsg te (gName i)) tz D σ H := h H (Ex.refl H) _ k
theorem s_asgN {i : Nat} {R : List V → Hp → Prop} (h : EvN te σ H R) (k : ∀ p xs H1, H p = none → Ex H H1 → H1 p = some (.lst xs) → R xs H1 → D.nx (σ.set i (some (.ref p))) H1) : tAsg te (gName i) D σ H := h H (Ex.refl H) _ k
theorem s_retN {R : List V → Hp → Prop} (h : EvN te σ H R) (k : ∀ p xs H1, H p = none → Ex H H1 → H1 p = some (.lst xs) → R xs H1 → D.rt (.ref p) H1) : tRet te D σ H := h H (Ex.refl H) _ k
end
end Tb

/-! ## TbZone -/
set_option Elab.async false
set_option linter.all false
set_option maxRecDepth 100000
set_option maxHeartbeats 4000000
namespace Tb
open PySem PySem.Spec PyProof.Rows L2 Evl
/-! ### a list of worths -/
def LW (K : PySem.W.Frag) (H : Hp) (l : Addr) (qs : List Rat) : Prop := ∃ vs, H l = some (.lst vs) ∧ Each qs.length (fun i => IsW K (qs.getD i 0)) vs H
theorem isw_mons {K : PySem.W.Frag} {f : Nat → Rat} : ∀ i, Mon (IsW K (f i)) := fun _ => isw_mon
theorem isw_monLs {K : PySem.W.Frag} {f : Nat → Rat} : ∀ i, MonL (IsW K (f i)) := fun _ => isw_monL
section
variable {K : PySem.W.Frag} {σ : L2.St} {H H' : Hp} {ta tb te tl ti : TE} {v x y : V} {l m : Addr} {qs rs : List Rat} {z : Nat} {tt : TT} {vs : List Nat} {j j2 : Nat}
theorem LW.mono (h : LW K H l qs) (e : Ex H H') : LW K H' l qs := by
  obtain ⟨vs, h1, h2⟩ := h
  exact ⟨vs, e _ _ h1, h2.ex e isw_mons⟩
theorem LW.ekl {ys : List V} (h : LW K H l qs) (hm : H m = some (.lst ys)) (n : l ≠ m) (e : Ek m H H') : LW K H' l qs := by
  obtain ⟨vs, h1, h2⟩ := h
  exact ⟨vs, e _ _ h1 n, h2.ekl hm e isw_monLs⟩
theorem Each.ek {n : Nat} {xs : List V} {p C : Addr} {fs : List (Str × V)} {f : Nat → Rat} (h : Each n (fun i => IsW K (f i)) xs H) (hp : Ins H p C fs) (e : Ek p H H') : Each n (fun i => IsW K (f i)) xs H' :=
  ⟨h.1, fun i x hx => by
    obtain ⟨a, h1, h2⟩ := h.2 i x hx
    exact ⟨a, h1, e.wat hp h2⟩⟩
theorem LW.ek {p C : Addr} {fs : List (Str × V)} (h : LW K H l qs) (hp : Ins H p C fs) (e : Ek p H H') : LW K H' l qs := by
  obtain ⟨vs, h1, h2⟩ := h
  obtain ⟨dx, hp'⟩ := id hp
  exact ⟨vs, e _ _ h1 (ne_of h1 hp' (by intro z; cases z)), h2.ek hp e⟩
theorem LW.seq (h : LW K H l qs) : ∃ vs, SqL K H l vs ∧ vs.length = qs.length ∧ ∀ (i : Nat) x, vs[i]? = some x → IsW K (qs.getD i 0) x H := by
  obtain ⟨vs, h1, h2, h3⟩ := h
  exact ⟨vs, sq_of h1, h2, h3⟩
theorem LW.of {n : Nat} {f : Nat → Rat} {vs : List V} (h1 : H l = some (.lst vs)) (h2 : Each n (fun i => IsW K (f i)) vs H) : LW K H l ((List.range n).map f) := by
  refine ⟨vs, h1, by rw [h2.1]; simp, fun i x hx => ?_⟩
  have hi : i < n := by
    have := (List.getElem?_eq_some_iff.mp hx).1
    rw [h2.1] at this
    exact this
  have : ((List.range n).map f).getD i 0 = f i := by simp [hi]
  show IsW K (((List.range n).map f).getD i 0) x H
  rw [this]
  exact h2.2 i x hx
/-- xs[i] of worths -/
theorem ew_ixL (hl : Ev tl σ H (.ref l)) (hw : LW K H l qs) (hi : Ev ti σ H (.int (z : Nat))) (hz : z < qs.length) : EW K (tOp (rIxL K) tl ti) σ H (qs.getD z 0) := by
  obtain ⟨vs, h1, h2, h3⟩ := hw
  have hz' : z < vs.length := by rw [h2]; exact hz
  have hv : vs[z]? = some vs[z] := by simp [hz']
  exact er_of (ev_op hl hi (rv_ixL (sq_of h1) (atI_nat hv))) fun H1 e1 => isw_mon _ _ _ e1 (h3 z _ hv)
theorem atI_end {α : Type} {xs : List α} {v : α} (h : xs[xs.length - 1]? = some v) : atI xs (-1) = some v := by
  obtain ⟨h1, h2⟩ := List.getElem?_eq_some_iff.mp h
  unfold atI ixN
  rw [if_neg (by decide), if_pos (by omega)]
  have e : ((-1 : Int) + (xs.length : Int)).toNat = xs.length - 1 := by omega
  simp only [Option.bind_some]
  first
    | exact h
    | (rw [e]; exact h)
theorem ew_last (hl : Ev tl σ H (.ref l)) (hw : LW K H l qs) (hi : Ev ti σ H (.int (-1))) (hz : qs.length = z + 1) : EW K (tOp (rIxL K) tl ti) σ H (qs.getD z 0) := by
  obtain ⟨vs, h1, h2, h3⟩ := hw
  have hz' : z < vs.length := by rw [h2]; omega
  have hv : vs[z]? = some vs[z] := by simp [hz']
  have hv2 : vs[vs.length - 1]? = some vs[z] := by rw [← hv]; congr 1; omega
  exact er_of (ev_op hl hi (rv_ixL (sq_of h1) (atI_end hv2))) fun H1 e1 => isw_mon _ _ _ e1 (h3 z _ hv)
/-- max([k for k, x in enumerate(list) if not is_less(thing, x)]) -/
theorem given_ixs (ms : List Rat) (t : Rat) : given ms.length (fun i => !decide (t < ms.getD i 0)) (fun i => V.int (i : Nat)) = ((ixs ms t).map fun i => ((i : Nat) : Int)).map V.int := by
  unfold given ixs
  rw [List.map_map] <;> rfl
theorem ixm_max {ms : List Rat} {t : Rat} {m : Int} (h : m ∈ (ixs ms t).map fun i => ((i : Nat) : Int)) (hy : ∀ y ∈ (ixs ms t).map (fun i => ((i : Nat) : Int)), y ≤ m) : m = ((ixm ms t : Nat) : Int) := by
  obtain ⟨k, hk, rfl⟩ := List.mem_map.mp h
  rw [ixm_of hk fun y hyy => by
    have := hy _ (List.mem_map.mpr ⟨y, hyy, rfl⟩)
    omega]
theorem ixs_pos {ms : List Rat} {t : Rat} (h0 : 0 < ms.length) (h : ¬ t < ms.getD 0 0) : 0 < ((ixs ms t).map fun i => ((i : Nat) : Int)).length := by
  rw [List.length_map]
  refine List.length_pos_of_mem (a := 0) (List.mem_filter.mpr ⟨List.mem_range.mpr h0, ?_⟩)
  rw [decide_eq_false h]
  rfl
theorem ev_ixm {tx : TA} {a : Addr} {ms : List Rat} {t : Rat} (h : EvA tx σ H [.ref a]) (hw : LW K H a ms) (hz : ms.length < 50000) (h0 : 0 < ms.length) (h1 : ¬ t < ms.getD 0 0) (hwp : ∀ x y, wipe (((wipe σ vs).set j (some x)).set j2 (some y)) vs = wipe σ vs)
    (ht : ∀ (i : Nat) (x : Addr) H1, Ex H H1 → i < ms.length → WAt K H1 x (ms.getD i 0) → EvT tt (((wipe σ vs).set j (some (.int (i : Nat)))).set j2 (some (.ref x))) H1 (!decide (t < ms.getD i 0)))
    (he : ∀ (i : Nat) (x : V) H1, Ev te (((wipe σ vs).set j (some (.int (i : Nat)))).set j2 (some x)) H1 (.int (i : Nat))) : Ev (tCB (rMax K) (tCons (tLc (iEnum K tx) (g2 K j j2) tt te vs) tNil)) σ H (.int (ixm ms t : Nat)) := by
  obtain ⟨us, h2, h3, h4⟩ := hw
  refine ev_maxL (ns := (ixs ms t).map fun i => ((i : Nat) : Int)) ?_ (ixs_pos h0 h1) fun m hm hy => ixm_max hm hy
  rw [← given_ixs, ← h3]
  refine el_lcE (K := K) (fun i => !decide (t < ms.getD i 0)) h (sq_of h2) (by omega) hwp (fun i x H1 e1 hx => ?_) (fun i x H1 e1 hx _ => he i x H1)
  have hi : i < ms.length := by
    have := (List.getElem?_eq_some_iff.mp hx).1
    omega
  obtain ⟨b, rfl, hb⟩ := h4 i x hx
  exact ht i b H1 e1 hi (hb.mono e1)
/-- the same over a new list -/
theorem ev_ixmN {tx : TE} {ms : List Rat} {t : Rat} {xs : List V} (h : EvL tx σ H xs) (hx : xs.length = ms.length) (hw : ∀ (i : Nat) x, xs[i]? = some x → IsW K (ms.getD i 0) x H) (hz : ms.length < 50000) (h0 : 0 < ms.length) (h1 : ¬ t < ms.getD 0 0) (hwp : ∀ x y, wipe (((wipe σ vs).set j (some x)).set j2 (some y)) vs = wipe σ vs)
    (ht : ∀ (i : Nat) (x : Addr) H1, Ex H H1 → i < ms.length → WAt K H1 x (ms.getD i 0) → EvT tt (((wipe σ vs).set j (some (.int (i : Nat)))).set j2 (some (.ref x))) H1 (!decide (t < ms.getD i 0)))
    (he : ∀ (i : Nat) (x : V) H1, Ev te (((wipe σ vs).set j (some (.int (i : Nat)))).set j2 (some x)) H1 (.int (i : Nat))) : Ev (tCB (rMax K) (tCons (tLc (iEnum K (tCons tx tNil)) (g2 K j j2) tt te vs) tNil)) σ H (.int (ixm ms t : Nat)) := by
  intro H1 e1 Q k
  have step : ∀ p H2, H1 p = none → Ex H1 H2 → H2 p = some (.lst xs) → (tCB (rMax K) (tCons (tLc (iEnum K (tCons (tC (.ref p)) tNil)) (g2 K j j2) tt te vs) tNil)) σ H2 Q := fun p H2 n e2 h2 =>
    ev_ixm (σ := σ) (H := H2) (K := K) (ea_cons ev_c ea_nil) ⟨xs, h2, hx, fun i x hi => isw_mon _ _ _ (e1.trans e2) (hw i x hi)⟩ hz h0 h1 hwp (fun i x H3 e3 hi hb => ht i x H3 ((e1.trans e2).trans e3) hi hb) he H2 (Ex.refl H2) Q fun H3 e3 => k H3 (e2.trans e3)
  exact h H1 e1 _ fun p H2 n e2 h2 => step p H2 n e2 h2
end

section
variable {P : Program} {w : World} {K : PySem.W.Frag} {mg : Str → Option Value} {base : Heap} {CL CZ CT NO MA : Addr} {f : Addr} {fd : FuncData}
def zfs (r b s m g : Addr) : List (Str × V) := [("ring", .ref r), ("borders", .ref b), ("steps", .ref s), ("marks", .ref m), ("begin", .ref g)]
/-- a ring of zones at p, its own lists at lb, ls, lm -/
structure ZoneAt (K : PySem.W.Frag) (CZ : Addr) (H : Hp) (p : Addr) (Z : ZoneD) (lb ls lm : Addr) : Prop where
  ex : ∃ r g, Ins H p CZ (zfs r lb ls lm g) ∧ WAt K H r Z.ring ∧ LW K H lb Z.borders ∧ LW K H ls Z.steps ∧ LW K H lm Z.marks ∧ WAt K H g Z.begin
theorem ZoneAt.mono {H H' : Hp} {p lb ls lm : Addr} {Z : ZoneD} (h : ZoneAt K CZ H p Z lb ls lm) (e : Ex H H') : ZoneAt K CZ H' p Z lb ls lm := by
  obtain ⟨r, g, h0, h1, h2, h3, h4, h5⟩ := h.ex
  exact ⟨r, g, h0.mono e, h1.mono e, h2.mono e, h3.mono e, h4.mono e, h5.mono e⟩
theorem ZoneAt.ekl {H H' : Hp} {p lb ls lm m : Addr} {Z : ZoneD} {ys : List V} (h : ZoneAt K CZ H p Z lb ls lm) (hm : H m = some (.lst ys)) (n1 : lb ≠ m) (n2 : ls ≠ m) (n3 : lm ≠ m) (e : Ek m H H') : ZoneAt K CZ H' p Z lb ls lm := by
  obtain ⟨r, g, h0, h1, h2, h3, h4, h5⟩ := h.ex
  exact ⟨r, g, e.insL hm h0, e.watL hm h1, h2.ekl hm n1 e, h3.ekl hm n2 e, h4.ekl hm n3 e, e.watL hm h5⟩
/-- what place_of, evened lean on: the lists and their fields -/
structure ZoneLs (K : PySem.W.Frag) (CZ : Addr) (H : Hp) (p : Addr) (bs ss ms : List Rat) : Prop where
  ex : ∃ lb ls lm fs, Ins H p CZ fs ∧ fs.lookup ("borders" : Str) = some (.ref lb) ∧ fs.lookup ("steps" : Str) = some (.ref ls) ∧ fs.lookup ("marks" : Str) = some (.ref lm) ∧ fs.lookup ("zone_of" : Str) = none ∧ LW K H lb bs ∧ LW K H ls ss ∧ LW K H lm ms
theorem ZoneLs.mono {H H' : Hp} {p : Addr} {bs ss ms : List Rat} (h : ZoneLs K CZ H p bs ss ms) (e : Ex H H') : ZoneLs K CZ H' p bs ss ms := by
  obtain ⟨lb, ls, lm, fs, h0, h1, h2, h3, h4, h5, h6, h7⟩ := h.ex
  exact ⟨lb, ls, lm, fs, h0.mono e, h1, h2, h3, h4, h5.mono e, h6.mono e, h7.mono e⟩
theorem ZoneAt.ls {H : Hp} {p lb ls lm : Addr} {Z : ZoneD} (h : ZoneAt K CZ H p Z lb ls lm) : ZoneLs K CZ H p Z.borders Z.steps Z.marks := by
  obtain ⟨r, g, h0, h1, h2, h3, h4, h5⟩ := h.ex
  exact ⟨lb, ls, lm, _, h0, rfl, rfl, rfl, rfl, h2, h3, h4⟩
theorem getD_dropLast {ms : List Rat} {i : Nat} (h : i < ms.dropLast.length) : ms.dropLast.getD i 0 = ms.getD i 0 := by
  rw [List.length_dropLast] at h
  simp only [List.getD_eq_getElem?_getD]
  rw [List.getElem?_dropLast, if_pos h]
theorem cut_drop {xs : List V} : cutV xs none (some (-1)) = xs.dropLast := by
  unfold cutV
  rw [HT.sIx_none]
  show List.take ((((-1 : Int) + (xs.length : Int)).toNat) - 0) (List.drop 0 xs) = xs.dropLast
  rw [List.drop_zero, List.dropLast_eq_take]
  congr 1
  omega
def APlace (K : PySem.W.Frag) (CZ : Addr) : ZoneD × Rat → List V → Hp → Prop := fun d vs H => ∃ p c, vs = [.ref p, .ref c] ∧ ZoneLs K CZ H p d.1.borders d.1.steps d.1.marks ∧ WAt K H c d.2 ∧ ZoneOk d.1 ∧ 0 ≤ d.2 ∧ Bd MM BM d.2
abbrev spPlace (K : PySem.W.Frag) (CZ : Addr) : Sp := spI (APlace K CZ) fun d => IsW K (d.1.place d.2)
theorem sm_at {M B : Int} {qs : List Rat} (h : ∀ i : Nat, i < qs.length → Bd M B (qs.getD i 0)) (k : smB M B = true) (i : Nat) (hi : i < qs.length) : Sm (qs.getD i 0) := (h i hi).sm1 k
theorem sc_Zones_place_of : FnScope ["self", "even", "zone", "at", "mark"] ["self", "even"] (defScope s_Zones_place_of) := ⟨rfl, rfl, rfl, by decide +kernel, rfl, by decide +kernel, by decide +kernel⟩
theorem ok_Zones_place_of (T : Txt K w mg CL CZ CT NO MA) (h_plus : Fn P w K mg base 3 "plus" ["one", "other"] (spW2 K Any2 (· + ·))) (h_minus : Fn P w K mg base 3 "minus" ["one", "other"] (spW2 K Any2 (· - ·)))
    (h_times : Fn P w K mg base 3 "times" ["one", "other"] (spW2 K Any2 (· * ·))) (h_is_less : Fn P w K mg base 1 "is_less" ["one", "other"] (spB2 K Any2 fun q r => decide (q < r)))
    (F : FunD K "place_of" "Zones.place_of" (defArgs s_Zones_place_of) (defBody s_Zones_place_of) (defScope s_Zones_place_of) [] [] f fd) : FnOk P w K mg base CX0 4 f fd ["self", "even"] (spPlace K CZ) := by
  refine F.ok sc_Zones_place_of (fun vs H Q E h => ?_) (fun cdv A outer s H vs Q E hr h => ?_)
  · obtain ⟨d, ⟨_, _, rfl, _⟩, _⟩ := h
    rfl
  obtain ⟨⟨Z, t⟩, ⟨p, c, rfl, hZ, hc, ok, t0, bt⟩, k⟩ := h
  refine ⟨_, PSs.nox (pss_cons (ps_set (i := 2) sc_Zones_place_of.nd rfl (Or.inl rfl) (pe_callB (cr_max rfl) (by rfl) T.f_max (by decide +kernel) (pa_cons (pe_lc (own := [("at", 3), ("mark", 4)]) (g := gTup _ 2 (gCons (gName 3) (gCons (gName 4) gNil))) rfl sc_Zones_place_of.nd (pi_enum rfl T.f_enumerate (pa_cons (pe_slice sl_list (pe_fld (pv 0) rfl) po_none (po_some (pe_un un_neg pe_int))) pa_nil)) (blkOk_by (own := [("at", 3), ("mark", 4)]) (N := ["self", "even", "zone", "at", "mark"]) (sc := defScope s_Zones_place_of) (by decide +kernel)) (fun _ _ _ _ _ => (pg_tup rfl (pgs_cons (pg_name (i := 3) sc_Zones_place_of.nd rfl (Or.inl rfl)) (pgs_cons (pg_name (i := 4) sc_Zones_place_of.nd rfl (Or.inl rfl)) pgs_nil)))) (fun _ _ _ _ _ => (pts_one (pt_not (pt_val (pe_fn h_is_less (hr.mono (by decide)) rfl (pa_cons (pv 1) (pa_cons (pv 4) pa_nil))))))) (fun _ _ _ _ _ => (pv 3))) pa_nil)))
    (pss_one (ps_ret (pe_fn h_plus (hr.mono (by decide)) rfl (pa_cons (pe_ix ix_list (pe_fld (pv 0) rfl) (pv 2) (fun _ _ => rfl)) (pa_cons (pe_fn h_times (hr.mono (by decide)) rfl (pa_cons (pe_fn h_minus (hr.mono (by decide)) rfl (pa_cons (pv 1) (pa_cons (pe_ix ix_list (pe_fld (pv 0) rfl) (pv 2) (fun _ _ => rfl)) pa_nil))) (pa_cons (pe_ix ix_list (pe_fld (pv 0) rfl) (pv 2) (fun _ _ => rfl)) pa_nil))) pa_nil)))))), ?_⟩
  obtain ⟨lb, ls, lm, fs, h0, f1, f2, f3, f4, w1, w2, w3⟩ := hZ.ex
  have bt : Bd MM BM t := bt
  have t0 : 0 ≤ t := t0
  have ok : ZoneOk Z := ok
  have st : Sm t := bt.sm1 (by decide +kernel)
  obtain ⟨us, u1, u2, u3⟩ := id w3
  have dl := ok.dl
  have hix := ok.ix t
  have sl : EvL (tSl (rSlL K) (tFld K (tVar 0) "marks") tNoPart (tPart (tUn (rU fun i => .int (-i)) (tC (.int 1))))) (start ["self", "even", "zone", "at", "mark"] [V.ref p, V.ref c]) H us.dropLast := by
    have := el_sl (K := K) (lo := none) (hi := some (-1)) (ev_fld (ev_var rfl) h0 T.c_Zones T.z_marks f3 : Ev (tFld K (tVar 0) "marks") (start ["self", "even", "zone", "at", "mark"] [V.ref p, V.ref c]) H (.ref lm)) eo_none (eo_some (ev_un ev_c ru_neg)) (sq_of u1)
    rw [cut_drop] at this
    exact this
  refine q_asg (v := .int (ixm Z.marks.dropLast t : Nat)) (ev_ixmN (K := K) (t := t) (ms := Z.marks.dropLast) sl (by rw [List.length_dropLast, List.length_dropLast, u2]) (fun i x hx => ?_) (by rw [dl]; have := ok.n2; omega) (by rw [dl]; exact ok.n1) ?_ (fun _ _ => rfl) (fun i x H1 e1 hi hw => ?_) (fun i x H1 => ev_var rfl)) fun H1 e1 => ?_
  · rw [List.getElem?_dropLast] at hx
    split at hx
    · rename_i hlt
      rw [getD_dropLast (by rw [List.length_dropLast]; rw [u2] at hlt; exact hlt)]
      exact u3 i x hx
    · cases hx
  · rw [getD_dropLast (by rw [dl]; exact ok.n1), ok.m0]
    exact Rat.not_lt.mpr t0
  · have hi' : i ≤ Z.n := by rw [dl] at hi; exact Nat.le_of_lt hi
    refine et_not (et_B (ev_b2 (ew_var rfl (hc.mono e1)) (ew_var rfl hw) st ?_ trivial))
    rw [getD_dropLast hi]
    exact (ok.mM hi').sm1 (by decide +kernel)
  · refine s_retR (ew_2 (ew_ixL (ev_fld (ev_var rfl) (h0.mono e1) T.c_Zones T.z_borders f1) (w1.mono e1) (ev_var rfl) hix) (ew_2 (ew_2 (ew_var rfl (hc.mono e1)) (ew_ixL (ev_fld (ev_var rfl) (h0.mono e1) T.c_Zones T.z_marks f3) (w3.mono e1) (ev_var rfl) (by rw [ok.lm]; omega)) st ((ok.mM (Nat.le_of_lt hix)).sm1 (by decide +kernel)) trivial)
      (ew_ixL (ev_fld (ev_var rfl) (h0.mono e1) T.c_Zones T.z_steps f2) (w2.mono e1) (ev_var rfl) (by rw [ok.ls]; exact hix)) ((ok.gap bt (Nat.le_of_lt hix)).sm1 (by decide +kernel)) ((ok.ss _ hix).sm1 (by decide +kernel)) trivial)
      ((ok.bb _ hix).sm1 (by decide +kernel)) ((ok.go bt hix).sm1 (by decide +kernel)) trivial) fun v H2 e2 hv => k v H2 (e1.trans e2) hv
def AZone (K : PySem.W.Frag) (CZ : Addr) : ZoneD × Int → List V → Hp → Prop := fun d vs H => ∃ p lb ls lm, vs = [.ref p, .int d.2] ∧ ZoneAt K CZ H p d.1 lb ls lm ∧ ZoneOk d.1 ∧ -100 ≤ d.2 ∧ d.2 ≤ 100
abbrev spZVal (K : PySem.W.Frag) (CZ : Addr) : Sp := spI (AZone K CZ) fun d => IsW K (d.1.val d.2)
theorem sc_Zones_value : FnScope ["self", "row"] ["self", "row"] (defScope s_Zones_value) := ⟨rfl, rfl, rfl, by decide +kernel, rfl, by decide +kernel, by decide +kernel⟩
theorem ok_Zones_value (T : Txt K w mg CL CZ CT NO MA) (h_plus : Fn P w K mg base 3 "plus" ["one", "other"] (spW2 K Any2 (· + ·))) (h_rest_of : Fn P w K mg base 4 "rest_of" ["one", "other"] (spRest K)) (h_Zones_place_of : Me P w K mg base CZ 4 "place_of" ["self", "even"] (spPlace K CZ))
    (F : FunD K "value" "Zones.value" (defArgs s_Zones_value) (defBody s_Zones_value) (defScope s_Zones_value) [] [] f fd) : FnOk P w K mg base CX0 5 f fd ["self", "row"] (spZVal K CZ) := by
  refine F.ok sc_Zones_value (fun vs H Q E h => ?_) (fun cdv A outer s H vs Q E hr h => ?_)
  · obtain ⟨d, ⟨_, _, _, _, rfl, _⟩, _⟩ := h
    rfl
  obtain ⟨⟨Z, row⟩, ⟨p, lb, ls, lm, rfl, hZ, ok, r1, r2⟩, k⟩ := h
  refine ⟨_, PSs.nox (pss_one (ps_ret (pe_me h_Zones_place_of T.c_Zones (hr.mono (by decide)) (pv 0) (pa_cons (pe_fn h_rest_of (hr.mono (by decide)) rfl (pa_cons (pe_ix ix_list (pe_fld (pv 0) rfl) (pe_un un_neg pe_int) (fun _ _ => rfl)) (pa_cons (pe_fn h_plus (hr.mono (by decide)) rfl (pa_cons (pe_fld (pv 0) rfl) (pa_cons (pe_tup (pa_cons (pv 1) (pa_cons pe_int pa_nil))) pa_nil))) pa_nil))) pa_nil)))), ?_⟩
  have r1 : -100 ≤ row := r1
  have r2 : row ≤ 100 := r2
  have ok : ZoneOk Z := ok
  obtain ⟨r, g, h0, w1, w2, w3, w4, w5⟩ := hZ.ex
  have hM := ok.mM (Nat.le_refl _)
  refine s_retR (er_meth1 (A := APlace K CZ) (Z, Z.even row) (ev_var rfl) h0 rfl (R2 := IsW K (Z.even row)) (ew_2 (ew_last (ev_fld (ev_var rfl) h0 T.c_Zones T.z_marks rfl) w4 (ev_un ev_c ru_neg) ok.lm)
    (ew_2 (ew_of (ev_fld (ev_var rfl) h0 T.c_Zones T.z_begin rfl) w5) (ew_int (i := row) (ev_var rfl) ev_c) (ok.bg.sm1 (by decide +kernel)) ((Bd.int 1 r1 r2).sm1 (by decide +kernel)) trivial)
    (hM.sm1 (by decide +kernel)) ((ok.at_ r1 r2).sm1 (by decide +kernel)) (rest_pre ok.pos hM (ok.at_ r1 r2) (by decide +kernel))) fun y H1 e1 ⟨c, ey, hc⟩ => ⟨p, c, by rw [ey], (hZ.mono e1).ls, hc, ok, ok.even0, ok.even r1 r2⟩) fun v H2 e2 hv => k v H2 e2 hv
end
end Tb

/-! ## TbZone2 -/
set_option Elab.async false
set_option linter.all false
set_option maxRecDepth 100000
set_option maxHeartbeats 4000000
namespace Tb
open PySem PySem.Spec PyProof.Rows L2 Evl
section
variable {P : Program} {w : World} {K : PySem.W.Frag} {mg : Str → Option Value} {base : Heap} {CL CZ CT NO MA : Addr} {f : Addr} {fd : FuncData}
/-- a ring's lists as __init__ and evened lean on them -/
structure RingOk (bs ss ms : List Rat) (r : Rat) : Prop where
  n1 : 1 ≤ bs.length
  n2 : bs.length ≤ 12
  ls : ss.length = bs.length
  b0 : bs.getD 0 0 = 0
  bb : ∀ i : Nat, i < bs.length → Bd ME BI (bs.getD i 0)
  ss : ∀ i : Nat, i < bs.length → StepOk (ss.getD i 0)
  mm : ∀ i : Nat, i ≤ bs.length → Bd (ME * L40) (1500 * BI) (ms.getD i 0)
  lm : ms.length = bs.length + 1
def AEven (K : PySem.W.Frag) (CZ : Addr) : (List Rat × List Rat × List Rat) × Rat → List V → Hp → Prop := fun d vs H => ∃ p c, vs = [.ref p, .ref c] ∧ ZoneLs K CZ H p d.1.1 d.1.2.1 d.1.2.2 ∧ WAt K H c d.2 ∧ RingOk d.1.1 d.1.2.1 d.1.2.2 0 ∧ 0 ≤ d.2 ∧ Bd 5040 BI d.2
abbrev spZoneOf (K : PySem.W.Frag) (CZ : Addr) : Sp := spI (AEven K CZ) fun d v _ => v = .int (ixm d.1.1 d.2 : Nat)
def REven (K : PySem.W.Frag) : V → Hp → Prop := fun v H => ∃ r, IsW K r v H ∧ Bd MM BM r
theorem reven_mon : Mon (REven K) := fun v H H' e ⟨r, h, b⟩ => ⟨r, isw_mon v H H' e h, b⟩
abbrev spEven (K : PySem.W.Frag) (CZ : Addr) : Sp := spI (AEven K CZ) fun _ => REven K
theorem aeven_len {x y : Str} {R : (List Rat × List Rat × List Rat) × Rat → V → Hp → Prop} : ∀ vs H Q E, spI (AEven K CZ) R vs H Q E → vs.length = ([x, y] : List Str).length := fun vs H Q E ⟨_, ⟨_, _, e, _⟩, _⟩ => by
  rw [e] <;> rfl
theorem sc_Zones_zone_of : FnScope ["self", "thing", "zone", "border"] ["self", "thing"] (defScope s_Zones_zone_of) := ⟨rfl, rfl, rfl, by decide +kernel, rfl, by decide +kernel, by decide +kernel⟩
theorem ok_Zones_zone_of (T : Txt K w mg CL CZ CT NO MA) (h_is_less : Fn P w K mg base 1 "is_less" ["one", "other"] (spB2 K Any2 fun q r => decide (q < r)))
    (F : FunD K "zone_of" "Zones.zone_of" (defArgs s_Zones_zone_of) (defBody s_Zones_zone_of) (defScope s_Zones_zone_of) [] [] f fd) : FnOk P w K mg base CX0 2 f fd ["self", "thing"] (spZoneOf K CZ) := by
  refine F.ok sc_Zones_zone_of aeven_len (fun cdv A outer s H vs Q E hr h => ?_)
  obtain ⟨⟨⟨bs, ss, ms⟩, t⟩, ⟨p, c, rfl, hZ, hc, ok, t0, bt⟩, k⟩ := h
  refine ⟨_, PSs.nox (pss_one (ps_ret (pe_callB (cr_max rfl) (by rfl) T.f_max (by decide +kernel) (pa_cons (pe_lc (own := [("zone", 2), ("border", 3)]) (g := gTup _ 2 (gCons (gName 2) (gCons (gName 3) gNil))) rfl sc_Zones_zone_of.nd (pi_enum rfl T.f_enumerate (pa_cons (pe_fld (pv 0) rfl) pa_nil)) (blkOk_by (own := [("zone", 2), ("border", 3)]) (N := ["self", "thing", "zone", "border"]) (sc := defScope s_Zones_zone_of) (by decide +kernel)) (fun _ _ _ _ _ => (pg_tup rfl (pgs_cons (pg_name (i := 2) sc_Zones_zone_of.nd rfl (Or.inl rfl)) (pgs_cons (pg_name (i := 3) sc_Zones_zone_of.nd rfl (Or.inl rfl)) pgs_nil)))) (fun _ _ _ _ _ => (pts_one (pt_not (pt_val (pe_fn h_is_less (hr.mono (by decide)) rfl (pa_cons (pv 1) (pa_cons (pv 3) pa_nil))))))) (fun _ _ _ _ _ => (pv 2))) pa_nil)))), ?_⟩
  obtain ⟨lb, ls, lm, fs, h0, f1, f2, f3, f4, w1, w2, w3⟩ := hZ.ex
  have ok : RingOk bs ss ms 0 := ok
  have t0 : 0 ≤ t := t0
  have st : Sm t := (show Bd 5040 BI t from bt).sm1 (by decide +kernel)
  refine s_ret (ev_ixm (K := K) (t := t) (ms := bs) (ea_cons (ev_fld (ev_var rfl) h0 T.c_Zones T.z_borders f1) ea_nil) w1 (by have := ok.n2; omega) ok.n1 (by rw [ok.b0]; exact Rat.not_lt.mpr t0) (fun _ _ => rfl) (fun i x H1 e1 hi hw => ?_) (fun i x H1 => ev_var rfl)) fun H1 e1 => k _ H1 e1 rfl
  exact et_not (et_B (ev_b2 (ew_var rfl (hc.mono e1)) (ew_var rfl hw) st ((ok.bb i hi).sm1 (by decide +kernel)) trivial))
theorem sc_Zones_evened : FnScope ["self", "thing", "zone"] ["self", "thing"] (defScope s_Zones_evened) := ⟨rfl, rfl, rfl, by decide +kernel, rfl, by decide +kernel, by decide +kernel⟩
theorem ok_Zones_evened (T : Txt K w mg CL CZ CT NO MA) (h_plus : Fn P w K mg base 3 "plus" ["one", "other"] (spW2 K Any2 (· + ·))) (h_minus : Fn P w K mg base 3 "minus" ["one", "other"] (spW2 K Any2 (· - ·)))
    (h_over : Fn P w K mg base 3 "over" ["one", "other"] (spW2 K Pos2 (· / ·))) (h_Zones_zone_of : Me P w K mg base CZ 2 "zone_of" ["self", "thing"] (spZoneOf K CZ))
    (F : FunD K "evened" "Zones.evened" (defArgs s_Zones_evened) (defBody s_Zones_evened) (defScope s_Zones_evened) [] [] f fd) : FnOk P w K mg base CX0 4 f fd ["self", "thing"] (spEven K CZ) := by
  refine F.ok sc_Zones_evened aeven_len (fun cdv A outer s H vs Q E hr h => ?_)
  obtain ⟨⟨⟨bs, ss, ms⟩, t⟩, ⟨p, c, rfl, hZ, hc, ok, t0, bt⟩, k⟩ := h
  refine ⟨_, PSs.nox (pss_cons (ps_set (i := 2) sc_Zones_evened.nd rfl (Or.inl rfl) (pe_me h_Zones_zone_of T.c_Zones (hr.mono (by decide)) (pv 0) (pa_cons (pv 1) pa_nil)))
    (pss_one (ps_ret (pe_fn h_plus (hr.mono (by decide)) rfl (pa_cons (pe_ix ix_list (pe_fld (pv 0) rfl) (pv 2) (fun _ _ => rfl)) (pa_cons (pe_fn h_over (hr.mono (by decide)) rfl (pa_cons (pe_fn h_minus (hr.mono (by decide)) rfl (pa_cons (pv 1) (pa_cons (pe_ix ix_list (pe_fld (pv 0) rfl) (pv 2) (fun _ _ => rfl)) pa_nil))) (pa_cons (pe_ix ix_list (pe_fld (pv 0) rfl) (pv 2) (fun _ _ => rfl)) pa_nil))) pa_nil)))))), ?_⟩
  obtain ⟨lb, ls, lm, fs, h0, f1, f2, f3, f4, w1, w2, w3⟩ := hZ.ex
  have ok : RingOk bs ss ms 0 := ok
  have bt : Bd 5040 BI t := bt
  have hix : ixm bs t < bs.length := ixm_lt ok.n1
  refine q_asg (ev_of_v (er_meth1 (A := AEven K CZ) ((bs, ss, ms), t) (ev_var rfl) h0 f4 (R2 := IsW K t) (ew_var rfl hc) fun y H1 e1 ⟨b, ey, hb⟩ => ⟨p, b, by rw [ey], hZ.mono e1, hb, ok, t0, bt⟩)) fun H1 e1 => ?_
  have hs := ok.ss _ hix
  have gap : Bd 5040 (BI + BI) (t - bs.getD (ixm bs t) 0) := bt.sub ((ok.bb _ hix).mono (by decide +kernel) (Int.le_refl _))
  have hq : Bd (5040 * L40) ((BI + BI) * 60) ((t - bs.getD (ixm bs t) 0) / ss.getD (ixm bs t) 0) := hs.div gap
  have hm := ok.mm _ (Nat.le_of_lt hix)
  refine s_retR (ew_2 (ew_ixL (ev_fld (ev_var rfl) (h0.mono e1) T.c_Zones T.z_marks f3) (w3.mono e1) (ev_var rfl) (show ixm bs t < ms.length by rw [ok.lm]; omega)) (ew_2 (ew_2 (ew_var rfl (hc.mono e1)) (ew_ixL (ev_fld (ev_var rfl) (h0.mono e1) T.c_Zones T.z_borders f1) (w1.mono e1) (ev_var rfl) hix) (bt.sm1 (by decide +kernel)) ((ok.bb _ hix).sm1 (by decide +kernel)) trivial)
    (ew_ixL (ev_fld (ev_var rfl) (h0.mono e1) T.c_Zones T.z_steps f2) (w2.mono e1) (ev_var rfl) (by rw [ok.ls]; exact hix)) (gap.sm1 (by decide +kernel)) (hs.bd.sm1 (by decide +kernel)) hs.pos)
    (hm.sm1 (by decide +kernel)) (hq.sm1 (by decide +kernel)) trivial) fun v H2 e2 hv => k v H2 (e1.trans e2) ⟨_, hv, ?_⟩
  exact ((hm.mono (by decide +kernel) (Int.le_refl _)).add hq).mono (Int.dvd_refl _) (by decide)
/-! ### are_rising, are_steps -/
theorem rv_b {H : Hp} {p : Int → Int → Bool} {i j : Int} {b : Bool} (h : p i j = b) : RV (rI0 fun i j => .bl (p i j)) (.int i) (.int j) H (.bl b) := fun H1 _ Q q => ⟨i, j, rfl, rfl, by
  show Q (.bl (p i j)) H1
  rw [h]
  exact q H1 (Ex.refl H1)⟩
theorem ev_chain {r r' : R2} {σ : L2.St} {H : Hp} {ta tb tc : TE} {x y z : V} {b : Bool} (ha : Ev ta σ H x) (hb : Ev tb σ H y) (h1 : RV r x y H (.bl true)) (hc : Ev tc σ H z) (h2 : RV r' y z H (.bl b)) : Ev (tChain r r' ta tb tc) σ H (.bl b) := fun H1 e1 Q q =>
  ha H1 e1 _ fun H2 e2 => hb H2 (e1.trans e2) _ fun H3 e3 => h1 H3 ((e1.trans e2).trans e3) _ fun H4 e4 => ⟨true, rfl, by
    show tc σ H4 _
    exact hc H4 (((e1.trans e2).trans e3).trans e4) _ fun H5 e5 => h2 H5 ((((e1.trans e2).trans e3).trans e4).trans e5) Q fun H6 e6 => q H6 ((((e2.trans e3).trans e4).trans e5).trans e6)⟩
theorem ev_lenL {σ : L2.St} {H : Hp} {ta : TE} {p : Addr} {qs : List Rat} (ha : Ev ta σ H (.ref p)) (h : LW K H p qs) : Ev (tCB (rLenS K) (tCons ta tNil)) σ H (.int (qs.length : Int)) := by
  obtain ⟨vs, h1, h2, _⟩ := h
  have := ev_len (K := K) ha (sq_of h1)
  rw [h2] at this
  exact this
theorem ty_lst {H : Hp} {p : Addr} {vs : List V} (h : H p = some (.lst vs)) : ∀ H1, Ex H H1 → TyX K H1 (.ref p) (.type "list") := fun H1 e => .base (.lst (e _ _ h))
theorem cut_from1 {xs : List V} : cutV xs (some 1) none = xs.drop 1 := by
  unfold cutV
  rw [show HT.sIx xs.length 0 (some 1) = min 1 xs.length from HT.sIx_nat xs.length 0 1, HT.sIx_none]
  cases xs with
  | nil => rfl
  | cons x r =>
    rw [show min 1 (x :: r).length = 1 by
      rw [List.length_cons]
      omega]
    show (List.take ((x :: r).length - 1) r) = r
    rw [List.length_cons, Nat.add_sub_cancel]
    exact List.take_length
/-- xs + ys, both new or standing lists -/
theorem el_cat {σ : L2.St} {H : Hp} {ta tb : TE} {a : Addr} {xs ys : List V} (ha : Ev ta σ H (.ref a)) (hx : H a = some (.lst xs)) (hb : EvL tb σ H ys) (hl : xs.length + ys.length ≤ 100000) : EvL (tOp rCat ta tb) σ H (xs ++ ys) := fun H1 e1 Q q =>
  ha H1 e1 _ fun H2 e2 => hb H2 (e1.trans e2) _ fun p H3 n e3 hp => ⟨a, p, xs, ys, rfl, rfl, ((e1.trans e2).trans e3) _ _ hx, hp, sz_of hl, fun r hr => q r _ (fresh_back (e2.trans e3) hr) ((e2.trans e3).trans (Ex.new hr)) upd_same⟩
theorem el_cat2 {σ : L2.St} {H : Hp} {ta tb : TE} {xs ys : List V} (ha : EvL ta σ H xs) (hb : EvL tb σ H ys) (hl : xs.length + ys.length ≤ 100000) : EvL (tOp rCat ta tb) σ H (xs ++ ys) := fun H1 e1 Q q =>
  ha H1 e1 _ fun a H2 n2 e2 ha2 => hb H2 (e1.trans e2) _ fun p H3 n e3 hp => ⟨a, p, xs, ys, rfl, rfl, e3 _ _ ha2, hp, sz_of hl, fun r hr => q r _ (fresh_back (e2.trans e3) hr) ((e2.trans e3).trans (Ex.new hr)) upd_same⟩
def ARing (K : PySem.W.Frag) : List Rat × Rat → List V → Hp → Prop := fun d vs H => ∃ l c, vs = [.ref l, .ref c] ∧ LW K H l d.1 ∧ WAt K H c d.2 ∧ 1 ≤ d.1.length ∧ d.1.length ≤ 12 ∧ d.1.getD 0 0 = 0 ∧ (∀ i : Nat, i < d.1.length → Bd ME BI (d.1.getD i 0)) ∧ Bd ME BI d.2 ∧
  (∀ i : Nat, i < d.1.length → d.1.getD i 0 < (d.1 ++ [d.2]).getD (i + 1) 0)
abbrev spRising (K : PySem.W.Frag) : Sp := spI (ARing K) fun _ v _ => v = .bl true
theorem ex_lt {qs : List Rat} {r : Rat} {i : Nat} {vs : List V} {c : Addr} {H : Hp} (hl : vs.length = qs.length) (h : ∀ (i : Nat) x, vs[i]? = some x → IsW K (qs.getD i 0) x H) (hc : WAt K H c r) {x : V} (hx : (vs ++ [.ref c])[i]? = some x) : IsW K ((qs ++ [r]).getD i 0) x H := by
  by_cases hi : i < vs.length
  · rw [List.getElem?_append_left hi] at hx
    have e : (qs ++ [r]).getD i 0 = qs.getD i 0 := by
      simp only [List.getD_eq_getElem?_getD]
      rw [List.getElem?_append_left (by omega)]
    rw [e]
    exact h i x hx
  · rw [List.getElem?_append_right (by omega)] at hx
    have h1 := (List.getElem?_eq_some_iff.mp hx).1
    have h1 : i - vs.length < 1 := h1
    have ei : i = qs.length := by omega
    subst ei
    have e : (qs ++ [r]).getD qs.length 0 = r := by
      simp only [List.getD_eq_getElem?_getD]
      rw [List.getElem?_append_right (Nat.le_refl _)]
      simp
    rw [e]
    rw [hl] at hx
    simp at hx
    exact ⟨c, hx.symm, hc⟩
theorem sc_are_rising : FnScope ["borders", "ring", "ends", "border", "end"] ["borders", "ring"] (defScope s_are_rising) := ⟨rfl, rfl, rfl, by decide +kernel, rfl, by decide +kernel, by decide +kernel⟩
theorem ok_are_rising (T : Txt K w mg CL CZ CT NO MA) (h_is_worth : Fn P w K mg base 2 "is_worth" ["thing"] (spIsWorth K)) (h_is_less : Fn P w K mg base 1 "is_less" ["one", "other"] (spB2 K Any2 fun q r => decide (q < r)))
    (F : FunD K "are_rising" "are_rising" (defArgs s_are_rising) (defBody s_are_rising) (defScope s_are_rising) [] [] f fd) : FnOk P w K mg base CX0 3 f fd ["borders", "ring"] (spRising K) := by
  refine F.ok sc_are_rising (fun vs H Q E h => ?_) (fun cdv A outer s H vs Q E hr h => ?_)
  · obtain ⟨d, ⟨_, _, rfl, _⟩, _⟩ := h
    rfl
  obtain ⟨⟨bs, r⟩, ⟨l, c, rfl, hl, hc, n1, n2, b0, bb, br, ri⟩, k⟩ := h
  obtain ⟨t12, g_MOST_ZONES⟩ := T.zones
  refine ⟨_, PSs.nox (pss_cons (ps_if (PW.pt (pw_or (pt_not (pt_val (pe_callB call_isi (by rfl) T.f_isinstance (by decide +kernel) (pa_cons (pv 0) (pa_cons (pe_ty (n := "list") (by rfl) T.f_list (by decide +kernel)) pa_nil))))) (pw_or1 (pt_not (pt_chain op_le op_le pe_int (pe_callB call_len_seq (by rfl) T.f_len (by decide +kernel) (pa_cons (pv 0) pa_nil)) (pe_gint rfl g_MOST_ZONES)))))) (pss_one (ps_ret pe_bl)) pss_nil)
    (pss_cons (ps_if (PW.pt (pw_or (pt_not (pt_val (pe_callB (cr_all rfl) (by rfl) T.f_all (by decide +kernel) (pa_cons (pe_lc (own := [("border", 3)]) (g := gName 3) (tt := tYes) rfl sc_are_rising.nd (pi_list (pv 0)) (blkOk_by (own := [("border", 3)]) (N := ["borders", "ring", "ends", "border", "end"]) (sc := defScope s_are_rising) (by decide +kernel)) (fun _ _ _ _ _ => (pg_name (i := 3) sc_are_rising.nd rfl (Or.inl rfl))) (fun _ _ _ _ _ => pts_nil) (fun _ _ _ _ _ => (pe_fn h_is_worth (hr.mono (by decide)) rfl (pa_cons (pv 3) pa_nil)))) pa_nil)))) (pw_or1 (pt_cmpR (op_neD hr.units) (pe_ix ix_list (pv 0) pe_int (fun _ _ => rfl)) (pe_gref rfl T.g_NOUGHT) (nomark _))))) (pss_one (ps_ret pe_bl)) pss_nil)
    (pss_cons (ps_set (i := 2) sc_are_rising.nd rfl (Or.inl rfl) (pe_op op_cat (pe_slice sl_list (pv 0) (po_some pe_int) po_none) (pe_lst (pa_cons (pv 1) pa_nil))))
    (pss_one (ps_ret (pe_callB (cr_all rfl) (by rfl) T.f_all (by decide +kernel) (pa_cons (pe_lc (own := [("border", 3), ("end", 4)]) (g := gTup _ 2 (gCons (gName 3) (gCons (gName 4) gNil))) (tt := tYes) rfl sc_are_rising.nd (pi_zip rfl T.f_zip (pa_cons (pv 0) (pa_cons (pv 2) pa_nil))) (blkOk_by (own := [("border", 3), ("end", 4)]) (N := ["borders", "ring", "ends", "border", "end"]) (sc := defScope s_are_rising) (by decide +kernel)) (fun _ _ _ _ _ => (pg_tup rfl (pgs_cons (pg_name (i := 3) sc_are_rising.nd rfl (Or.inl rfl)) (pgs_cons (pg_name (i := 4) sc_are_rising.nd rfl (Or.inl rfl)) pgs_nil)))) (fun _ _ _ _ _ => pts_nil) (fun _ _ _ _ _ => (pe_fn h_is_less (hr.mono (by decide)) rfl (pa_cons (pv 3) (pa_cons (pv 4) pa_nil))))) pa_nil))))))), ?_⟩
  obtain ⟨us, u1, u2, u3⟩ := id hl
  have n1 : 1 ≤ bs.length := n1
  have n2 : bs.length ≤ 12 := n2
  have b0 : bs.getD 0 0 = 0 := b0
  refine q_when (b := false) (et_is (et_or (a := !true) (et_not (et_B (b := true) (ev_isi (ev_var rfl) (ty_lst u1) (.ty "list") (kit_ty (by decide +kernel))))) fun _ => et_not (et_test (b := true) (ev_chain ev_c (ev_lenL (ev_var rfl) hl) (rv_b (decide_eq_true (show (1 : Int) ≤ (bs.length : Int) by omega))) ev_c (rv_b (decide_eq_true (show (bs.length : Int) ≤ 12 by omega)))))) rfl) (fun h => by cases h) fun _ H1 e1 => ?_
  have hl1 := hl.mono e1
  have hall : EvN (tLc (iList K (tVar 0)) (gName 3) tYes (tCall (spIsWorth K) [] E0 (tCons (tVar 3) tNil)) [3]) (start ["borders", "ring", "ends", "border", "end"] [V.ref l, V.ref c]) H1 (Each us.length fun _ v _ => v = .bl true) :=
    en_lcL (K := K) (fun _ => eq_mon) (fun _ => eq_monL) (ev_var rfl) (sq_of (e1 _ _ u1)) (by omega) (fun _ => rfl) fun i x H2 e2 hx => by
      obtain ⟨b, rfl, hb⟩ := u3 i x hx
      exact er_of (ev_isw (ew_var rfl (hb.mono (e1.trans e2)))) fun _ _ => rfl
  have eqv0 : PyData.eqv (wd (bs.getD 0 0)) (wd 0) = true := by
    rw [b0]
    decide +kernel
  refine q_when (b := false) (et_is (et_or (a := !true) (et_not (et_B (ev_allN hall))) fun _ => et_test (ev_is (ev_neW (ew_ixL (z := 0) (ev_var rfl) hl1 ev_c (by omega)) T.ew0) (w := .bl false) (by rw [eqv0]; rfl))) rfl) (fun h => by cases h) fun _ H2 e2 => ?_
  have e12 := e1.trans e2
  have hd : EvL (tOp rCat (tSl (rSlL K) (tVar 0) (tPart (tC (.int 1))) tNoPart) (tLst (tCons (tVar 1) tNil))) (start ["borders", "ring", "ends", "border", "end"] [V.ref l, V.ref c]) H2 (us.drop 1 ++ [.ref c]) := by
    have s1 := el_sl (K := K) (lo := some 1) (hi := none) (ev_var rfl : Ev (tVar 0) (start ["borders", "ring", "ends", "border", "end"] [V.ref l, V.ref c]) H2 (.ref l)) (eo_some ev_c) eo_none (sq_of (e12 _ _ u1))
    rw [cut_from1] at s1
    exact el_cat2 s1 (el_lst (ea_cons (ev_var rfl) ea_nil) (by show 1 ≤ 100000; decide)) (by
      rw [List.length_drop, u2]
      show bs.length - 1 + 1 ≤ 100000
      omega)
  refine q_asgL hd fun p H3 hp e3 h3 => ?_
  have e13 := e12.trans e3
  refine s_ret (ev_allN (n := us.length) (en_lcZ (K := K) (R := fun _ v _ => v = .bl true) (fun _ => eq_mon) (fun _ => eq_monL) (ea_cons (ev_var rfl) (ea_cons (ev_var rfl) ea_nil)) (sq_of (e13 _ _ u1)) (sq_of h3) ?_ (by omega) (fun _ _ => rfl) fun i x y H4 e4 hx hy => ?_)) fun H4 e4 => k _ H4 (e13.trans e4) rfl
  · rw [List.length_append, List.length_drop]
    show us.length = us.length - 1 + 1
    omega
  · have hi : i < us.length := (List.getElem?_eq_some_iff.mp hx).1
    have hy' : (us ++ [.ref c])[i + 1]? = some y := by
      rw [← hy]
      by_cases h1 : i + 1 < us.length
      · rw [List.getElem?_append_left h1, List.getElem?_append_left (by rw [List.length_drop]; omega), List.getElem?_drop, Nat.add_comm]
      · rw [List.getElem?_append_right (by omega), List.getElem?_append_right (by rw [List.length_drop]; omega), List.length_drop]
        congr 1
        omega
    obtain ⟨b1, rfl, hb1⟩ := u3 i x hx
    obtain ⟨b2, rfl, hb2⟩ := ex_lt (r := r) (by exact u2) u3 hc hy'
    have u2' : us.length = bs.length := u2
    have hlt := ri i (show i < bs.length by omega)
    have sm2 : Sm ((bs ++ [r]).getD (i + 1) 0) := by
      by_cases h1 : i + 1 < bs.length
      · have e : (bs ++ [r]).getD (i + 1) 0 = bs.getD (i + 1) 0 := by
          simp only [List.getD_eq_getElem?_getD]
          rw [List.getElem?_append_left h1]
        rw [e]
        exact (bb _ h1).sm1 (by decide +kernel)
      · have e : (bs ++ [r]).getD (i + 1) 0 = r := by
          simp only [List.getD_eq_getElem?_getD]
          have : i + 1 = bs.length := by omega
          rw [this, List.getElem?_append_right (Nat.le_refl _)]
          simp
        rw [e]
        exact br.sm1 (by decide +kernel)
    exact er_of (ev_bT (ev_b2 (ew_var rfl (hb1.mono (e13.trans e4))) (ew_var rfl (hb2.mono (e13.trans e4))) ((bb i (show i < bs.length by omega)).sm1 (by decide +kernel)) sm2 trivial) (decide_eq_true hlt)) fun _ _ => rfl
def ASteps (K : PySem.W.Frag) : List Rat → List V → Hp → Prop := fun d vs H => ∃ l, vs = [.ref l, .int (d.length : Nat)] ∧ LW K H l d ∧ d.length ≤ 12 ∧ ∀ i : Nat, i < d.length → StepOk (d.getD i 0)
abbrev spSteps (K : PySem.W.Frag) : Sp := spI (ASteps K) fun _ v _ => v = .bl true
theorem sc_are_steps : FnScope ["steps", "many", "step"] ["steps", "many"] (defScope s_are_steps) := ⟨rfl, rfl, rfl, by decide +kernel, rfl, by decide +kernel, by decide +kernel⟩
theorem ok_are_steps (T : Txt K w mg CL CZ CT NO MA) (h_is_worth : Fn P w K mg base 2 "is_worth" ["thing"] (spIsWorth K)) (h_is_less : Fn P w K mg base 1 "is_less" ["one", "other"] (spB2 K Any2 fun q r => decide (q < r)))
    (F : FunD K "are_steps" "are_steps" (defArgs s_are_steps) (defBody s_are_steps) (defScope s_are_steps) [] [] f fd) : FnOk P w K mg base CX0 3 f fd ["steps", "many"] (spSteps K) := by
  refine F.ok sc_are_steps (fun vs H Q E h => ?_) (fun cdv A outer s H vs Q E hr h => ?_)
  · obtain ⟨d, ⟨_, rfl, _⟩, _⟩ := h
    rfl
  obtain ⟨ss, ⟨l, rfl, hl, n2, ok⟩, k⟩ := h
  refine ⟨_, PSs.nox (pss_cons (ps_if (PW.pt (pw_or (pt_not (pt_val (pe_callB call_isi (by rfl) T.f_isinstance (by decide +kernel) (pa_cons (pv 0) (pa_cons (pe_ty (n := "list") (by rfl) T.f_list (by decide +kernel)) pa_nil))))) (pw_or1 (pt_cmpR op_ne (pe_callB call_len_seq (by rfl) T.f_len (by decide +kernel) (pa_cons (pv 0) pa_nil)) (pv 1) (nomark _))))) (pss_one (ps_ret pe_bl)) pss_nil)
    (pss_one (ps_ret (pe_callB (cr_all rfl) (by rfl) T.f_all (by decide +kernel) (pa_cons (pe_lc (own := [("step", 2)]) (g := gName 2) (tt := tYes) rfl sc_are_steps.nd (pi_list (pv 0)) (blkOk_by (own := [("step", 2)]) (N := ["steps", "many", "step"]) (sc := defScope s_are_steps) (by decide +kernel)) (fun _ _ _ _ _ => (pg_name (i := 2) sc_are_steps.nd rfl (Or.inl rfl))) (fun _ _ _ _ _ => pts_nil) (fun _ _ _ _ _ => (pe_and (pe_fn h_is_worth (hr.mono (by decide)) rfl (pa_cons (pv 2) pa_nil)) (pe_one (pe_fn h_is_less (hr.mono (by decide)) rfl (pa_cons (pe_gref rfl T.g_NOUGHT) (pa_cons (pv 2) pa_nil))))))) pa_nil))))), ?_⟩
  obtain ⟨us, u1, u2, u3⟩ := id hl
  refine q_when (b := false) (et_is (et_or (a := !true) (et_not (et_B (b := true) (ev_isi (ev_var rfl) (ty_lst u1) (.ty "list") (kit_ty (by decide +kernel))))) fun _ => et_test (ev_is (ev_op (ev_lenL (ev_var rfl) hl) (ev_var rfl) (rv_ne rfl)) (w := .bl false) (by simp))) rfl) (fun h => by cases h) fun _ H1 e1 => ?_
  refine s_ret (ev_allN (n := us.length) (en_lcL (K := K) (R := fun _ v _ => v = .bl true) (fun _ => eq_mon) (fun _ => eq_monL) (ev_var rfl) (sq_of (e1 _ _ u1)) (by omega) (fun _ => rfl) fun i x H2 e2 hx => ?_)) fun H2 e2 => k _ H2 (e1.trans e2) rfl
  obtain ⟨b, rfl, hb⟩ := u3 i x hx
  have hi : i < ss.length := by
    have := (List.getElem?_eq_some_iff.mp hx).1
    omega
  have hs := ok i hi
  exact er_of (ev_andV (a := true) (b := true) (ev_isw (ew_var rfl (hb.mono (e1.trans e2)))) fun _ => ev_bT (ev_b2 T.ew0 (ew_var rfl (hb.mono (e1.trans e2))) sm0 (hs.bd.sm1 (by decide +kernel)) trivial) (decide_eq_true hs.pos)) fun _ _ => rfl
end
end Tb

/-! ## TbZone3 -/
set_option Elab.async false
set_option linter.all false
set_option maxRecDepth 100000
set_option maxHeartbeats 4000000
namespace Tb
open PySem PySem.Spec PyProof.Rows L2 Evl
section
variable {P : Program} {w : World} {K : PySem.W.Frag} {mg : Str → Option Value} {base : Heap} {CL CZ CT NO MA : Addr} {f : Addr} {fd : FuncData}
def spZoneInit (K : PySem.W.Frag) (CZ : Addr) : Sp := fun vs H Q _ => ∃ (p dx a1 l1 l2 a4 : Addr) (bs ss : List Rat) (r at_ : Rat), vs = [.ref p, .ref a1, .ref l1, .ref l2, .ref a4] ∧ H p = some (.ins CZ dx []) ∧ WAt K H a1 r ∧ LW K H l1 bs ∧ LW K H l2 ss ∧ WAt K H a4 at_ ∧ ZoneArg bs ss r at_ ∧
  ∀ Z lb ls lm H', ZoneAt K CZ H' p Z lb ls lm → ZoneOk Z → H lb = none → H ls = none → H lm = none → Ek p H H' → Q .non H'
theorem er_ofL {σ : L2.St} {H : Hp} {te : TE} {xs : List V} (h : EvL te σ H xs) : EvR te σ H fun v H2 => ∃ l, v = .ref l ∧ H l = none ∧ H2 l = some (.lst xs) := fun H1 e1 Q q => h H1 e1 Q fun p H2 n e2 h2 => q _ H2 e2 ⟨p, rfl, fresh_back e1 n, h2⟩
theorem newl_mon {H : Hp} {xs : List V} : Mon (fun v H2 => ∃ l, v = .ref l ∧ H l = none ∧ H2 l = some (.lst xs)) := fun _ _ _ e ⟨l, h1, h2, h3⟩ => ⟨l, h1, h2, e _ _ h3⟩
theorem Ek.fresh {p l : Addr} {H G : Hp} {o : HO} (e : Ek p H G) (hp : G p = some o) (h : G l = none) : H l = none := by
  have n : l ≠ p := fun z => by
    rw [z, hp] at h
    cases h
  cases q : H l with
  | none => rfl
  | some u =>
    rw [e l u q n] at h
    cases h
theorem ew_ixE {σ : L2.St} {H : Hp} {tl ti : TE} {l : Addr} {acc : List V} {n z : Nat} {g : Nat → Rat} (hl : Ev tl σ H (.ref l)) (h : H l = some (.lst acc)) (he : Each n (fun j => IsW K (g j)) acc H) (hi : Ev ti σ H (.int (z : Nat))) (hz : z < n) : EW K (tOp (rIxL K) tl ti) σ H (g z) := by
  have hz' : z < acc.length := by rw [he.1]; exact hz
  have hv : acc[z]? = some acc[z] := by simp [hz']
  exact er_of (ev_op hl hi (rv_ixL (sq_of h) (atI_nat hv))) fun H1 e1 => isw_mon _ _ _ e1 (he.2 z _ hv)
theorem sc_Zones_init : FnScope ["self", "ring", "borders", "steps", "at", "zone", "width"] ["self", "ring", "borders", "steps", "at"] (defScope s_Zones_init) := ⟨rfl, rfl, rfl, by decide +kernel, rfl, by decide +kernel, by decide +kernel⟩
theorem ok_Zones_init (T : Txt K w mg CL CZ CT NO MA) (h_plus : Fn P w K mg base 3 "plus" ["one", "other"] (spW2 K Any2 (· + ·))) (h_minus : Fn P w K mg base 3 "minus" ["one", "other"] (spW2 K Any2 (· - ·)))
    (h_over : Fn P w K mg base 3 "over" ["one", "other"] (spW2 K Pos2 (· / ·))) (h_is_less : Fn P w K mg base 1 "is_less" ["one", "other"] (spB2 K Any2 fun q r => decide (q < r))) (h_is_worth : Fn P w K mg base 2 "is_worth" ["thing"] (spIsWorth K))
    (h_are_rising : Fn P w K mg base 3 "are_rising" ["borders", "ring"] (spRising K)) (h_are_steps : Fn P w K mg base 3 "are_steps" ["steps", "many"] (spSteps K)) (h_Zones_evened : Me P w K mg base CZ 4 "evened" ["self", "thing"] (spEven K CZ))
    (F : FunD K "__init__" "Zones.__init__" (defArgs s_Zones_init) (defBody s_Zones_init) (defScope s_Zones_init) [] [] f fd) : FnOk P w K mg base CX0 5 f fd ["self", "ring", "borders", "steps", "at"] (spZoneInit K CZ) := by
  refine F.ok sc_Zones_init (fun vs H Q E h => ?_) (fun cdv A outer s H vs Q E hr h => ?_)
  · obtain ⟨_, _, _, _, _, _, _, _, _, _, rfl, _⟩ := h
    rfl
  obtain ⟨p, dx, a1, l1, l2, a4, bs, ss, r, at_, rfl, hp, w1, b1, b2, w4, ZA, k⟩ := h
  refine ⟨_, PSs.nox (pss_cons (ps_if (PW.pt (pw_or (pt_not (pt_val (pe_fn h_is_worth (hr.mono (by decide)) rfl (pa_cons (pv 1) pa_nil)))) (pw_or1 (pt_not (pt_val (pe_fn h_is_less (hr.mono (by decide)) rfl (pa_cons (pe_gref rfl T.g_NOUGHT) (pa_cons (pv 1) pa_nil)))))))) (pss_one ps_never) pss_nil)
    (pss_cons (ps_if (pt_not (pt_val (pe_fn h_are_rising (hr.mono (by decide)) rfl (pa_cons (pv 2) (pa_cons (pv 1) pa_nil))))) (pss_one ps_never) pss_nil)
    (pss_cons (ps_if (pt_not (pt_val (pe_fn h_are_steps (hr.mono (by decide)) rfl (pa_cons (pv 3) (pa_cons (pe_callB call_len_seq (by rfl) T.f_len (by decide +kernel) (pa_cons (pv 2) pa_nil)) pa_nil))))) (pss_one ps_never) pss_nil)
    (pss_cons (ps_if (PW.pt (pw_or (pt_not (pt_val (pe_fn h_is_worth (hr.mono (by decide)) rfl (pa_cons (pv 4) pa_nil)))) (pw_or (pt_val (pe_fn h_is_less (hr.mono (by decide)) rfl (pa_cons (pv 4) (pa_cons (pe_gref rfl T.g_NOUGHT) pa_nil)))) (pw_or1 (pt_not (pt_val (pe_fn h_is_less (hr.mono (by decide)) rfl (pa_cons (pv 4) (pa_cons (pv 1) pa_nil))))))))) (pss_one ps_never) pss_nil)
    (pss_cons (ps_fld (pv 0) (pv 1) rfl)
    (pss_cons (ps_fld (pv 0) (pe_callTy call_list_of (by rfl) T.f_list (by decide +kernel) (pa_cons (pv 2) pa_nil)) rfl)
    (pss_cons (ps_fld (pv 0) (pe_callTy call_list_of (by rfl) T.f_list (by decide +kernel) (pa_cons (pv 3) pa_nil)) rfl)
    (pss_cons (ps_fld (pv 0) (pe_lst (pa_cons (pe_gref rfl T.g_NOUGHT) pa_nil)) rfl)
    (pss_cons (ps_for PassesOwn.never rfl (pi_range1 rfl T.f_range (pa_cons (pe_callB call_len_seq (by rfl) T.f_len (by decide +kernel) (pa_cons (pv 2) pa_nil)) pa_nil)) (pg_name (i := 5) sc_Zones_init.nd rfl (Or.inl rfl))
    (pss_cons (ps_set (i := 6) sc_Zones_init.nd rfl (Or.inl rfl) (pe_fn h_minus (hr.mono (by decide)) rfl (pa_cons (pe_ix ix_list (pe_op op_cat (pv 2) (pe_lst (pa_cons (pv 1) pa_nil))) (pe_op op_add (pv 5) pe_int) (fun _ _ => rfl)) (pa_cons (pe_ix ix_list (pv 2) (pv 5) (fun _ _ => rfl)) pa_nil))))
      (pss_one (ps_expr (pe_bm PySem.F.plainAttrs_list PySem.F.slot_list_append PySem.F.type_list_append mt_append (pe_fld (pv 0) rfl) (pa_cons (pe_fn h_plus (hr.mono (by decide)) rfl (pa_cons (pe_ix ix_list (pe_fld (pv 0) rfl) (pv 5) (fun _ _ => rfl)) (pa_cons (pe_fn h_over (hr.mono (by decide)) rfl (pa_cons (pv 6) (pa_cons (pe_ix ix_list (pv 3) (pv 5) (fun _ _ => rfl)) pa_nil))) pa_nil))) pa_nil))))))
    (pss_one (ps_fld (pv 0) (pe_me h_Zones_evened T.c_Zones (hr.mono (by decide)) (pv 0) (pa_cons (pv 4) pa_nil)) rfl))))))))))), ?_⟩
  have hI : Ins H p CZ [] := ⟨dx, hp⟩
  have sr : Sm r := ZA.br.sm1 (by decide +kernel)
  have sa : Sm at_ := ZA.ba.sm1 (by decide +kernel)
  refine q_when (b := false) (et_is (et_or (a := !true) (et_not (et_B (ev_isw (ew_var rfl w1)))) fun _ => et_not (et_B (ev_bT (ev_b2 T.ew0 (ew_var rfl w1) sm0 sr trivial) (decide_eq_true ZA.r0)))) rfl) (fun h => by cases h) fun _ H1 e1 => ?_
  refine q_when (b := false) (et_is (et_not (et_B (b := true) (ev_of_v (er_call2 (A := ARing K) (R1 := fun v _ => v = .ref l1) (R2 := fun v _ => v = .ref a1) (bs, r) (er_of (ev_var rfl) fun _ _ => rfl) (er_of (ev_var rfl) fun _ _ => rfl) eq_mon fun x y G e hx hy =>
    ⟨l1, a1, by rw [hx, hy], b1.mono (e1.trans e), w1.mono (e1.trans e), ZA.n1, ZA.n2, ZA.b0, ZA.bb, ZA.br, ZA.ri⟩)))) rfl) (fun h => by cases h) fun _ H2 e2 => ?_
  have e12 := e1.trans e2
  have lens : Ev (tCB (rLenS K) (tCons (tVar 2) tNil)) (start ["self", "ring", "borders", "steps", "at", "zone", "width"] [V.ref p, V.ref a1, V.ref l1, V.ref l2, V.ref a4]) H2 (.int (ss.length : Nat)) := by
    rw [ZA.ls]
    exact ev_lenL (ev_var rfl) (b1.mono e12)
  refine q_when (b := false) (et_is (et_not (et_B (b := true) (ev_of_v (er_call2 (A := ASteps K) (R1 := fun v _ => v = .ref l2) (R2 := fun v _ => v = .int (ss.length : Nat)) ss (er_of (ev_var rfl) fun _ _ => rfl) (er_of lens fun _ _ => rfl) eq_mon fun x y G e hx hy =>
    ⟨l2, by rw [hx, hy], b2.mono (e12.trans e), by rw [ZA.ls]; exact ZA.n2, fun i hi => ZA.st i (by rw [← ZA.ls]; exact hi)⟩)))) rfl) (fun h => by cases h) fun _ H3 e3 => ?_
  have e13 := e12.trans e3
  refine q_when (b := false) (et_is (et_or (a := !true) (et_not (et_B (ev_isw (ew_var rfl (w4.mono e13))))) fun _ => et_or (a := false) (et_B (ev_bF (ev_b2 (ew_var rfl (w4.mono e13)) T.ew0 sa sm0 trivial) (decide_eq_false (Rat.not_lt.mpr ZA.a0)))) fun _ =>
    et_not (et_B (ev_bT (ev_b2 (ew_var rfl (w4.mono e13)) (ew_var rfl (w1.mono e13)) sa sr trivial) (decide_eq_true ZA.ar)))) rfl) (fun h => by cases h) fun _ H4 e4 => ?_
  have e14 := e13.trans e4
  refine q_fld (er_of (ev_var rfl) fun _ _ => rfl) (eq_mon (u := .ref a1)) (ev_var rfl) (e14 _ _ hp) T.c_Zones T.z_ring (by decide) fun v1 H5 e5 r1 => ?_
  subst r1
  have k5 : Ek p H (upd H5 p (.ins CZ dx [("ring", .ref a1)])) := (ekx (e14.trans e5)).set
  have B1 := b1.ek hI k5
  obtain ⟨us, u1, u2, u3⟩ := id B1
  refine q_fld (er_ofL (el_list (K := K) (ev_var rfl) (sq_of u1))) newl_mon (ev_var rfl) (show (upd H5 p (.ins CZ dx [("ring", .ref a1)])) p = _ from upd_same) T.c_Zones T.z_borders (by show 1 < 1000; decide) fun v2 H6 e6 r2 => ?_
  obtain ⟨lb, rfl, fb, hb⟩ := r2
  have i6 : Ins H6 p CZ [("ring", .ref a1)] := ⟨dx, e6 _ _ upd_same⟩
  have k6' : Ek p H H6 := k5.trans (ekx e6)
  have k6 : Ek p H (upd H6 p (.ins CZ dx [("ring", .ref a1), ("borders", .ref lb)])) := k6'.set
  have LB6 : LW K H6 lb bs := ⟨us, hb, u2, fun i x hx => isw_mon _ _ _ e6 (u3 i x hx)⟩
  have B2 := b2.ek hI k6
  obtain ⟨ts, t1, t2, t3⟩ := id B2
  refine q_fld (er_ofL (el_list (K := K) (ev_var rfl) (sq_of t1))) newl_mon (ev_var rfl) (show (upd H6 p (.ins CZ dx [("ring", .ref a1), ("borders", .ref lb)])) p = _ from upd_same) T.c_Zones T.z_steps (by show 2 < 1000; decide) fun v3 H7 e7 r3 => ?_
  obtain ⟨ls, rfl, fs, hs⟩ := r3
  have i7 : Ins H7 p CZ [("ring", .ref a1), ("borders", .ref lb)] := ⟨dx, e7 _ _ upd_same⟩
  have k7' : Ek p H H7 := k6.trans (ekx e7)
  have k7 : Ek p H (upd H7 p (.ins CZ dx [("ring", .ref a1), ("borders", .ref lb), ("steps", .ref ls)])) := k7'.set
  have LB7 : LW K H7 lb bs := (LB6.ek i6 Ek.upd).mono e7
  have LS7 : LW K H7 ls ss := ⟨ts, hs, t2, fun i x hx => isw_mon _ _ _ e7 (t3 i x hx)⟩
  refine q_fld (er_ofL (el_lst (ea_cons ev_c ea_nil) (by show 1 ≤ 100000; decide))) newl_mon (ev_var rfl) (show (upd H7 p (.ins CZ dx [("ring", .ref a1), ("borders", .ref lb), ("steps", .ref ls)])) p = _ from upd_same) T.c_Zones T.z_marks (by show 3 < 1000; decide) fun v4 H8 e8 r4 => ?_
  obtain ⟨lm, rfl, fm, hm⟩ := r4
  have i8 : Ins H8 p CZ [("ring", .ref a1), ("borders", .ref lb), ("steps", .ref ls)] := ⟨dx, e8 _ _ upd_same⟩
  have k8' : Ek p H H8 := k7.trans (ekx e8)
  generalize hG : upd H8 p _ = G
  have k8 : Ek p H G := by
    rw [← hG]
    exact k8'.set
  have iG : Ins G p CZ [("ring", .ref a1), ("borders", .ref lb), ("steps", .ref ls), ("marks", .ref lm)] := ⟨dx, by rw [← hG]; exact upd_same⟩
  have kG : Ek p H8 G := by rw [← hG]; exact Ek.upd
  have bG : LW K G l1 bs := b1.ek hI k8
  have sG : LW K G l2 ss := b2.ek hI k8
  have rG : WAt K G a1 r := k8.wat hI w1
  have aG : WAt K G a4 at_ := k8.wat hI w4
  have LB : LW K G lb bs := (((LB7.ek i7 Ek.upd).mono e8)).ek i8 kG
  have LS : LW K G ls ss := (((LS7.ek i7 Ek.upd).mono e8)).ek i8 kG
  have npm : lm ≠ p := fun z => by
    obtain ⟨_, q⟩ := i8
    rw [z, q] at hm
    cases hm
  have mG : G lm = some (.lst [.ref NO]) := kG _ _ hm npm
  have n1 : l1 ≠ lm := by
    obtain ⟨_, q, _⟩ := b1.ek hI k7
    exact ne_of_none q fm
  have n2 : l2 ≠ lm := by
    obtain ⟨_, q, _⟩ := b2.ek hI k7
    exact ne_of_none q fm
  have nb : lb ≠ lm := by
    obtain ⟨_, q, _⟩ := LB7.ek i7 Ek.upd
    exact ne_of_none q fm
  have ns : ls ≠ lm := by
    obtain ⟨_, q, _⟩ := LS7.ek i7 Ek.upd
    exact ne_of_none q fm
  have fb0 : H lb = none := k5.fresh upd_same fb
  have fs0 : H ls = none := k6.fresh upd_same fs
  have fm0 : H lm = none := k7.fresh upd_same fm
  have hN : Ev (tCB (rLenS K) (tCons (tVar 2) tNil)) (start ["self", "ring", "borders", "steps", "at", "zone", "width"] [V.ref p, V.ref a1, V.ref l1, V.ref l2, V.ref a4]) G (.int (bs.length : Nat)) := ev_lenL (ev_var rfl) bG
  have z2 := ZA.n2
  refine q_forR1 (n := (bs.length : Nat)) (ea_cons hN ea_nil) (by omega) (fun i σ' H' => ∃ z y, σ' = [some (.ref p), some (.ref a1), some (.ref l1), some (.ref l2), some (.ref a4), z, y] ∧ Ek lm G H' ∧ ∃ acc, H' lm = some (.lst acc) ∧ Each (i + 1) (fun j => IsW K (mk (bs ++ [r]) ss j)) acc H')
    (fun H9 e9 => ⟨none, none, rfl, ekx e9, [.ref NO], e9 _ _ mG, rfl, fun i x hx => ?_⟩) ?_ ?_
  · have h1 := (List.getElem?_eq_some_iff.mp hx).1
    have h1 : i < 1 := h1
    have : i = 0 := by omega
    subst this
    have : V.ref NO = x := Option.some.inj hx
    exact ⟨NO, this.symm, T.wat0 _⟩
  · rintro i σ' H' hi ⟨z, y, rfl, kl, acc, ha, hE⟩
    have hi : i < bs.length := by omega
    have iH := kl.insL mG iG
    have bH := bG.ekl mG n1 kl
    have sH := sG.ekl mG n2 kl
    have rH := kl.watL mG rG
    obtain ⟨vs1, v1, v2, v3⟩ := id bH
    have hz : i + 1 < (vs1 ++ [V.ref a1]).length := by
      rw [List.length_append, v2]
      show i + 1 < bs.length + 1
      omega
    have hv : (vs1 ++ [V.ref a1])[i + 1]? = some (vs1 ++ [V.ref a1])[i + 1] := List.getElem?_eq_getElem hz
    have wv := ex_lt (r := r) v2 v3 rH hv
    have hends : EW K (tOp (rIxL K) (tOp rCat (tVar 2) (tLst (tCons (tVar 1) tNil))) (tOp (rI0 fun i j => .int (i + j)) (tVar 5) (tC (.int 1)))) [some (.ref p), some (.ref a1), some (.ref l1), some (.ref l2), some (.ref a4), some (.int (i : Int)), y] H' ((bs ++ [r]).getD (i + 1) 0) :=
      er_of (ev_opL1 (el_cat (ev_var rfl) v1 (el_lst (ea_cons (ev_var rfl) ea_nil) (by show 1 ≤ 100000; decide)) (by
        rw [v2]
        show bs.length + 1 ≤ 100000
        omega)) (fun H1 e1 => ev_op (ev_var rfl) ev_c rv_I0) fun q H1 hq e1 => rv_ixL (sq_of hq) (by
          have e : ((i : Int) + 1) = ((i + 1 : Nat) : Int) := by omega
          rw [e]
          exact atI_nat hv)) fun H1 e1 => isw_mon _ _ _ e1 wv
    have hbe := ZA.be (i + 1) (by omega)
    have hb0 := ZA.bb i hi
    refine q_asgW (ew_2 hends (ew_ixL (ev_var rfl) bH (ev_var rfl) hi) (hbe.sm1 (by decide +kernel)) (hb0.sm1 (by decide +kernel)) trivial) fun c Hc ec wc => ?_
    have hs := ZA.st i hi
    have gap : Bd ME (BI + BI) ((bs ++ [r]).getD (i + 1) 0 - bs.getD i 0) := hbe.sub hb0
    have hm1 := mk_bd ZA.be ZA.st i (Nat.le_of_lt hi)
    have hm1' : Bd (ME * L40) (1500 * BI) (mk (bs ++ [r]) ss i) := hm1.mono (Int.dvd_refl _) (by
      show (120 * 1000000 : Int) * (i : Int) ≤ 1500 * 1000000
      omega)
    refine s_appR (ec _ _ ha) (ev_fld (ev_var rfl) (iH.mono ec) T.c_Zones T.z_marks rfl) (ew_2 (ew_ixE (ev_fld (ev_var rfl) (iH.mono ec) T.c_Zones T.z_marks rfl) (ec _ _ ha) (hE.ex ec isw_mons) (ev_var rfl) (by omega))
      (ew_2 (ew_var rfl wc) (ew_ixL (ev_var rfl) (sH.mono ec) (ev_var rfl) (by rw [ZA.ls]; exact hi)) (gap.sm1 (by decide +kernel)) (hs.bd.sm1 (by decide +kernel)) hs.pos) (hm1'.sm1 (by decide +kernel)) ((hs.div gap).sm1 (by decide +kernel)) trivial)
      (by rw [hE.1]; omega) fun v Hv ev hv => ⟨_, _, rfl, (kl.trans (ekx (ec.trans ev))).set, _, upd_same, ?_⟩
    refine ((hE.ex (ec.trans ev) isw_mons).app ((ec.trans ev) _ _ ha) Ek.upd isw_monLs ?_)
    have e : mk (bs ++ [r]) ss (i + 1) = mk (bs ++ [r]) ss i + ((bs ++ [r]).getD (i + 1) 0 - bs.getD i 0) / ss.getD i 0 := by
      show mk (bs ++ [r]) ss i + ((bs ++ [r]).getD (i + 1) 0 - (bs ++ [r]).getD i 0) / ss.getD i 0 = _
      rw [getD_l hi]
    show IsW K (mk (bs ++ [r]) ss (i + 1)) v Hv
    rw [e]
    exact hv
  · rintro σ' H' ⟨z, y, rfl, kl, acc, ha, hE⟩
    have iH := kl.insL mG iG
    have aH := kl.watL mG aG
    have hE' : Each (bs.length + 1) (fun j => IsW K (mk (bs ++ [r]) ss j)) acc H' := hE
    have LM : LW K H' lm (marksOf bs ss r) := LW.of ha hE'
    have LBH := LB.ekl mG nb kl
    have LSH := LS.ekl mG ns kl
    have ZL : ZoneLs K CZ H' p bs ss (marksOf bs ss r) := ⟨lb, ls, lm, _, iH, rfl, rfl, rfl, rfl, LBH, LSH, LM⟩
    have RO : RingOk bs ss (marksOf bs ss r) 0 := ⟨ZA.n1, ZA.n2, ZA.ls, ZA.b0, ZA.bb, ZA.st, ZA.mm, marks_len⟩
    obtain ⟨dy, iH'⟩ := id iH
    refine s_fld (er_meth1 (A := AEven K CZ) ((bs, ss, marksOf bs ss r), at_) (ev_var rfl) iH rfl (R2 := IsW K at_) (ew_var rfl aH) fun y G1 g1 ⟨c, ey, hc⟩ => ⟨p, c, by rw [ey], ZL.mono g1, hc, RO, ZA.a0, ZA.ba⟩) reven_mon (ev_var rfl) iH' T.c_Zones T.z_begin (by show 4 < 1000; decide) fun v G1 g1 ⟨rb, ⟨b, ev, hb⟩, bb⟩ => ?_
    subst ev
    have iG1 := iH.mono g1
    have km : Ek p H (upd G1 p (.ins CZ dy (zfs a1 lb ls lm b))) := by
      refine Ek.trans ?_ Ek.upd
      intro c o hc n
      exact g1 _ _ (kl _ _ (k8 _ _ hc n) (ne_of_none hc fm0))
    have kk : Ek p G1 (upd G1 p (.ins CZ dy (zfs a1 lb ls lm b))) := Ek.upd
    refine k ⟨r, bs, ss, marksOf bs ss r, rb⟩ lb ls lm _ ⟨a1, b, ⟨dy, upd_same⟩, km.wat hI w1, (LBH.mono g1).ek iG1 kk, (LSH.mono g1).ek iG1 kk, (LM.mono g1).ek iG1 kk, kk.wat iG1 hb⟩ (ZA.ok bb) fb0 fs0 fm0 km
end
end Tb

/-! ## TbTab1 -/
set_option Elab.async false
set_option linter.all false
set_option maxRecDepth 100000
set_option maxHeartbeats 4000000
namespace Tb
open PySem PySem.Spec PyProof.Rows L2 Evl
/-! ### corners -/
def IsC (K : PySem.W.Frag) (c : Rat × Rat) : V → Hp → Prop := fun v H => ∃ p a b, v = .ref p ∧ SqT K H p [.ref a, .ref b] ∧ WAt K H a c.1 ∧ WAt K H b c.2
theorem isc_mon {K : PySem.W.Frag} {c : Rat × Rat} : Mon (IsC K c) := fun _ _ _ e ⟨p, a, b, h, h1, h2, h3⟩ => ⟨p, a, b, h, ex_t e h1, h2.mono e, h3.mono e⟩
theorem isc_monL {K : PySem.W.Frag} {c : Rat × Rat} : MonL (IsC K c) := fun _ _ _ _ _ hp e ⟨p, a, b, h, h1, h2, h3⟩ => ⟨p, a, b, h, e.tupL hp h1, e.watL hp h2, e.watL hp h3⟩
def CsAt (K : PySem.W.Frag) (H : Hp) (l : Addr) (cs : List (Rat × Rat)) : Prop := ∃ vs, H l = some (.lst vs) ∧ Each cs.length (fun i => IsC K (cs.getD i (0, 0))) vs H
section
variable {K : PySem.W.Frag} {σ : L2.St} {H H' : Hp} {ta tb te tl ti : TE} {v : V} {l m : Addr} {cs : List (Rat × Rat)} {z : Nat}
theorem CsAt.mono (h : CsAt K H l cs) (e : Ex H H') : CsAt K H' l cs := by
  obtain ⟨vs, h1, h2⟩ := h
  exact ⟨vs, e _ _ h1, h2.ex e fun _ => isc_mon⟩
theorem CsAt.ekl {ys : List V} (h : CsAt K H l cs) (hm : H m = some (.lst ys)) (n : l ≠ m) (e : Ek m H H') : CsAt K H' l cs := by
  obtain ⟨vs, h1, h2⟩ := h
  exact ⟨vs, e _ _ h1 n, h2.ekl hm e fun _ => isc_monL⟩
/-- xs[i] of corners -/
theorem er_ixC (hl : Ev tl σ H (.ref l)) (hw : CsAt K H l cs) (hi : Ev ti σ H (.int (z : Nat))) (hz : z < cs.length) : EvR (tOp (rIxL K) tl ti) σ H (IsC K (cs.getD z (0, 0))) := by
  obtain ⟨vs, h1, h2, h3⟩ := hw
  have hz' : z < vs.length := by rw [h2]; exact hz
  have hv : vs[z]? = some vs[z] := by simp [hz']
  exact er_of (ev_op hl hi (rv_ixL (sq_of h1) (atI_nat hv))) fun H1 e1 => isc_mon _ _ _ e1 (h3 z _ hv)
/-- a corner's two worths -/
theorem ew_cx {c : Rat × Rat} (h : EvR te σ H (IsC K c)) : EW K (tOp (rIxT K) te (tC (.int 0))) σ H c.1 := fun H1 e1 Q q =>
  h H1 e1 _ fun v H2 e2 ⟨p, a, b, hv, h1, h2, h3⟩ => ⟨p, _, 0, .ref a, hv, rfl, h1, rfl, q _ H2 e2 ⟨a, rfl, h2⟩⟩
theorem ew_cy {c : Rat × Rat} (h : EvR te σ H (IsC K c)) : EW K (tOp (rIxT K) te (tC (.int 1))) σ H c.2 := fun H1 e1 Q q =>
  h H1 e1 _ fun v H2 e2 ⟨p, a, b, hv, h1, h2, h3⟩ => ⟨p, _, 1, .ref b, hv, rfl, h1, rfl, q _ H2 e2 ⟨b, rfl, h3⟩⟩
theorem er_var {R : V → Hp → Prop} {i : Nat} (h : σ[i]? = some (some v)) (hr : ∀ H1, Ex H H1 → R v H1) : EvR (tVar i) σ H R := er_of (ev_var h) hr
theorem er_c {c : Rat × Rat} {i : Nat} (h : σ[i]? = some (some v)) (hr : IsC K c v H) : EvR (tVar i) σ H (IsC K c) := er_var h fun _ e => isc_mon _ _ _ e hr
theorem ev_lenC {p : Addr} (ha : Ev ta σ H (.ref p)) (h : CsAt K H p cs) : Ev (tCB (rLenS K) (tCons ta tNil)) σ H (.int (cs.length : Int)) := by
  obtain ⟨vs, h1, h2, _⟩ := h
  have := ev_len (K := K) ha (sq_of h1)
  rw [h2] at this
  exact this
end
def SMALLS : Str := "abcdefghijklmnopqrstuvwxyz"
structure GoodName (s : Str) : Prop where
  n1 : 1 ≤ s.length
  n8 : s.length ≤ 8
  sz : s.cps.size ≤ 8
  al : ∀ (i c : Nat), s.cps[i]? = some c → c ∈ SMALLS.cps.toList
def spName : Sp := spI (fun (s : Str) vs _ => vs = [.str s] ∧ GoodName s) fun _ v _ => v = .bl true
section
variable {P : Program} {w : World} {K : PySem.W.Frag} {mg : Str → Option Value} {base : Heap} {CL CZ CT NO MA : Addr} {f : Addr} {fd : FuncData}
theorem ev_lenS {σ : L2.St} {H : Hp} {ta : TE} {s : Str} (ha : Ev ta σ H (.str s)) (h : s.length ≤ 100000) : Ev (tCB (fun xs H Q => ∃ z : Str, xs = [V.str z] ∧ z.length ≤ sizeLine ∧ Q (.int z.length) H) (tCons ta tNil)) σ H (.int s.length) := fun H1 e1 Q q =>
  ha H1 e1 _ fun H2 e2 => ⟨s, rfl, sz_of h, q H2 e2⟩
theorem sc_is_name : FnScope ["thing", "sign"] ["thing"] (defScope s_is_name) := ⟨rfl, rfl, rfl, by decide +kernel, rfl, by decide +kernel, by decide +kernel⟩
theorem ok_is_name (T : Txt K w mg CL CZ CT NO MA) (F : FunD K "is_name" "is_name" (defArgs s_is_name) (defBody s_is_name) (defScope s_is_name) [] [] f fd) : FnOk P w K mg base CX0 1 f fd ["thing"] spName := by
  refine F.ok sc_is_name (fun vs H Q E h => ?_) (fun cdv A outer s H vs Q E hr h => ?_)
  · obtain ⟨d, ⟨rfl, _⟩, _⟩ := h
    rfl
  obtain ⟨nm, ⟨rfl, g⟩, k⟩ := h
  obtain ⟨t0, g_SMALL⟩ := T.small
  refine ⟨_, PSs.nox (pss_one (ps_ret (pe_and (pe_callB call_isi (by rfl) T.f_isinstance (by decide +kernel) (pa_cons (pv 0) (pa_cons (pe_ty (n := "str") (by rfl) T.f_str (by decide +kernel)) pa_nil))) (pe_and (pe_chain op_le op_le pe_int (pe_callB call_len_str (by rfl) T.f_len (by decide +kernel) (pa_cons (pv 0) pa_nil)) pe_int) (pe_one (pe_callB (cr_all rfl) (by rfl) T.f_all (by decide +kernel) (pa_cons (pe_lc (own := [("sign", 1)]) (g := gName 1) (tt := tYes) rfl sc_is_name.nd (pi_str (pv 0)) (blkOk_by (own := [("sign", 1)]) (N := ["thing", "sign"]) (sc := defScope s_is_name) (by decide +kernel)) (fun _ _ _ _ _ => (pg_name (i := 1) sc_is_name.nd rfl (Or.inl rfl))) (fun _ _ _ _ _ => pts_nil) (fun _ _ _ _ _ => (pe_cmpR op_in_sign (pv 1) (pe_gstr rfl g_SMALL) rfl))) pa_nil))))))), ?_⟩
  have g1 := g.n1
  have g8 := g.n8
  refine s_ret (ev_andV (a := true) (b := true) (ev_isi (ev_var rfl) (fun _ _ => .base (.str nm)) (.ty "str") (kit_ty (by decide +kernel))) fun _ => ev_andV (a := true) (b := true) (ev_chain ev_c (ev_lenS (ev_var rfl) (by omega)) (rv_b (decide_eq_true (show (1 : Int) ≤ (nm.length : Int) by omega))) ev_c (rv_b (decide_eq_true (show (nm.length : Int) ≤ 8 by omega)))) fun _ =>
    ev_allN (n := nm.cps.size) (en_lcS (R := fun _ v _ => v = .bl true) (fun _ => eq_mon) (fun _ => eq_monL) (ev_var rfl) (by have := g.sz; omega) (fun _ => rfl) fun i c H1 e1 hc => ?_)) fun H1 e1 => k _ H1 e1 rfl
  refine er_of (ev_op (ev_var rfl) ev_c fun H2 e2 Q2 q2 => ⟨c, SMALLS, rfl, rfl, ?_⟩) fun _ _ => rfl
  rw [decide_eq_true (g.al i c hc)]
  exact q2 H2 (Ex.refl H2)
/-! ### are_corners -/
def ACs (K : PySem.W.Frag) : List (Rat × Rat) → List V → Hp → Prop := fun cs vs H => ∃ l, vs = [.ref l] ∧ CsAt K H l cs ∧ CsOk cs
abbrev spCorners (K : PySem.W.Frag) : Sp := spI (ACs K) fun _ v _ => v = .bl true
theorem isc_ty {H : Hp} {v : V} {c : Rat × Rat} (h : IsC K c v H) : ∃ p xs, v = .ref p ∧ SqT K H p xs ∧ xs.length = 2 := by
  obtain ⟨p, a, b, hv, h1, _⟩ := h
  exact ⟨p, _, hv, h1, rfl⟩
theorem ev_lenT {σ : L2.St} {H : Hp} {ta : TE} {p : Addr} {xs : List V} (ha : Ev ta σ H (.ref p)) (h : SqT K H p xs) : Ev (tCB (rLenS K) (tCons ta tNil)) σ H (.int (xs.length : Int)) := fun H1 e1 Q q =>
  ha H1 e1 _ fun H2 e2 => ⟨p, xs, rfl, .inr (ex_t (e1.trans e2) h), q H2 e2⟩
theorem sc_are_corners : FnScope ["thing", "corner", "one", "other"] ["thing"] (defScope s_are_corners) := ⟨rfl, rfl, rfl, by decide +kernel, rfl, by decide +kernel, by decide +kernel⟩
theorem ok_are_corners (T : Txt K w mg CL CZ CT NO MA) (h_is_worth : Fn P w K mg base 2 "is_worth" ["thing"] (spIsWorth K)) (h_is_less : Fn P w K mg base 1 "is_less" ["one", "other"] (spB2 K Any2 fun q r => decide (q < r)))
    (F : FunD K "are_corners" "are_corners" (defArgs s_are_corners) (defBody s_are_corners) (defScope s_are_corners) [] [] f fd) : FnOk P w K mg base CX0 3 f fd ["thing"] (spCorners K) := by
  refine F.ok sc_are_corners (fun vs H Q E h => ?_) (fun cdv A outer s H vs Q E hr h => ?_)
  · obtain ⟨d, ⟨_, rfl, _⟩, _⟩ := h
    rfl
  obtain ⟨cs, ⟨l, rfl, hl, ok⟩, k⟩ := h
  obtain ⟨t0, g_MOST_CORNERS⟩ := T.corners
  refine ⟨_, PSs.nox (pss_cons (ps_if (PW.pt (pw_or (pt_not (pt_val (pe_callB call_isi (by rfl) T.f_isinstance (by decide +kernel) (pa_cons (pv 0) (pa_cons (pe_ty (n := "list") (by rfl) T.f_list (by decide +kernel)) pa_nil))))) (pw_or1 (pt_not (pt_chain op_le op_le pe_int (pe_callB call_len_seq (by rfl) T.f_len (by decide +kernel) (pa_cons (pv 0) pa_nil)) (pe_gint rfl g_MOST_CORNERS)))))) (pss_one (ps_ret pe_bl)) pss_nil)
    (pss_cons (ps_for PassesOwn.never rfl (pi_list (pv 0)) (pg_name (i := 1) sc_are_corners.nd rfl (Or.inl rfl))
    (pss_one (ps_if (PW.pt (pw_or (pt_not (pt_val (pe_callB call_isi (by rfl) T.f_isinstance (by decide +kernel) (pa_cons (pv 1) (pa_cons (pe_ty (n := "tuple") (by rfl) T.f_tuple (by decide +kernel)) pa_nil))))) (pw_or (pt_cmpR op_ne (pe_callB call_len_seq (by rfl) T.f_len (by decide +kernel) (pa_cons (pv 1) pa_nil)) pe_int (nomark _)) (pw_or (pt_not (pt_val (pe_fn h_is_worth (hr.mono (by decide)) rfl (pa_cons (pe_ix ix_tup (pv 1) pe_int (fun _ _ => rfl)) pa_nil)))) (pw_or1 (pt_not (pt_val (pe_fn h_is_worth (hr.mono (by decide)) rfl (pa_cons (pe_ix ix_tup (pv 1) pe_int (fun _ _ => rfl)) pa_nil))))))))) (pss_one (ps_ret pe_bl)) pss_nil)))
    (pss_one (ps_ret (pe_callB (cr_all rfl) (by rfl) T.f_all (by decide +kernel) (pa_cons (pe_lc (own := [("one", 2), ("other", 3)]) (g := gTup _ 2 (gCons (gName 2) (gCons (gName 3) gNil))) (tt := tYes) rfl sc_are_corners.nd (pi_zip rfl T.f_zip (pa_cons (pv 0) (pa_cons (pe_slice sl_list (pv 0) (po_some pe_int) po_none) pa_nil))) (blkOk_by (own := [("one", 2), ("other", 3)]) (N := ["thing", "corner", "one", "other"]) (sc := defScope s_are_corners) (by decide +kernel)) (fun _ _ _ _ _ => (pg_tup rfl (pgs_cons (pg_name (i := 2) sc_are_corners.nd rfl (Or.inl rfl)) (pgs_cons (pg_name (i := 3) sc_are_corners.nd rfl (Or.inl rfl)) pgs_nil)))) (fun _ _ _ _ _ => pts_nil) (fun _ _ _ _ _ => (pe_fn h_is_less (hr.mono (by decide)) rfl (pa_cons (pe_ix (ix_tupB (K := K)) (pv 2) pe_int (fun _ _ => rfl)) (pa_cons (pe_ix (ix_tupB (K := K)) (pv 3) pe_int (fun _ _ => rfl)) pa_nil))))) pa_nil)))))), ?_⟩
  obtain ⟨us, u1, u2, u3⟩ := id hl
  have n2 := ok.n2
  have n12 := ok.n12
  refine q_when (b := false) (et_is (et_or (a := !true) (et_not (et_B (b := true) (ev_isi (ev_var rfl) (ty_lst u1) (.ty "list") (kit_ty (by decide +kernel))))) fun _ => et_not (et_test (b := true) (ev_chain ev_c (ev_lenC (ev_var rfl) hl) (rv_b (decide_eq_true (show (2 : Int) ≤ (cs.length : Int) by omega))) ev_c (rv_b (decide_eq_true (show (cs.length : Int) ≤ 12 by omega)))))) rfl) (fun h => by cases h) fun _ H1 e1 => ?_
  refine q_forLn (K := K) (a := l) (xs := us) (ev_var rfl) (sq_of (e1 _ _ u1)) (fun i σ' H' => ∃ z, σ' = [some (.ref l), z, none, none] ∧ Ex H H') (fun H2 e2 => ⟨none, rfl, e1.trans e2⟩) (fun i σ' H' _ ⟨_, _, e⟩ => sq_of (e _ _ u1)) ?_ ?_
  · rintro i x σ' H' hx ⟨z, rfl, e⟩
    have hc := isc_mon _ _ _ e (u3 i x hx)
    obtain ⟨p, xs, rfl, hp, h2⟩ := isc_ty hc
    have hi : i < cs.length := by
      have := (List.getElem?_eq_some_iff.mp hx).1
      omega
    refine s_when (b := false) (et_is (et_or (a := !true) (et_not (et_B (b := true) (ev_isi (ev_var rfl) (fun H1 e1 => wat_ty (ex_t e1 hp)) (.ty "tuple") (kit_ty (by decide +kernel))))) fun _ => et_or (a := false) (et_test (ev_is (ev_op (ev_lenT (ev_var rfl) hp) ev_c (rv_ne rfl)) (w := .bl false) (by rw [h2]; rfl))) fun _ =>
      et_or (a := !true) (et_not (et_B (ev_isw (ew_cx (er_c rfl hc))))) fun _ => et_not (et_B (ev_isw (ew_cy (er_c rfl hc))))) rfl) (fun h => by cases h) fun _ H2 e2 => ⟨_, rfl, e.trans e2⟩
  · rintro σ' H' ⟨z, rfl, e⟩
    have hd : EvL (tSl (rSlL K) (tVar 0) (tPart (tC (.int 1))) tNoPart) [some (.ref l), z, none, none] H' (us.drop 1) := by
      have s1 := el_sl (K := K) (lo := some 1) (hi := none) (ev_var rfl : Ev (tVar 0) [some (.ref l), z, none, none] H' (.ref l)) (eo_some ev_c) eo_none (sq_of (e _ _ u1))
      rw [cut_from1] at s1
      exact s1
    refine s_ret (ev_allN (n := (us.drop 1).length) (en_lcZN (K := K) (R := fun _ v _ => v = .bl true) (fun _ => eq_mon) (fun _ => eq_monL) (ev_var rfl) (sq_of (e _ _ u1)) hd (by rw [List.length_drop]; omega) (by omega) (fun _ _ => rfl) fun i x y H4 e4 hx hy => ?_)) fun H4 e4 => k _ H4 (e.trans e4) rfl
    rw [List.getElem?_drop] at hy
    have h1 := isc_mon _ _ _ (e.trans e4) (u3 i x hx)
    have h2 := isc_mon _ _ _ (e.trans e4) (u3 (1 + i) y hy)
    have hi : 1 + i < cs.length := by
      have := (List.getElem?_eq_some_iff.mp hy).1
      omega
    have e1i : 1 + i = i + 1 := Nat.add_comm 1 i
    rw [e1i] at h2 hi
    exact er_of (ev_bT (ev_b2 (ew_cx (er_c rfl h1)) (ew_cx (er_c rfl h2)) (ok.sx (by omega)) (ok.sx hi) trivial) (decide_eq_true (ok.lt i hi))) fun _ _ => rfl
/-! ### between -/
def ABent (K : PySem.W.Frag) : List (Rat × Rat) × Rat → List V → Hp → Prop := fun d vs H => ∃ l c M B, vs = [.ref l, .ref c] ∧ CsAt K H l d.1 ∧ CsOk d.1 ∧ WAt K H c d.2 ∧ Tame d.2 M B
abbrev spBent (K : PySem.W.Frag) : Sp := spI (ABent K) fun d => IsW K (bent d.1 d.2)
theorem abent_len {x y : Str} {R : List (Rat × Rat) × Rat → V → Hp → Prop} : ∀ vs H Q E, spI (ABent K) R vs H Q E → vs.length = ([x, y] : List Str).length := fun vs H Q E ⟨_, ⟨_, _, _, _, e, _⟩, _⟩ => by
  rw [e] <;> rfl
theorem sc_between : FnScope ["corners", "thing", "at", "one", "other", "share"] ["corners", "thing"] (defScope s_between) := ⟨rfl, rfl, rfl, by decide +kernel, rfl, by decide +kernel, by decide +kernel⟩
theorem ok_between (T : Txt K w mg CL CZ CT NO MA) (h_plus : Fn P w K mg base 3 "plus" ["one", "other"] (spW2 K Any2 (· + ·))) (h_minus : Fn P w K mg base 3 "minus" ["one", "other"] (spW2 K Any2 (· - ·)))
    (h_times : Fn P w K mg base 3 "times" ["one", "other"] (spW2 K Any2 (· * ·))) (h_over : Fn P w K mg base 3 "over" ["one", "other"] (spW2 K Pos2 (· / ·))) (h_is_less : Fn P w K mg base 1 "is_less" ["one", "other"] (spB2 K Any2 fun q r => decide (q < r)))
    (F : FunD K "between" "between" (defArgs s_between) (defBody s_between) (defScope s_between) [] [] f fd) : FnOk P w K mg base CX0 4 f fd ["corners", "thing"] (spBent K) := by
  refine F.ok sc_between abent_len (fun cdv A outer s H vs Q E hr h => ?_)
  obtain ⟨⟨cs, t⟩, ⟨l, c, M, B, rfl, hl, ok, hc, tm⟩, k⟩ := h
  refine ⟨_, PSs.nox (pss_cons (ps_set (i := 2) sc_between.nd rfl (Or.inl rfl) pe_int)
    (pss_cons (ps_while PassesOwn.never (PW.pt (pw_and (pt_cmpR op_lt (pv 2) (pe_op op_sub (pe_callB call_len_seq (by rfl) T.f_len (by decide +kernel) (pa_cons (pv 0) pa_nil)) pe_int) (nomark _)) (pw_and1 (pt_not (pt_val (pe_fn h_is_less (hr.mono (by decide)) rfl (pa_cons (pv 1) (pa_cons (pe_ix ix_tup (pe_ix ix_list (pv 0) (pe_op op_add (pv 2) pe_int) (fun _ _ => rfl)) pe_int (fun _ _ => rfl)) pa_nil)))))))) (pss_one (ps_set (i := 2) sc_between.nd rfl (Or.inl rfl) (pe_op op_add (pv 2) pe_int))))
    (pss_cons (ps_par (i := 3) (j := 4) rfl sc_between.nd rfl rfl (by decide) rfl rfl (pa_cons (pe_ix ix_list (pv 0) (pv 2) (fun _ _ => rfl)) (pa_cons (pe_ix ix_list (pv 0) (pe_op op_add (pv 2) pe_int) (fun _ _ => rfl)) pa_nil)) rfl)
    (pss_cons (ps_set (i := 5) sc_between.nd rfl (Or.inl rfl) (pe_fn h_over (hr.mono (by decide)) rfl (pa_cons (pe_fn h_minus (hr.mono (by decide)) rfl (pa_cons (pv 1) (pa_cons (pe_ix ix_tup (pv 3) pe_int (fun _ _ => rfl)) pa_nil))) (pa_cons (pe_fn h_minus (hr.mono (by decide)) rfl (pa_cons (pe_ix ix_tup (pv 4) pe_int (fun _ _ => rfl)) (pa_cons (pe_ix ix_tup (pv 3) pe_int (fun _ _ => rfl)) pa_nil))) pa_nil))))
    (pss_one (ps_ret (pe_fn h_plus (hr.mono (by decide)) rfl (pa_cons (pe_ix ix_tup (pv 3) pe_int (fun _ _ => rfl)) (pa_cons (pe_fn h_times (hr.mono (by decide)) rfl (pa_cons (pv 5) (pa_cons (pe_fn h_minus (hr.mono (by decide)) rfl (pa_cons (pe_ix ix_tup (pv 4) pe_int (fun _ _ => rfl)) (pa_cons (pe_ix ix_tup (pv 3) pe_int (fun _ _ => rfl)) pa_nil))) pa_nil))) pa_nil))))))))), ?_⟩
  have ok : CsOk cs := ok
  have tm : Tame t M B := tm
  have n2 := ok.n2
  refine q_asg ev_c fun H1 e1 => ?_
  refine q_while (fun m σ' H' => ∃ at_ : Nat, σ' = [some (.ref l), some (.ref c), some (.int (at_ : Nat)), none, none, none] ∧ at_ + m = cs.length ∧ at_ + 1 < cs.length ∧ segF cs t m at_ = seg cs t ∧ Ex H H') cs.length ⟨0, rfl, by omega, by omega, rfl, e1⟩ ?_
  rintro m σ' H' ⟨at_, rfl, hm, h1, hs, e⟩
  have htest : EvT (tAnd (tTest (tOp (rI0 fun i j => .bl (decide (i < j))) (tVar 2) (tOp (rI0 fun i j => .int (i - j)) (tCB (rLenS K) (tCons (tVar 0) tNil)) (tC (.int 2))))) (tNot (tB (tCall (spB2 K Any2 fun q r => decide (q < r)) [] E0 (tCons (tVar 1) (tCons (tOp (rIxT K) (tOp (rIxL K) (tVar 0) (tOp (rI0 fun i j => .int (i + j)) (tVar 2) (tC (.int 1)))) (tC (.int 0))) tNil))))))
      [some (.ref l), some (.ref c), some (.int (at_ : Nat)), none, none, none] H' (decide (at_ + 2 < cs.length ∧ ¬ t < cx cs (at_ + 1))) := by
    refine et_is (et_and (et_test (ev_op (ev_var rfl) (ev_op (ev_lenC (ev_var rfl) (hl.mono e)) ev_c rv_I0) rv_I0)) fun hlt => et_not (et_B (ev_b2 (ew_var rfl (hc.mono e)) (ew_cx (er_ixC (z := at_ + 1) (ev_var rfl) (hl.mono e) (ev_is (ev_op (ev_var rfl) ev_c rv_I0) (by simp)) h1)) tm.s (ok.sx h1) trivial))) ?_
    have a1 : decide ((at_ : Int) < (cs.length : Int) - 2) = decide (at_ + 2 < cs.length) := decide_eq_decide.mpr (by omega)
    rw [a1, Bool.decide_and, decide_not]
    rfl
  refine ⟨_, htest, fun hb H2 e2 => ?_, fun hb H2 e2 => ?_⟩
  · have hb := of_decide_eq_true hb
    obtain ⟨m', rfl⟩ : ∃ m', m = m' + 1 := ⟨m - 1, by omega⟩
    refine ⟨fun σ2 H3 => ∃ m2, m2 < m' + 1 ∧ ∃ at_ : Nat, σ2 = [some (.ref l), some (.ref c), some (.int (at_ : Nat)), none, none, none] ∧ at_ + m2 = cs.length ∧ at_ + 1 < cs.length ∧ segF cs t m2 at_ = seg cs t ∧ Ex H H3, fun σ2 H3 h => h, ?_⟩
    refine s_asg (v := .int ((at_ + 1 : Nat) : Int)) (ev_is (ev_op (ev_var rfl) ev_c rv_I0) (by simp)) fun H3 e3 => ⟨m', by omega, at_ + 1, rfl, by omega, by omega, ?_, (e.trans e2).trans e3⟩
    rw [← hs, segF_go hb]
  · have hb := of_decide_eq_false hb
    have es : seg cs t = at_ := by rw [← hs, segF_stop hb]
    have e2' := e.trans e2
    have ix0 : EvR (tOp (rIxL K) (tVar 0) (tVar 2)) [some (.ref l), some (.ref c), some (.int (at_ : Nat)), none, none, none] H2 (IsC K (cs.getD at_ (0, 0))) := er_ixC (z := at_) (ev_var rfl) (hl.mono e2') (ev_var rfl) (show at_ < cs.length by omega)
    have ix1 : EvR (tOp (rIxL K) (tVar 0) (tOp (rI0 fun i j => .int (i + j)) (tVar 2) (tC (.int 1)))) [some (.ref l), some (.ref c), some (.int (at_ : Nat)), none, none, none] H2 (IsC K (cs.getD (at_ + 1) (0, 0))) := er_ixC (z := at_ + 1) (ev_var rfl) (hl.mono e2') (ev_is (ev_op (ev_var rfl) ev_c rv_I0) (by simp)) h1
    refine ix0 H2 (Ex.refl H2) _ fun v1 H3 e3 c1 => ix1 H3 e3 _ fun v2 H4 e4 c2 => ⟨v1, v2, rfl, ?_⟩
    have c1 : IsC K (cs.getD at_ (0, 0)) v1 H4 := isc_mon _ _ _ e4 c1
    have e24 := e2'.trans (e3.trans e4)
    refine q_asgW (q := (t - cx cs at_) / (cx cs (at_ + 1) - cx cs at_)) (ew_2 (ew_2 (ew_var rfl (hc.mono e24)) (ew_cx (er_c rfl c1)) tm.s (ok.sx (by omega)) trivial) (ew_2 (ew_cx (er_c rfl c2)) (ew_cx (er_c rfl c1)) (ok.sx h1) (ok.sx (by omega)) trivial)
      (bent_s1 tm ok (by omega)) (ok.sg h1) (ok.gap at_ h1).pos) fun a H5 e5 wa => ?_
    have c1 := isc_mon _ _ _ e5 c1
    have c2 : IsC K (cs.getD (at_ + 1) (0, 0)) v2 H5 := isc_mon _ _ _ e5 c2
    refine s_retR (ew_2 (ew_cy (er_c rfl c1)) (ew_2 (ew_var rfl wa) (ew_2 (ew_cy (er_c rfl c2)) (ew_cy (er_c rfl c1)) (ok.sy h1) (ok.sy (by omega)) trivial) (bent_s2 tm ok h1) (ok.sdy h1) trivial) (ok.sy (by omega)) (bent_s3 tm ok h1) trivial) fun v H6 e6 hv => k v H6 ((e24.trans e5).trans e6) ?_
    show IsW K (bent cs t) v H6
    unfold bent
    rw [es]
    exact hv
end
end Tb

/-! ## TbTab2 -/
set_option Elab.async false
set_option linter.all false
set_option maxRecDepth 100000
set_option maxHeartbeats 4000000
namespace Tb
open PySem PySem.Spec PyProof.Rows L2 Evl
/-! ### what makes a column, as it stands -/
def nmAt (nm : List Str) (a : Nat) : Str := nm.getD a Str.empty
def isTup : Made → Bool
  | .base _ => false
  | _ => true
def isBy : Made → Bool
  | .by_ _ _ => true
  | _ => false
def MadeAt (K : PySem.W.Frag) (CL CZ : Addr) (nm : List Str) (H : Hp) (v : V) (fp : List Addr) : Made → Prop
  | .base g => (∃ p L, v = .ref p ∧ LineAt K CL H p L ∧ LineOk L ∧ g = L.val ∧ fp = []) ∨ (∃ p Z lb ls lm, v = .ref p ∧ ZoneAt K CZ H p Z lb ls lm ∧ ZoneOk Z ∧ g = Z.val ∧ fp = [lb, ls, lm])
  | .sum a b => ∃ p, v = .ref p ∧ fp = [] ∧ SqT K H p [.str "sum", .str (nmAt nm a), .str (nmAt nm b)]
  | .less a b => ∃ p, v = .ref p ∧ fp = [] ∧ SqT K H p [.str "less", .str (nmAt nm a), .str (nmAt nm b)]
  | .times a q => ∃ p c, v = .ref p ∧ fp = [] ∧ SqT K H p [.str "times", .str (nmAt nm a), .ref c] ∧ WAt K H c q
  | .along a q => ∃ p c, v = .ref p ∧ fp = [] ∧ SqT K H p [.str "along", .str (nmAt nm a), .ref c] ∧ WAt K H c q
  | .by_ a cs => ∃ p l, v = .ref p ∧ fp = [l] ∧ SqT K H p [.str "by", .str (nmAt nm a), .ref l] ∧ CsAt K H l cs ∧ CsOk cs
section
variable {K : PySem.W.Frag} {CL CZ CT : Addr} {nm : List Str} {σ : L2.St} {H H' : Hp} {ta tb te : TE} {v : V} {fp : List Addr} {m : Made} {p l : Addr}
theorem MadeAt.mono (h : MadeAt K CL CZ nm H v fp m) (e : Ex H H') : MadeAt K CL CZ nm H' v fp m := by
  cases m with
  | base g =>
    rcases h with ⟨p, L, h1, h2, h3⟩ | ⟨p, Z, lb, ls, lm, h1, h2, h3⟩
    · exact .inl ⟨p, L, h1, h2.mono e, h3⟩
    · exact .inr ⟨p, Z, lb, ls, lm, h1, h2.mono e, h3⟩
  | sum a b =>
    obtain ⟨p, h1, h2, h3⟩ := h
    exact ⟨p, h1, h2, ex_t e h3⟩
  | less a b =>
    obtain ⟨p, h1, h2, h3⟩ := h
    exact ⟨p, h1, h2, ex_t e h3⟩
  | times a q =>
    obtain ⟨p, c, h1, h2, h3, h4⟩ := h
    exact ⟨p, c, h1, h2, ex_t e h3, h4.mono e⟩
  | along a q =>
    obtain ⟨p, c, h1, h2, h3, h4⟩ := h
    exact ⟨p, c, h1, h2, ex_t e h3, h4.mono e⟩
  | by_ a cs =>
    obtain ⟨p, l, h1, h2, h3, h4, h5⟩ := h
    exact ⟨p, l, h1, h2, ex_t e h3, h4.mono e, h5⟩
/-- what may change and leave such things as they are: no tuple, no known thing, no instance with fields -/
structure Odd (o : HO) : Prop where
  t : ∀ xs, o ≠ .tup xs
  f : ∀ a u, o ≠ .frz a u
  i : ∀ C dx x fs, o ≠ .ins C dx (x :: fs)
theorem odd_lst {xs : List V} : Odd (.lst xs) := ⟨fun _ h => (by cases h), fun _ _ h => (by cases h), fun _ _ _ _ h => (by cases h)⟩
theorem odd_dK {xs : List (Key × V)} : Odd (.dK xs) := ⟨fun _ h => (by cases h), fun _ _ h => (by cases h), fun _ _ _ _ h => (by cases h)⟩
theorem odd_ins {C dx : Addr} : Odd (.ins C dx []) := ⟨fun _ h => (by cases h), fun _ _ h => (by cases h), fun _ _ _ _ h => (by cases h)⟩
theorem Ek.tupG {a : Addr} {xs : List V} {o : HO} (e : Ek p H H') (hp : H p = some o) (od : Odd o) (h : SqT K H a xs) : SqT K H' a xs := by
  rcases h with (h | ⟨u, h⟩) | h
  · exact .inl (.inl (e _ _ h (fun z => by subst z; rw [hp] at h; exact od.t _ (Option.some.inj h))))
  · exact .inl (.inr ⟨u, e _ _ h (fun z => by subst z; rw [hp] at h; exact od.f _ _ (Option.some.inj h))⟩)
  · exact .inr h
theorem Ek.watG {a : Addr} {q : Rat} {o : HO} (e : Ek p H H') (hp : H p = some o) (od : Odd o) (h : WAt K H a q) : WAt K H' a q := e.tupG hp od h
theorem Ek.insG {a C : Addr} {x : Str × V} {fs : List (Str × V)} {o : HO} (e : Ek p H H') (hp : H p = some o) (od : Odd o) (h : Ins H a C (x :: fs)) : Ins H' a C (x :: fs) := by
  obtain ⟨dx, h⟩ := h
  exact ⟨dx, e _ _ h (fun z => by subst z; rw [hp] at h; exact od.i _ _ _ _ (Option.some.inj h))⟩
theorem LW.ekg {qs : List Rat} {o : HO} (h : LW K H l qs) (hp : H p = some o) (od : Odd o) (n : l ≠ p) (e : Ek p H H') : LW K H' l qs := by
  obtain ⟨vs, h1, h2, h3⟩ := h
  refine ⟨vs, e _ _ h1 n, h2, fun i x hx => ?_⟩
  obtain ⟨a, h4, h5⟩ := h3 i x hx
  exact ⟨a, h4, e.watG hp od h5⟩
theorem CsAt.ekg {cs : List (Rat × Rat)} {o : HO} (h : CsAt K H l cs) (hp : H p = some o) (od : Odd o) (n : l ≠ p) (e : Ek p H H') : CsAt K H' l cs := by
  obtain ⟨vs, h1, h2, h3⟩ := h
  refine ⟨vs, e _ _ h1 n, h2, fun i x hx => ?_⟩
  obtain ⟨q, a, b, h4, h5, h6, h7⟩ := h3 i x hx
  exact ⟨q, a, b, h4, e.tupG hp od h5, e.watG hp od h6, e.watG hp od h7⟩
theorem MadeAt.ekg {o : HO} (h : MadeAt K CL CZ nm H v fp m) (hp : H p = some o) (od : Odd o) (n : p ∉ fp) (e : Ek p H H') : MadeAt K CL CZ nm H' v fp m := by
  cases m with
  | base g =>
    rcases h with ⟨q, L, h1, h2, h3⟩ | ⟨q, Z, lb, ls, lm, h1, h2, h3, h4, h5⟩
    · obtain ⟨l, h, s, t, b, g0, g1, g2, g3, g4, g5⟩ := h2.ex
      exact .inl ⟨q, L, h1, ⟨l, h, s, t, b, e.insG hp od g0, e.watG hp od g1, e.watG hp od g2, e.watG hp od g3, e.watG hp od g4, e.watG hp od g5⟩, h3⟩
    · obtain ⟨r, g, g0, g1, g2, g3, g4, g5⟩ := h2.ex
      subst h5
      have n1 : lb ≠ p := fun z => n (by rw [z]; simp)
      have n2 : ls ≠ p := fun z => n (by rw [z]; simp)
      have n3 : lm ≠ p := fun z => n (by rw [z]; simp)
      exact .inr ⟨q, Z, lb, ls, lm, h1, ⟨r, g, e.insG hp od g0, e.watG hp od g1, g2.ekg hp od n1 e, g3.ekg hp od n2 e, g4.ekg hp od n3 e, e.watG hp od g5⟩, h3, h4, rfl⟩
  | sum a b =>
    obtain ⟨p, h1, h2, h3⟩ := h
    exact ⟨p, h1, h2, e.tupG hp od h3⟩
  | less a b =>
    obtain ⟨p, h1, h2, h3⟩ := h
    exact ⟨p, h1, h2, e.tupG hp od h3⟩
  | times a q =>
    obtain ⟨p, c, h1, h2, h3, h4⟩ := h
    exact ⟨p, c, h1, h2, e.tupG hp od h3, e.watG hp od h4⟩
  | along a q =>
    obtain ⟨p, c, h1, h2, h3, h4⟩ := h
    exact ⟨p, c, h1, h2, e.tupG hp od h3, e.watG hp od h4⟩
  | by_ a cs =>
    obtain ⟨q, l, h1, h2, h3, h4, h5⟩ := h
    have n1 : l ≠ p := fun z => n (by rw [h2, z]; simp)
    exact ⟨q, l, h1, h2, e.tupG hp od h3, h4.ekg hp od n1 e, h5⟩
/-- its own lists stand -/
theorem MadeAt.fpl (h : MadeAt K CL CZ nm H v fp m) : ∀ l ∈ fp, ∃ ys, H l = some (.lst ys) := by
  cases m with
  | base g =>
    rcases h with ⟨q, L, h1, h2, h3, h4, h5⟩ | ⟨q, Z, lb, ls, lm, h1, h2, h3, h4, h5⟩
    · subst h5
      intro l hl
      cases hl
    · obtain ⟨r, g, g0, g1, ⟨x2, g2, _⟩, ⟨x3, g3, _⟩, ⟨x4, g4, _⟩, g5⟩ := h2.ex
      subst h5
      intro l hl
      simp only [List.mem_cons, List.not_mem_nil, or_false] at hl
      rcases hl with rfl | rfl | rfl
      · exact ⟨_, g2⟩
      · exact ⟨_, g3⟩
      · exact ⟨_, g4⟩
  | sum a b =>
    obtain ⟨p, h1, rfl, h3⟩ := h
    intro l hl
    cases hl
  | less a b =>
    obtain ⟨p, h1, rfl, h3⟩ := h
    intro l hl
    cases hl
  | times a q =>
    obtain ⟨p, c, h1, rfl, h3, h4⟩ := h
    intro l hl
    cases hl
  | along a q =>
    obtain ⟨p, c, h1, rfl, h3, h4⟩ := h
    intro l hl
    cases hl
  | by_ a cs =>
    obtain ⟨q, l, h1, rfl, h3, ⟨x, h4, _⟩, h5⟩ := h
    intro l' hl
    simp only [List.mem_cons, List.not_mem_nil, or_false] at hl
    subst hl
    exact ⟨_, h4⟩
theorem MadeAt.nin {o : HO} (h : MadeAt K CL CZ nm H v fp m) (hp : H p = some o) (n : ∀ ys, o ≠ .lst ys) : p ∉ fp := fun hm => by
  obtain ⟨ys, hy⟩ := h.fpl p hm
  rw [hp] at hy
  exact n ys (Option.some.inj hy)
theorem MadeAt.nin0 (h : MadeAt K CL CZ nm H v fp m) (hp : H p = none) : p ∉ fp := fun hm => by
  obtain ⟨ys, hy⟩ := h.fpl p hm
  rw [hp] at hy
  cases hy
/-- names that say the same -/
theorem MadeAt.names {nm2 : List Str} (h : MadeAt K CL CZ nm H v fp m) (e : ∀ a ∈ refs m, nmAt nm a = nmAt nm2 a) : MadeAt K CL CZ nm2 H v fp m := by
  cases m with
  | base g => exact h
  | sum a b =>
    have e1 := e a (by simp [refs])
    have e2 := e b (by simp [refs])
    obtain ⟨p, h1, h2, h3⟩ := h
    rw [e1, e2] at h3
    exact ⟨p, h1, h2, h3⟩
  | less a b =>
    have e1 := e a (by simp [refs])
    have e2 := e b (by simp [refs])
    obtain ⟨p, h1, h2, h3⟩ := h
    rw [e1, e2] at h3
    exact ⟨p, h1, h2, h3⟩
  | times a q =>
    have e1 := e a (by simp [refs])
    obtain ⟨p, c, h1, h2, h3, h4⟩ := h
    rw [e1] at h3
    exact ⟨p, c, h1, h2, h3, h4⟩
  | along a q =>
    have e1 := e a (by simp [refs])
    obtain ⟨p, c, h1, h2, h3, h4⟩ := h
    rw [e1] at h3
    exact ⟨p, c, h1, h2, h3, h4⟩
  | by_ a cs =>
    have e1 := e a (by simp [refs])
    obtain ⟨p, c, h1, h2, h3, h4⟩ := h
    rw [e1] at h3
    exact ⟨p, c, h1, h2, h3, h4⟩
/-! ### tests of its kind -/
theorem k_sl : kitB "str" "list" = some false := by decide +kernel
theorem k_tl : kitB "tuple" "list" = some false := by decide +kernel
theorem k_ll : kitB "list" "list" = some true := by decide +kernel
theorem k_tt : kitB "tuple" "tuple" = some true := by decide +kernel
def word : Made → Str
  | .base _ => ""
  | .sum _ _ => "sum"
  | .less _ _ => "less"
  | .times _ _ => "times"
  | .along _ _ => "along"
  | .by_ _ _ => "by"
def ref1 : Made → Nat
  | .base _ => 0
  | .sum a _ => a
  | .less a _ => a
  | .times a _ => a
  | .along a _ => a
  | .by_ a _ => a
/-- a tuple of three: the word, the first name, and the third thing by its type -/
theorem MadeAt.three (h : MadeAt K CL CZ nm H v fp m) (ht : isTup m = true) : ∃ p z, v = .ref p ∧ SqT K H p [.str (word m), .str (nmAt nm (ref1 m)), z] ∧ ∀ H1, Ex H H1 → ∃ t, TyX K H1 z t ∧ PySem.W.kitOne K t (.type "list") = some (isBy m) := by
  cases m with
  | base g => cases ht
  | sum a b =>
    obtain ⟨p, h1, h2, h3⟩ := h
    exact ⟨p, _, h1, h3, fun H1 e => ⟨_, .base (.str _), kit_ty k_sl⟩⟩
  | less a b =>
    obtain ⟨p, h1, h2, h3⟩ := h
    exact ⟨p, _, h1, h3, fun H1 e => ⟨_, .base (.str _), kit_ty k_sl⟩⟩
  | times a q =>
    obtain ⟨p, c, h1, h2, h3, h4⟩ := h
    exact ⟨p, _, h1, h3, fun H1 e => ⟨_, wat_ty (ex_t e h4), kit_ty k_tl⟩⟩
  | along a q =>
    obtain ⟨p, c, h1, h2, h3, h4⟩ := h
    exact ⟨p, _, h1, h3, fun H1 e => ⟨_, wat_ty (ex_t e h4), kit_ty k_tl⟩⟩
  | by_ a cs =>
    obtain ⟨p, l, h1, h2, h3, ⟨us, h4, _⟩, h5⟩ := h
    exact ⟨p, _, h1, h3, fun H1 e => ⟨_, .base (.lst (e _ _ h4)), kit_ty k_ll⟩⟩
theorem ev_isiT {t u : Value} {cv : V} {b : Bool} (h : Ev te σ H v) (c : ClsV cv u) (ty : ∀ H1, Ex H H1 → ∃ t, TyX K H1 v t ∧ PySem.W.kitOne K t u = some b) : Ev (tCB (rIsi K) (tCons te (tCons (tC cv) tNil))) σ H (.bl b) := fun H1 e1 Q k =>
  h H1 e1 _ fun H2 e2 => by
    obtain ⟨t, h1, h2⟩ := ty H2 (e1.trans e2)
    exact ⟨v, cv, t, u, b, rfl, c, h1, h2, k H2 e2⟩
variable {w : World} {mg : Str → Option Value} {NO MA : Addr}
theorem MadeAt.ty (T : Txt K w mg CL CZ CT NO MA) (h : MadeAt K CL CZ nm H v fp m) : ∀ H1, Ex H H1 → ∃ t, TyX K H1 v t ∧ PySem.W.kitOne K t (.type "tuple") = some (isTup m) := fun H1 e => by
  have h := h.mono e
  cases m with
  | base g =>
    rcases h with ⟨p, L, rfl, h2, h3⟩ | ⟨p, Z, lb, ls, lm, rfl, h2, h3⟩
    · obtain ⟨l, h, s, t, b, ⟨dx, g0⟩, _⟩ := h2.ex
      exact ⟨_, T.y_line g0, T.i_lt⟩
    · obtain ⟨r, g, ⟨dx, g0⟩, _⟩ := h2.ex
      exact ⟨_, T.y_zones g0, T.i_zt⟩
  | sum a b =>
    obtain ⟨p, rfl, h2, h3⟩ := h
    exact ⟨_, wat_ty h3, kit_ty k_tt⟩
  | less a b =>
    obtain ⟨p, rfl, h2, h3⟩ := h
    exact ⟨_, wat_ty h3, kit_ty k_tt⟩
  | times a q =>
    obtain ⟨p, c, rfl, h2, h3, h4⟩ := h
    exact ⟨_, wat_ty h3, kit_ty k_tt⟩
  | along a q =>
    obtain ⟨p, c, rfl, h2, h3, h4⟩ := h
    exact ⟨_, wat_ty h3, kit_ty k_tt⟩
  | by_ a cs =>
    obtain ⟨p, l, rfl, h2, h3, h4⟩ := h
    exact ⟨_, wat_ty h3, kit_ty k_tt⟩
theorem ev_isTup (T : Txt K w mg CL CZ CT NO MA) (h : Ev te σ H v) (hm : MadeAt K CL CZ nm H v fp m) : Ev (tCB (rIsi K) (tCons te (tCons (tC (.ty "tuple")) tNil))) σ H (.bl (isTup m)) := ev_isiT (t := .none) h (.ty "tuple") (hm.ty T)
end
/-! ### kept, and the law's own -/
def Kept (m : Made) (v : V) (fp : List Addr) (v' : V) (fp' : List Addr) (H : Hp) : Prop := (isBy m = true → ∀ l ∈ fp', H l = none) ∧ (isBy m = false → v' = v ∧ fp' = fp)
def spKept (K : PySem.W.Frag) (CL CZ : Addr) : Sp := fun vs H Q _ => ∃ nm m fp v, vs = [v] ∧ MadeAt K CL CZ nm H v fp m ∧ ∀ v' fp' H', Ex H H' → MadeAt K CL CZ nm H' v' fp' m → Kept m v fp v' fp' H → Q v' H'
section
variable {P : Program} {w : World} {K : PySem.W.Frag} {mg : Str → Option Value} {base : Heap} {CL CZ CT NO MA : Addr} {f : Addr} {fd : FuncData}
theorem sc_kept : FnScope ["made"] ["made"] (defScope s_kept) := ⟨rfl, rfl, rfl, by decide +kernel, rfl, by decide +kernel, by decide +kernel⟩
theorem ok_kept (T : Txt K w mg CL CZ CT NO MA) (F : FunD K "kept" "kept" (defArgs s_kept) (defBody s_kept) (defScope s_kept) [] [] f fd) : FnOk P w K mg base CX0 1 f fd ["made"] (spKept K CL CZ) := by
  refine F.ok sc_kept (fun vs H Q E h => ?_) (fun cdv A outer s H vs Q E hr h => ?_)
  · obtain ⟨_, _, _, _, rfl, _⟩ := h
    rfl
  obtain ⟨nm, m, fp, v, rfl, hm, k⟩ := h
  refine ⟨_, PSs.nox (pss_cons (ps_if (PW.pt (pw_and (pt_val (pe_callB call_isi (by rfl) T.f_isinstance (by decide +kernel) (pa_cons (pv 0) (pa_cons (pe_ty (n := "tuple") (by rfl) T.f_tuple (by decide +kernel)) pa_nil)))) (pw_and1 (pt_val (pe_callB call_isi (by rfl) T.f_isinstance (by decide +kernel) (pa_cons (pe_ix ix_tup (pv 0) pe_int (fun _ _ => rfl)) (pa_cons (pe_ty (n := "list") (by rfl) T.f_list (by decide +kernel)) pa_nil))))))) (pss_one (ps_ret (pe_tup (pa_cons (pe_ix ix_tup (pv 0) pe_int (fun _ _ => rfl)) (pa_cons (pe_ix ix_tup (pv 0) pe_int (fun _ _ => rfl)) (pa_cons (pe_callTy call_list_of (by rfl) T.f_list (by decide +kernel) (pa_cons (pe_ix ix_tup (pv 0) pe_int (fun _ _ => rfl)) pa_nil)) pa_nil)))))) pss_nil)
    (pss_one (ps_ret (pv 0)))), ?_⟩
  refine q_when (b := isTup m && isBy m) (et_and (et_B (ev_isTup T (ev_var rfl) hm)) fun ht => ?_) (fun hb H1 e1 => ?_) (fun hb H1 e1 => ?_)
  · obtain ⟨p, z, rfl, h3, ty⟩ := hm.three ht
    exact et_B (ev_isiT (t := .none) (ev_op (ev_var rfl) ev_c (rv_ixT h3 rfl)) (.ty "list") ty)
  · cases m with
    | by_ a cs =>
      obtain ⟨p, l, rfl, rfl, h3, ⟨us, h4, h5⟩, ok⟩ := hm
      have h3 := ex_t e1 h3
      have i0 : Ev (tOp (rIxT K) (tVar 0) (tC (.int 0))) (start ["made"] [V.ref p]) H1 (.str "by") := ev_op (ev_var rfl) ev_c (rv_ixT h3 rfl)
      have i1 : Ev (tOp (rIxT K) (tVar 0) (tC (.int 1))) (start ["made"] [V.ref p]) H1 (.str (nmAt nm a)) := ev_op (ev_var rfl) ev_c (rv_ixT h3 rfl)
      have i2 : Ev (tOp (rIxT K) (tVar 0) (tC (.int 2))) (start ["made"] [V.ref p]) H1 (.ref l) := ev_op (ev_var rfl) ev_c (rv_ixT h3 rfl)
      refine i0 H1 (Ex.refl H1) _ fun H2 e2 => i1 H2 e2 _ fun H3 e3 => (el_list (K := K) i2 (sq_of (e1 _ _ h4))) H3 (e2.trans e3) _ fun l2 H4 n4 e4 h4' => ?_
      refine ⟨by show 3 ≤ sizeLine; decide, fun q hq => ?_⟩
      have e14 : Ex H H4 := e1.trans ((e2.trans e3).trans e4)
      refine k _ [l2] _ (e14.trans (Ex.new hq)) ⟨q, l2, rfl, rfl, SqT.of upd_same, ⟨us, (Ex.new hq) _ _ h4', (h5.ex e14 fun _ => isc_mon).ex (Ex.new hq) fun _ => isc_mon⟩, ok⟩ ⟨fun _ x hx => ?_, fun h => by cases h⟩
      simp only [List.mem_cons, List.not_mem_nil, or_false] at hx
      subst hx
      exact fresh_back (e1.trans (e2.trans e3)) n4
    | base g => cases hb
    | sum a b => cases hb
    | less a b => cases hb
    | times a b => cases hb
    | along a b => cases hb
  · have hb2 : isBy m = false := by
      cases m with
      | by_ a cs => cases hb
      | _ => rfl
    refine ⟨v, rfl, k v fp H1 e1 (hm.mono e1) ⟨fun h => ?_, fun _ => ⟨rfl, rfl⟩⟩⟩
    rw [hb2] at h
    cases h
theorem sc_l_own : FnScope ["_law_made"] ["_law_made"] (defScope s_l_own) := ⟨rfl, rfl, rfl, by decide +kernel, rfl, by decide +kernel, by decide +kernel⟩
theorem ok_l_own (T : Txt K w mg CL CZ CT NO MA) (F : FunD K "_law_own" "_law_own" (defArgs s_l_own) (defBody s_l_own) (defScope s_l_own) [] [] f fd) : FnOk P w K mg base CX0 1 f fd ["_law_made"] (spKept K CL CZ) := by
  refine F.ok sc_l_own (fun vs H Q E h => ?_) (fun cdv A outer s H vs Q E hr h => ?_)
  · obtain ⟨_, _, _, _, rfl, _⟩ := h
    rfl
  obtain ⟨nm, m, fp, v, rfl, hm, k⟩ := h
  refine ⟨_, PSs.nox (pss_cons (ps_if (PW.pt (pw_and (pt_val (pe_callB call_isi (by rfl) T.f_isinstance (by decide +kernel) (pa_cons (pv 0) (pa_cons (pe_ty (n := "tuple") (by rfl) T.f_tuple (by decide +kernel)) pa_nil)))) (pw_and1 (pt_val (pe_callB call_isi (by rfl) T.f_isinstance (by decide +kernel) (pa_cons (pe_ix ix_tup (pv 0) pe_int (fun _ _ => rfl)) (pa_cons (pe_ty (n := "list") (by rfl) T.f_list (by decide +kernel)) pa_nil))))))) (pss_one (ps_ret (pe_tup (pa_cons (pe_ix ix_tup (pv 0) pe_int (fun _ _ => rfl)) (pa_cons (pe_ix ix_tup (pv 0) pe_int (fun _ _ => rfl)) (pa_cons (pe_callTy call_list_of (by rfl) T.f_list (by decide +kernel) (pa_cons (pe_ix ix_tup (pv 0) pe_int (fun _ _ => rfl)) pa_nil)) pa_nil)))))) pss_nil)
    (pss_one (ps_ret (pv 0)))), ?_⟩
  refine q_when (b := isTup m && isBy m) (et_and (et_B (ev_isTup T (ev_var rfl) hm)) fun ht => ?_) (fun hb H1 e1 => ?_) (fun hb H1 e1 => ?_)
  · obtain ⟨p, z, rfl, h3, ty⟩ := hm.three ht
    exact et_B (ev_isiT (t := .none) (ev_op (ev_var rfl) ev_c (rv_ixT h3 rfl)) (.ty "list") ty)
  · cases m with
    | by_ a cs =>
      obtain ⟨p, l, rfl, rfl, h3, ⟨us, h4, h5⟩, ok⟩ := hm
      have h3 := ex_t e1 h3
      have i0 : Ev (tOp (rIxT K) (tVar 0) (tC (.int 0))) (start ["_law_made"] [V.ref p]) H1 (.str "by") := ev_op (ev_var rfl) ev_c (rv_ixT h3 rfl)
      have i1 : Ev (tOp (rIxT K) (tVar 0) (tC (.int 1))) (start ["_law_made"] [V.ref p]) H1 (.str (nmAt nm a)) := ev_op (ev_var rfl) ev_c (rv_ixT h3 rfl)
      have i2 : Ev (tOp (rIxT K) (tVar 0) (tC (.int 2))) (start ["_law_made"] [V.ref p]) H1 (.ref l) := ev_op (ev_var rfl) ev_c (rv_ixT h3 rfl)
      refine i0 H1 (Ex.refl H1) _ fun H2 e2 => i1 H2 e2 _ fun H3 e3 => (el_list (K := K) i2 (sq_of (e1 _ _ h4))) H3 (e2.trans e3) _ fun l2 H4 n4 e4 h4' => ?_
      refine ⟨by show 3 ≤ sizeLine; decide, fun q hq => ?_⟩
      have e14 : Ex H H4 := e1.trans ((e2.trans e3).trans e4)
      refine k _ [l2] _ (e14.trans (Ex.new hq)) ⟨q, l2, rfl, rfl, SqT.of upd_same, ⟨us, (Ex.new hq) _ _ h4', (h5.ex e14 fun _ => isc_mon).ex (Ex.new hq) fun _ => isc_mon⟩, ok⟩ ⟨fun _ x hx => ?_, fun h => by cases h⟩
      simp only [List.mem_cons, List.not_mem_nil, or_false] at hx
      subst hx
      exact fresh_back (e1.trans (e2.trans e3)) n4
    | base g => cases hb
    | sum a b => cases hb
    | less a b => cases hb
    | times a b => cases hb
    | along a b => cases hb
  · have hb2 : isBy m = false := by
      cases m with
      | by_ a cs => cases hb
      | _ => rfl
    refine ⟨v, rfl, k v fp H1 e1 (hm.mono e1) ⟨fun h => ?_, fun _ => ⟨rfl, rfl⟩⟩⟩
    rw [hb2] at h
    cases h
end
end Tb

/-! ## TbTab3 -/
set_option Elab.async false
set_option linter.all false
set_option maxRecDepth 100000
set_option maxHeartbeats 4000000
namespace Tb
open PySem PySem.Spec PyProof.Rows L2 Evl
theorem inV_str {s : Str} {ns : List Str} (h : s ∈ ns) : inV (.str s) (ns.map V.str) = true := by
  unfold inV
  rw [List.any_eq_true]
  exact ⟨.str s, List.mem_map.mpr ⟨s, h, rfl⟩, by simp [eqV]⟩
theorem flat_strs (ns : List Str) : (ns.map V.str).all flatV = true := by
  rw [List.all_eq_true]
  intro x hx
  obtain ⟨s, _, rfl⟩ := List.mem_map.mp hx
  rfl
theorem nmAt_take {nm : List Str} {a k : Nat} (h : a < k) (hk : k ≤ nm.length) : nmAt nm a ∈ nm.take k := by
  have ha : a < nm.length := by omega
  have : (nm.take k)[a]? = some (nmAt nm a) := by
    rw [List.getElem?_take, if_pos h]
    unfold nmAt
    simp [ha]
  exact List.mem_of_getElem? this
/-- a factor, a begin, as the columns bear them -/
def QAll : Made → Prop
  | .times _ q => QOk q
  | .along _ q => QOk q
  | _ => True
def AMade (K : PySem.W.Frag) (CL CZ : Addr) : List Str × Made × Nat → List V → Hp → Prop := fun d vs H => ∃ v l fp, vs = [v, .ref l] ∧ MadeAt K CL CZ d.1 H v fp d.2.1 ∧ H l = some (.lst ((d.1.take d.2.2).map V.str)) ∧ d.2.2 ≤ d.1.length ∧ (∀ a ∈ refs d.2.1, a < d.2.2) ∧ QAll d.2.1
abbrev spMade (K : PySem.W.Frag) (CL CZ : Addr) : Sp := spI (AMade K CL CZ) fun _ v _ => v = .bl true
section
variable {P : Program} {w : World} {K : PySem.W.Frag} {mg : Str → Option Value} {base : Heap} {CL CZ CT NO MA : Addr} {f : Addr} {fd : FuncData}
theorem ev_isMadeT {σ : L2.St} {H : Hp} {te : TE} {v : V} {C : Addr} {b : Bool} (h : Ev te σ H v) (ty : ∀ H1, Ex H H1 → ∃ t, TyX K H1 v t ∧ PySem.W.kitOne K t (.ref C) = some b) : Ev (tCB (rIsi K) (tCons te (tCons (tC (.ref C)) tNil))) σ H (.bl b) := ev_isiT (t := .none) h (.own C) ty
/-- the third thing of such a tuple -/
def Third (K : PySem.W.Frag) (nm : List Str) (H : Hp) (z : V) (fp : List Addr) : Made → Prop
  | .base _ => False
  | .sum _ b => z = .str (nmAt nm b)
  | .less _ b => z = .str (nmAt nm b)
  | .times _ q => IsW K q z H
  | .along _ q => IsW K q z H
  | .by_ _ cs => ∃ l, z = .ref l ∧ CsAt K H l cs ∧ CsOk cs ∧ fp = [l]
theorem MadeAt.third {H : Hp} {nm : List Str} {v : V} {fp : List Addr} {m : Made} (h : MadeAt K CL CZ nm H v fp m) (ht : isTup m = true) : ∃ p z, v = .ref p ∧ SqT K H p [.str (word m), .str (nmAt nm (ref1 m)), z] ∧ Third K nm H z fp m := by
  cases m with
  | base g => cases ht
  | sum a b =>
    obtain ⟨p, h1, h2, h3⟩ := h
    exact ⟨p, _, h1, h3, rfl⟩
  | less a b =>
    obtain ⟨p, h1, h2, h3⟩ := h
    exact ⟨p, _, h1, h3, rfl⟩
  | times a q =>
    obtain ⟨p, c, h1, h2, h3, h4⟩ := h
    exact ⟨p, _, h1, h3, c, rfl, h4⟩
  | along a q =>
    obtain ⟨p, c, h1, h2, h3, h4⟩ := h
    exact ⟨p, _, h1, h3, c, rfl, h4⟩
  | by_ a cs =>
    obtain ⟨p, l, h1, h2, h3, h4, h5⟩ := h
    exact ⟨p, _, h1, h3, l, rfl, h4, h5, h2⟩
theorem MadeAt.tyT {H : Hp} {nm : List Str} {v : V} {fp : List Addr} {m : Made} (h : MadeAt K CL CZ nm H v fp m) (ht : isTup m = true) : ∀ H1, Ex H H1 → TyX K H1 v (.type "tuple") := fun H1 e => by
  obtain ⟨p, z, rfl, h3, _⟩ := h.three ht
  exact wat_ty (ex_t e h3)
theorem sc_is_made : FnScope ["made", "ahead"] ["made", "ahead"] (defScope s_is_made) := ⟨rfl, rfl, rfl, by decide +kernel, rfl, by decide +kernel, by decide +kernel⟩
theorem ok_is_made (T : Txt K w mg CL CZ CT NO MA) (h_is_worth : Fn P w K mg base 2 "is_worth" ["thing"] (spIsWorth K)) (h_are_corners : Fn P w K mg base 3 "are_corners" ["thing"] (spCorners K))
    (F : FunD K "is_made" "is_made" (defArgs s_is_made) (defBody s_is_made) (defScope s_is_made) [] [] f fd) : FnOk P w K mg base CX0 4 f fd ["made", "ahead"] (spMade K CL CZ) := by
  refine F.ok sc_is_made (fun vs H Q E h => ?_) (fun cdv A outer s H vs Q E hr h => ?_)
  · obtain ⟨_, ⟨_, _, _, rfl, _⟩, _⟩ := h
    rfl
  obtain ⟨⟨nm, m, k0⟩, ⟨v, l, fp, rfl, hm, hl, hk, hrf, hq⟩, k⟩ := h
  obtain ⟨es, nn, DM⟩ := T.made
  refine ⟨_, PSs.nox (pss_cons (ps_if (PW.pt (pw_or (pt_val (pe_callB call_isi (by rfl) T.f_isinstance (by decide +kernel) (pa_cons (pv 0) (pa_cons (pe_gref rfl T.g_Line) pa_nil)))) (pw_or1 (pt_val (pe_callB call_isi (by rfl) T.f_isinstance (by decide +kernel) (pa_cons (pv 0) (pa_cons (pe_gref rfl T.g_Zones) pa_nil))))))) (pss_one (ps_ret pe_bl)) pss_nil)
    (pss_cons (ps_if (PW.pt (pw_or (pt_not (pt_val (pe_callB call_isi (by rfl) T.f_isinstance (by decide +kernel) (pa_cons (pv 0) (pa_cons (pe_ty (n := "tuple") (by rfl) T.f_tuple (by decide +kernel)) pa_nil))))) (pw_or (pt_cmpR op_ne (pe_callB call_len_seq (by rfl) T.f_len (by decide +kernel) (pa_cons (pv 0) pa_nil)) pe_int (nomark _)) (pw_or (pt_not (pt_val (pe_callB call_isi (by rfl) T.f_isinstance (by decide +kernel) (pa_cons (pe_ix ix_tup (pv 0) pe_int (fun _ _ => rfl)) (pa_cons (pe_ty (n := "str") (by rfl) T.f_str (by decide +kernel)) pa_nil))))) (pw_or1 (pt_cmpR (op_notIn_kd DM) (pe_ix ix_tup (pv 0) pe_int (fun _ _ => rfl)) (pe_gref rfl T.g_MADE) rfl)))))) (pss_one (ps_ret pe_bl)) pss_nil)
    (pss_cons (ps_if (pt_cmpR op_notIn_seq (pe_ix ix_tup (pv 0) pe_int (fun _ _ => rfl)) (pv 1) rfl) (pss_one (ps_ret pe_bl)) pss_nil)
    (pss_cons (ps_if (pt_cmpR op_in_seq (pe_ix ix_tup (pv 0) pe_int (fun _ _ => rfl)) (pe_tup (pa_cons pe_str (pa_cons pe_str pa_nil))) rfl) (pss_one (ps_ret (pe_cmpR op_in_seq (pe_ix ix_tup (pv 0) pe_int (fun _ _ => rfl)) (pv 1) rfl))) pss_nil)
    (pss_cons (ps_if (pt_cmpR op_in_seq (pe_ix ix_tup (pv 0) pe_int (fun _ _ => rfl)) (pe_tup (pa_cons pe_str (pa_cons pe_str pa_nil))) rfl) (pss_one (ps_ret (pe_fn h_is_worth (hr.mono (by decide)) rfl (pa_cons (pe_ix ix_tup (pv 0) pe_int (fun _ _ => rfl)) pa_nil)))) pss_nil)
    (pss_one (ps_ret (pe_fn h_are_corners (hr.mono (by decide)) rfl (pa_cons (pe_ix ix_tup (pv 0) pe_int (fun _ _ => rfl)) pa_nil))))))))), ?_⟩
  have hm : MadeAt K CL CZ nm H v fp m := hm
  have hl : H l = some (.lst ((nm.take k0).map V.str)) := hl
  have hrf : ∀ a ∈ refs m, a < k0 := hrf
  have hk : k0 ≤ nm.length := hk
  have fin : ∀ H1, Ex H H1 → Q (.bl true) H1 := fun H1 e => k _ H1 e rfl
  cases ht : isTup m with
  | false =>
    cases m with
    | base g =>
      refine q_when (b := true) ?_ (fun _ H1 e1 => s_ret ev_c fun H2 e2 => fin H2 (e1.trans e2)) (fun h => by cases h)
      rcases hm with ⟨p, L, rfl, h2, h3⟩ | ⟨p, Z, lb, ls, lm, rfl, h2, h3⟩
      · obtain ⟨l1, h1, s1, t1, b1, g0, _⟩ := h2.ex
        refine et_is (et_or (a := true) (et_B (ev_isMadeT (ev_var rfl) fun H1 e => ?_)) (b := true) fun h => by cases h) rfl
        obtain ⟨dx, g0⟩ := g0.mono e
        exact ⟨_, T.y_line g0, T.i_ll⟩
      · obtain ⟨r1, g1, g0, _⟩ := h2.ex
        refine et_is (et_or (a := false) (et_B (ev_isMadeT (ev_var rfl) fun H1 e => ?_)) (b := true) fun _ => et_B (ev_isMadeT (ev_var rfl) fun H1 e => ?_)) rfl
        · obtain ⟨dx, g0⟩ := g0.mono e
          exact ⟨_, T.y_zones g0, T.i_zl⟩
        · obtain ⟨dx, g0⟩ := g0.mono e
          exact ⟨_, T.y_zones g0, T.i_zz⟩
    | _ => cases ht
  | true =>
    have ty := hm.tyT ht
    refine q_when (b := false) (et_is (et_or (a := false) (et_B (ev_isMadeT (ev_var rfl) fun H1 e => ⟨_, ty H1 e, T.i_tl⟩)) fun _ => et_B (ev_isMadeT (b := false) (ev_var rfl) fun H1 e => ⟨_, ty H1 e, T.i_tz⟩)) rfl) (fun h => by cases h) fun _ H1 e1 => ?_
    have hm1 := hm.mono e1
    obtain ⟨p, z, rfl, h3, h3d⟩ := hm1.third ht
    have x0 : ∀ H2, Ex H1 H2 → Ev (tOp (rIxT K) (tVar 0) (tC (.int 0))) (start ["made", "ahead"] [V.ref p, V.ref l]) H2 (.str (word m)) := fun H2 e2 => ev_op (ev_var rfl) ev_c (rv_ixT (ex_t e2 h3) rfl)
    have x1 : ∀ H2, Ex H1 H2 → Ev (tOp (rIxT K) (tVar 0) (tC (.int 1))) (start ["made", "ahead"] [V.ref p, V.ref l]) H2 (.str (nmAt nm (ref1 m))) := fun H2 e2 => ev_op (ev_var rfl) ev_c (rv_ixT (ex_t e2 h3) rfl)
    have x2 : ∀ H2, Ex H1 H2 → Ev (tOp (rIxT K) (tVar 0) (tC (.int 2))) (start ["made", "ahead"] [V.ref p, V.ref l]) H2 z := fun H2 e2 => ev_op (ev_var rfl) ev_c (rv_ixT (ex_t e2 h3) rfl)
    have hw : word m ∈ (["sum", "less", "times", "along", "by"] : List Str) := by
      cases m with
      | base g => cases ht
      | _ => simp [word]
    obtain ⟨u, hu⟩ := T.keys _ hw
    refine q_when (b := false) (et_is (et_or (a := !true) (et_not (et_B (ev_isi (ev_var rfl) (fun H2 e2 => ty H2 (e1.trans e2)) (.ty "tuple") (kit_ty k_tt)))) fun _ => et_or (a := false) (et_test (ev_is (ev_op (ev_lenT (ev_var rfl) h3) ev_c (rv_ne rfl)) (w := .bl false) rfl)) fun _ =>
      et_or (a := !true) (et_not (et_B (ev_isi (x0 H1 (Ex.refl H1)) (fun H2 e2 => .base (.str _)) (.ty "str") (kit_ty (b := "str") (by decide +kernel))))) fun _ => et_test (ev_op (z := .bl false) (x0 H1 (Ex.refl H1)) ev_c (rv_val fun H2 e2 Q2 q2 => ⟨word m, some u, rfl, rfl, hu, q2⟩))) rfl) (fun h => by cases h) fun _ H2 e2 => ?_
    have e12 := e1.trans e2
    have hl2 : SqL K H2 l ((nm.take k0).map V.str) := sq_of (e12 _ _ hl)
    have r1 : ref1 m ∈ refs m := by
      cases m with
      | base g => cases ht
      | _ => simp [ref1, refs]
    have in1 := inV_str (nmAt_take (hrf _ r1) hk)
    refine q_when (b := false) (et_test (ev_is (ev_op (x1 H2 e2) (ev_var rfl) (rv_niL hl2 rfl (flat_strs _))) (w := .bl false) (by rw [in1]; rfl))) (fun h => by cases h) fun _ H3 e3 => ?_
    have e13 := e12.trans e3
    have e3' := e2.trans e3
    have hl3 : SqL K H3 l ((nm.take k0).map V.str) := sq_of (e13 _ _ hl)
    have tup1 : ∀ {a b : Str} H4, Ex H1 H4 → Ev (tOp (rIn K false) (tOp (rIxT K) (tVar 0) (tC (.int 0))) (tTup (tCons (tC (.str a)) (tCons (tC (.str b)) tNil)))) (start ["made", "ahead"] [V.ref p, V.ref l]) H4 (.bl (inV (.str (word m)) [.str a, .str b])) := fun H4 e4 =>
      ev_inU (x0 H4 e4) (eu_tup (ea_cons ev_c (ea_cons ev_c ea_nil)) (by show 2 ≤ 100000; decide)) rfl rfl
    have no1 : ∀ {a b : Str}, inV (.str (word m)) [.str a, .str b] = false → EvT (tTest (tOp (rIn K false) (tOp (rIxT K) (tVar 0) (tC (.int 0))) (tTup (tCons (tC (.str a)) (tCons (tC (.str b)) tNil))))) (start ["made", "ahead"] [V.ref p, V.ref l]) H3 false := fun hf => et_test (ev_is (tup1 H3 e3') (by rw [hf]))
    have third_w : ∀ {q : Rat} {H4 : Hp}, IsW K q z H1 → Ex H1 H4 → EW K (tOp (rIxT K) (tVar 0) (tC (.int 2))) (start ["made", "ahead"] [V.ref p, V.ref l]) H4 q := fun hz e4 => er_of (x2 _ e4) fun H5 e5 => isw_mon _ _ _ (e4.trans e5) hz
    cases m with
    | base g => cases ht
    | sum a b =>
      refine q_when (b := true) (et_test (ev_is (tup1 H3 e3') (w := .bl true) (congrArg V.bl (show inV (.str "sum") [.str "sum", .str "less"] = true by decide +kernel)))) (fun _ H4 e4 => ?_) (fun h => by cases h)
      have h2 := x2 H4 (e3'.trans e4)
      rw [h3d] at h2
      exact s_ret (ev_is (ev_op h2 (ev_var rfl) (rv_isL (ex_l e4 hl3) rfl (flat_strs _))) (w := .bl true) (by rw [inV_str (nmAt_take (hrf b (by simp [refs])) hk)])) fun H5 e5 => fin H5 ((e13.trans e4).trans e5)
    | less a b =>
      refine q_when (b := true) (et_test (ev_is (tup1 H3 e3') (w := .bl true) (congrArg V.bl (show inV (.str "less") [.str "sum", .str "less"] = true by decide +kernel)))) (fun _ H4 e4 => ?_) (fun h => by cases h)
      have h2 := x2 H4 (e3'.trans e4)
      rw [h3d] at h2
      exact s_ret (ev_is (ev_op h2 (ev_var rfl) (rv_isL (ex_l e4 hl3) rfl (flat_strs _))) (w := .bl true) (by rw [inV_str (nmAt_take (hrf b (by simp [refs])) hk)])) fun H5 e5 => fin H5 ((e13.trans e4).trans e5)
    | times a q =>
      refine q_when (b := false) (no1 (show inV (.str "times") [.str "sum", .str "less"] = false by decide +kernel)) (fun h => by cases h) fun _ H4 e4 => ?_
      refine q_when (b := true) (et_test (ev_is (tup1 H4 (e3'.trans e4)) (w := .bl true) (congrArg V.bl (show inV (.str "times") [.str "times", .str "along"] = true by decide +kernel)))) (fun _ H5 e5 => ?_) (fun h => by cases h)
      exact s_ret (ev_isw (third_w h3d ((e3'.trans e4).trans e5))) fun H6 e6 => fin H6 (((e13.trans e4).trans e5).trans e6)
    | along a q =>
      refine q_when (b := false) (no1 (show inV (.str "along") [.str "sum", .str "less"] = false by decide +kernel)) (fun h => by cases h) fun _ H4 e4 => ?_
      refine q_when (b := true) (et_test (ev_is (tup1 H4 (e3'.trans e4)) (w := .bl true) (congrArg V.bl (show inV (.str "along") [.str "times", .str "along"] = true by decide +kernel)))) (fun _ H5 e5 => ?_) (fun h => by cases h)
      exact s_ret (ev_isw (third_w h3d ((e3'.trans e4).trans e5))) fun H6 e6 => fin H6 (((e13.trans e4).trans e5).trans e6)
    | by_ a cs =>
      refine q_when (b := false) (no1 (show inV (.str "by") [.str "sum", .str "less"] = false by decide +kernel)) (fun h => by cases h) fun _ H4 e4 => ?_
      refine q_when (b := false) (et_test (ev_is (tup1 H4 (e3'.trans e4)) (w := .bl false) (congrArg V.bl (show inV (.str "by") [.str "times", .str "along"] = false by decide +kernel)))) (fun h => by cases h) fun _ H5 e5 => ?_
      obtain ⟨l2, rfl, hc, ok, _⟩ := h3d
      exact s_ret (ev_of_v (er_call1 (A := ACs K) (R1 := fun v _ => v = .ref l2) cs (er_of (x2 H5 ((e3'.trans e4).trans e5)) fun _ _ => rfl) fun x G eG hx => ⟨l2, by rw [hx], hc.mono (((e3'.trans e4).trans e5).trans eG), ok⟩)) fun H6 e6 => fin H6 (((e13.trans e4).trans e5).trans e6)
end
end Tb

/-! ## TbTab4 -/
set_option Elab.async false
set_option linter.all false
set_option maxRecDepth 100000
set_option maxHeartbeats 4000000
namespace Tb
open PySem PySem.Spec PyProof.Rows L2 Evl
/-! ### a table as it stands -/
structure TabAt (K : PySem.W.Frag) (CL CZ CT : Addr) (H : Hp) (t : Addr) (nm : List Str) (ms : List Made) (fpf : Nat → List Addr) (o : Addr) : Prop where
  ex : ∃ d kvs, Ins H t CT [("made", .ref d), ("order", .ref o)] ∧ H d = some (.dK kvs) ∧ H o = some (.lst (nm.map V.str)) ∧ ∀ k : Nat, k < ms.length → ∃ v, valV kvs (Sum.inr (nmAt nm k) : Key) = some v ∧ MadeAt K CL CZ nm H v (fpf k) (made ms k)
structure NmOk (nm : List Str) (ms : List Made) : Prop where
  len : nm.length = ms.length
  good : ∀ k : Nat, k < nm.length → GoodName (nmAt nm k)
  nd : nm.Nodup
section
variable {K : PySem.W.Frag} {CL CZ CT : Addr} {nm : List Str} {ms : List Made} {fpf : Nat → List Addr} {σ : L2.St} {H H' : Hp} {td ty : TE} {t o p d : Addr} {v : V} {s : Str} {kvs : List (Key × V)}
theorem TabAt.mono (h : TabAt K CL CZ CT H t nm ms fpf o) (e : Ex H H') : TabAt K CL CZ CT H' t nm ms fpf o := by
  obtain ⟨d, kvs, h1, h2, h3, h4⟩ := h.ex
  exact ⟨d, kvs, h1.mono e, e _ _ h2, e _ _ h3, fun k hk => by
    obtain ⟨v, h5, h6⟩ := h4 k hk
    exact ⟨v, h5, h6.mono e⟩⟩
/-- another list may change -/
theorem TabAt.ekl {ys : List V} (h : TabAt K CL CZ CT H t nm ms fpf o) (hp : H p = some (.lst ys)) (n : p ≠ o) (nf : ∀ k : Nat, k < ms.length → p ∉ fpf k) (e : Ek p H H') : TabAt K CL CZ CT H' t nm ms fpf o := by
  obtain ⟨d, kvs, h1, h2, h3, h4⟩ := h.ex
  exact ⟨d, kvs, e.insG hp odd_lst h1, e _ _ h2 (ne_of h2 hp (by intro z; cases z)), e _ _ h3 n.symm, fun k hk => by
    obtain ⟨v, h5, h6⟩ := h4 k hk
    exact ⟨v, h5, h6.ekg hp odd_lst (nf k hk) e⟩⟩
theorem ev_dget (hd : Ev td σ H (.ref d)) (h : H d = some (.dK kvs)) (hy : Ev ty σ H (.str s)) (hv : valV kvs (Sum.inr s : Key) = some v) : Ev (tDGet td ty) σ H v := fun H1 e1 Q q =>
  hd H1 e1 _ fun H2 e2 => hy H2 (e1.trans e2) _ fun H3 e3 => ⟨d, v, rfl, by
    have := DGet.k (k := (Sum.inr s : Key)) (((e1.trans e2).trans e3) _ _ h)
    rw [hv] at this
    exact this, q H3 (e2.trans e3)⟩
theorem ev_dnotin (hd : Ev td σ H (.ref d)) (h : H d = some (.dK kvs)) (hy : Ev ty σ H (.str s)) : Ev (tDNotIn ty td) σ H (.bl (!(valV kvs (Sum.inr s : Key)).isSome)) := fun H1 e1 Q q =>
  hy H1 e1 _ fun H2 e2 => hd H2 (e1.trans e2) _ fun H3 e3 => ⟨d, _, rfl, DGet.k (k := (Sum.inr s : Key)) (((e1.trans e2).trans e3) _ _ h), q H3 (e2.trans e3)⟩
theorem ev_din (hd : Ev td σ H (.ref d)) (h : H d = some (.dK kvs)) (hy : Ev ty σ H (.str s)) : Ev (tDIn ty td) σ H (.bl ((valV kvs (Sum.inr s : Key)).isSome)) := fun H1 e1 Q q =>
  hy H1 e1 _ fun H2 e2 => hd H2 (e1.trans e2) _ fun H3 e3 => ⟨d, _, rfl, DGet.k (k := (Sum.inr s : Key)) (((e1.trans e2).trans e3) _ _ h), q H3 (e2.trans e3)⟩
theorem ev_name {E : XK} (h : Ev ty σ H (.str s)) (g : GoodName s) : Ev (tCall spName [] E (tCons ty tNil)) σ H (.bl true) :=
  ev_of_v (er_call1 (A := fun (s : Str) vs _ => vs = [.str s] ∧ GoodName s) (R1 := fun v _ => v = .str s) s (er_of h fun _ _ => rfl) fun x H1 _ e => ⟨by rw [e], g⟩)
end
def spRule (K : PySem.W.Frag) (CL CZ CT : Addr) : Sp := fun vs H Q _ => ∃ t nm ms fpf o k, vs = [.ref t, .str (nmAt nm k)] ∧ TabAt K CL CZ CT H t nm ms fpf o ∧ NmOk nm ms ∧ k < ms.length ∧
  ∀ v' fp' H', Ex H H' → MadeAt K CL CZ nm H' v' fp' (made ms k) → (isBy (made ms k) = true → ∀ l ∈ fp', H l = none) → Q v' H'
def spNames (K : PySem.W.Frag) (CL CZ CT : Addr) : Sp := fun vs H Q _ => ∃ t nm ms fpf o, vs = [.ref t] ∧ TabAt K CL CZ CT H t nm ms fpf o ∧ ∀ p H', H p = none → Ex H H' → H' p = some (.lst (nm.map V.str)) → Q (.ref p) H'
section
variable {P : Program} {w : World} {K : PySem.W.Frag} {mg : Str → Option Value} {base : Heap} {CL CZ CT NO MA : Addr} {f : Addr} {fd : FuncData}
theorem sc_Table_rule_of : FnScope ["self", "name"] ["self", "name"] (defScope s_Table_rule_of) := ⟨rfl, rfl, rfl, by decide +kernel, rfl, by decide +kernel, by decide +kernel⟩
theorem ok_Table_rule_of (T : Txt K w mg CL CZ CT NO MA) (h_is_name : Fn P w K mg base 1 "is_name" ["thing"] spName) (h_kept : Fn P w K mg base 1 "kept" ["made"] (spKept K CL CZ))
    (F : FunD K "rule_of" "Table.rule_of" (defArgs s_Table_rule_of) (defBody s_Table_rule_of) (defScope s_Table_rule_of) [] [] f fd) : FnOk P w K mg base CX0 2 f fd ["self", "name"] (spRule K CL CZ CT) := by
  refine F.ok sc_Table_rule_of (fun vs H Q E h => ?_) (fun cdv A outer s H vs Q E hr h => ?_)
  · obtain ⟨_, _, _, _, _, _, rfl, _⟩ := h
    rfl
  obtain ⟨t, nm, ms, fpf, o, k0, rfl, hT, hN, hk, k⟩ := h
  have hu := hu_of hr
  refine ⟨_, PSs.nox (pss_cons (ps_if (PW.pt (pw_or (pt_not (pt_val (pe_fn h_is_name (hr.mono (by decide)) rfl (pa_cons (pv 1) pa_nil)))) (pw_or1 (pt_cmp (pc_dnotin hu (pv 1) (pe_fld (pv 0) rfl)))))) (pss_one ps_never) pss_nil)
    (pss_one (ps_ret (pe_fn h_kept (hr.mono (by decide)) rfl (pa_cons (pe_dget hu (pe_fld (pv 0) rfl) (pv 1) (fun _ _ => rfl)) pa_nil))))), ?_⟩
  obtain ⟨d, kvs, h1, h2, h3, h4⟩ := hT.ex
  obtain ⟨v, h5, h6⟩ := h4 k0 hk
  have g := hN.good k0 (by rw [hN.len]; exact hk)
  refine q_when (b := false) (et_is (et_or (a := !true) (et_not (et_B (ev_name (ev_var rfl) g))) fun _ => et_B (ev_dnotin (ev_fld (ev_var rfl) h1 T.c_Table T.t_made rfl) h2 (ev_var rfl))) (by rw [h5]; rfl)) (fun h => by cases h) fun _ H1 e1 => ?_
  refine (ev_dget (ev_fld (ev_var rfl) (h1.mono e1) T.c_Table T.t_made rfl) (e1 _ _ h2) (ev_var rfl) h5) H1 (Ex.refl H1) _ fun H2 e2 => ⟨nm, _, _, v, rfl, h6.mono (e1.trans e2), fun v' fp' H' e hm hK => k v' fp' H' ((e1.trans e2).trans e) hm fun hb l hl => fresh_back (e1.trans e2) (hK.1 hb l hl)⟩
theorem sc_Table_names : FnScope ["self"] ["self"] (defScope s_Table_names) := ⟨rfl, rfl, rfl, by decide +kernel, rfl, by decide +kernel, by decide +kernel⟩
theorem ok_Table_names (T : Txt K w mg CL CZ CT NO MA) (F : FunD K "names" "Table.names" (defArgs s_Table_names) (defBody s_Table_names) (defScope s_Table_names) [] [] f fd) : FnOk P w K mg base CX0 1 f fd ["self"] (spNames K CL CZ CT) := by
  refine F.ok sc_Table_names (fun vs H Q E h => ?_) (fun cdv A outer s H vs Q E hr h => ?_)
  · obtain ⟨_, _, _, _, _, rfl, _⟩ := h
    rfl
  obtain ⟨t, nm, ms, fpf, o, rfl, hT, k⟩ := h
  refine ⟨_, PSs.nox (pss_one (ps_ret (pe_callTy call_list_of (by rfl) T.f_list (by decide +kernel) (pa_cons (pe_fld (pv 0) rfl) pa_nil)))), ?_⟩
  obtain ⟨d, kvs, h1, h2, h3, h4⟩ := hT.ex
  exact s_retL (el_list (K := K) (ev_fld (ev_var rfl) h1 T.c_Table T.t_order rfl) (sq_of h3)) fun p H1 n e1 hp => k p H1 n e1 hp
end
end Tb

/-! ## TbTab5 -/
set_option Elab.async false
set_option linter.all false
set_option maxRecDepth 100000
set_option maxHeartbeats 4000000
namespace Tb
open PySem PySem.Spec PyProof.Rows L2 Evl
structure TD where
  nm : List Str
  ms : List Made
  fpf : Nat → List Addr
  o : Addr
  k : Nat
structure TabIn (K : PySem.W.Frag) (CL CZ CT : Addr) (H : Hp) (t : Addr) (d : TD) (n : Nat) : Prop where
  at_ : TabAt K CL CZ CT H t d.nm d.ms d.fpf d.o
  nok : NmOk d.nm d.ms
  tok : TabOk d.ms
  kl : d.k < d.ms.length
  kn : d.k < n
theorem TabIn.mono {K : PySem.W.Frag} {CL CZ CT : Addr} {H H' : Hp} {t : Addr} {d : TD} {n : Nat} (h : TabIn K CL CZ CT H t d n) (e : Ex H H') : TabIn K CL CZ CT H' t d n := ⟨h.at_.mono e, h.nok, h.tok, h.kl, h.kn⟩
/-- a column ahead -/
theorem TabIn.ref {K : PySem.W.Frag} {CL CZ CT : Addr} {H : Hp} {t : Addr} {d : TD} {n a : Nat} (h : TabIn K CL CZ CT H t d (n + 1)) (ha : a ∈ refs (made d.ms d.k)) : TabIn K CL CZ CT H t { d with k := a } n := by
  have h1 := h.tok.wf _ _ ha
  have h2 := h.kn
  have h3 := h.kl
  exact ⟨h.at_, h.nok, h.tok, show a < d.ms.length by omega, show a < n by omega⟩
theorem TabIn.up {K : PySem.W.Frag} {CL CZ CT : Addr} {H : Hp} {t : Addr} {d : TD} {n : Nat} (h : TabIn K CL CZ CT H t d n) : TabIn K CL CZ CT H t d (n + 1) := ⟨h.at_, h.nok, h.tok, h.kl, Nat.lt_succ_of_lt h.kn⟩
def TD.f (d : TD) : Int → Rat := Tb.val d.ms d.k
def TD.m (d : TD) : Made := made d.ms d.k
def AVal (K : PySem.W.Frag) (CL CZ CT : Addr) (n : Nat) : TD × Int → List V → Hp → Prop := fun d vs H => ∃ t, vs = [.ref t, .str (nmAt d.1.nm d.1.k), .int d.2] ∧ TabIn K CL CZ CT H t d.1 n ∧ -14 ≤ d.2 ∧ d.2 ≤ 25
def AStr (K : PySem.W.Frag) (CL CZ CT : Addr) (n : Nat) : TD × Int × Int → List V → Hp → Prop := fun d vs H => ∃ t, vs = [.ref t, .str (nmAt d.1.nm d.1.k), .int d.2.1, .int d.2.2] ∧ TabIn K CL CZ CT H t d.1 n ∧ -14 ≤ d.2.1 ∧ d.2.1 ≤ d.2.2 ∧ d.2.2 ≤ 25
def ARun (K : PySem.W.Frag) (CL CZ CT : Addr) (n : Nat) : TD × Int × Int → List V → Hp → Prop := fun d vs H => ∃ t a q, vs = [.ref t, .str (nmAt d.1.nm d.1.k), .str (nmAt d.1.nm a), .int d.2.1, .int d.2.2] ∧ d.1.m = .along a q ∧ TabIn K CL CZ CT H t d.1 n ∧ -14 ≤ d.2.1 ∧ d.2.1 ≤ d.2.2 ∧ d.2.2 ≤ 25
def sumd (f : Int → Rat) (row : Int) : Rat := if row < 0 then 0 - sumF f row (0 - row).toNat else sumF f 0 row.toNat
def spVal (K : PySem.W.Frag) (CL CZ CT : Addr) (n : Nat) : Sp := spI (AVal K CL CZ CT n) fun d => IsW K (d.1.f d.2)
def spSummed (K : PySem.W.Frag) (CL CZ CT : Addr) (n : Nat) : Sp := spI (AVal K CL CZ CT n) fun d => IsW K (sumd d.1.f d.2)
def spStr (K : PySem.W.Frag) (CL CZ CT : Addr) (n : Nat) : Sp := spI (AStr K CL CZ CT n) fun d => IsW K (sumF d.1.f d.2.1 (d.2.2 - d.2.1).toNat)
/-- worths by rows -/
def RowW (K : PySem.W.Frag) (f : Int → Rat) (lo hi : Int) : List V → Hp → Prop := Each (hi - lo).toNat fun i => IsW K (f (lo + (i : Int)))
def spL {ι : Type} (A : ι → List V → Hp → Prop) (R : ι → List V → Hp → Prop) : Sp := fun vs H Q _ => ∃ i, A i vs H ∧ ∀ p xs H', H p = none → Ex H H' → H' p = some (.lst xs) → R i xs H' → Q (.ref p) H'
def spWor (K : PySem.W.Frag) (CL CZ CT : Addr) (n : Nat) : Sp := spL (AStr K CL CZ CT n) fun d => RowW K d.1.f d.2.1 d.2.2
def spRun (K : PySem.W.Frag) (CL CZ CT : Addr) (n : Nat) : Sp := spL (ARun K CL CZ CT n) fun d => RowW K d.1.f d.2.1 d.2.2
section
variable {K : PySem.W.Frag} {σ : L2.St} {H H' : Hp} {ta tb te tr to : TE} {v x y : V} {p C : Addr} {fs : List (Str × V)} {m : Str} {t : TA} {vs : List V} {E : XK}
theorem er_methA {ι : Type} {A : ι → List V → Hp → Prop} {B : ι → V → Hp → Prop} (i : ι) (ha : Ev ta σ H (.ref p)) (ho : Ins H p C fs) (l : fs.lookup m = none) (hb : EvA t σ H vs) (k : ∀ H1, Ex H H1 → A i (.ref p :: vs) H1) :
    EvR (tMeth C m (spI A B) [] E ta t) σ H (B i) := fun H1 e1 Q q =>
  ha H1 e1 _ fun H2 e2 => by
    obtain ⟨dx, h⟩ := ho.mono (e1.trans e2)
    exact ⟨p, dx, fs, rfl, h, l, hb H2 (e1.trans e2) _ fun H3 e3 => ⟨i, by rw [List.append_nil]; exact k H3 ((e1.trans e2).trans e3), fun v H4 e4 b => q v H4 ((e2.trans e3).trans e4) b⟩⟩
theorem en_methA {ι : Type} {A : ι → List V → Hp → Prop} {B : ι → List V → Hp → Prop} (i : ι) (ha : Ev ta σ H (.ref p)) (ho : Ins H p C fs) (l : fs.lookup m = none) (hb : EvA t σ H vs) (k : ∀ H1, Ex H H1 → A i (.ref p :: vs) H1) :
    EvN (tMeth C m (spL A B) [] E ta t) σ H (B i) := fun H1 e1 Q q =>
  ha H1 e1 _ fun H2 e2 => by
    obtain ⟨dx, h⟩ := ho.mono (e1.trans e2)
    exact ⟨p, dx, fs, rfl, h, l, hb H2 (e1.trans e2) _ fun H3 e3 => ⟨i, by rw [List.append_nil]; exact k H3 ((e1.trans e2).trans e3), fun z xs H4 n e4 h4 b => q z xs H4 (fresh_back (e2.trans e3) n) ((e2.trans e3).trans e4) h4 b⟩⟩
/-- for x in a new list -/
theorem q_forN {K : PySem.W.Frag} {D : Ends} {tu tz : TS} {tl : TE} {j : Nat} {R : List V → Hp → Prop} (h : EvN tl σ H R) (hb : ∀ p xs H1, H p = none → Ex H H1 → H1 p = some (.lst xs) → R xs H1 → ∃ Pv : Nat → L2.St → Hp → Prop, Pv 0 σ H1 ∧ (∀ i σ' H', i ≤ xs.length → Pv i σ' H' → SqL K H' p xs) ∧
    (∀ i x σ' H', xs[i]? = some x → Pv i σ' H' → tu { D with nx := Pv (i + 1), ct := Pv (i + 1), bk := tz D } (σ'.set j (some x)) H') ∧ ∀ σ' H', Pv xs.length σ' H' → tz D σ' H') : tSeq (tFor (iList K tl) (gName j) tu) tz D σ H :=
  h H (Ex.refl H) _ fun p xs H1 n e hp hr => by
    obtain ⟨Pv, h0, hl, hs, hd⟩ := hb p xs H1 n e hp hr
    exact ⟨p, rfl, ⟨xs, sq_of hp⟩, for_list (D := { D with nx := tz D }) Pv h0 hl hs hd⟩
variable {CL CZ CT : Addr} {nm : List Str} {fp : List Addr} {row : Int}
/-- value of a line, of zones -/
theorem er_base {g : Int → Rat} (ho : Ev to σ H v) (hm : MadeAt K CL CZ nm H v fp (.base g)) (hr : Ev tr σ H (.int row)) (r1 : -100 ≤ row) (r2 : row ≤ 100) :
    EvR (fun σ H Q => tMeth CL "value" (spLVal K CL) [] E to (tCons tr tNil) σ H Q ∨ tMeth CZ "value" (spZVal K CZ) [] E to (tCons tr tNil) σ H Q) σ H (IsW K (g row)) := fun H1 e1 Q q => by
  rcases hm with ⟨p, L, rfl, h2, h3, rfl, _⟩ | ⟨p, Z, lb, ls, lm, rfl, h2, h3, rfl, _⟩
  · obtain ⟨l, h, s, t, b, g0, _⟩ := h2.ex
    exact .inl (er_methA (A := ALine K CL) (L, row) ho g0 rfl (ea_cons hr ea_nil) (fun G e => ⟨p, rfl, h2.mono e, h3, r1, r2⟩) H1 e1 Q q)
  · obtain ⟨r, g, g0, _⟩ := h2.ex
    exact .inr (er_methA (A := AZone K CZ) (Z, row) ho g0 rfl (ea_cons hr ea_nil) (fun G e => ⟨p, lb, ls, lm, rfl, h2.mono e, h3, r1, r2⟩) H1 e1 Q q)
theorem er_rule {d : TD} {n : Nat} {t : Addr} (hs : Ev ta σ H (.ref t)) (hT : TabIn K CL CZ CT H t d n) (hn : Ev tb σ H (.str (nmAt d.nm d.k))) : EvR (tMeth CT "rule_of" (spRule K CL CZ CT) [] E ta (tCons tb tNil)) σ H fun v H' => ∃ fp, MadeAt K CL CZ d.nm H' v fp d.m := fun H1 e1 Q q =>
  hs H1 e1 _ fun H2 e2 => by
    obtain ⟨d', kvs, h1, _⟩ := (hT.at_.mono (e1.trans e2)).ex
    obtain ⟨dx, h1⟩ := h1
    exact ⟨t, dx, _, rfl, h1, rfl, hn H2 (e1.trans e2) _ fun H3 e3 => ⟨t, d.nm, d.ms, d.fpf, d.o, d.k, rfl, hT.at_.mono ((e1.trans e2).trans e3), hT.nok, hT.kl, fun v' fp' H4 e4 hm _ => q v' H4 ((e2.trans e3).trans e4) ⟨fp', hm⟩⟩⟩
end
section
variable {P : Program} {w : World} {K : PySem.W.Frag} {mg : Str → Option Value} {base : Heap} {CL CZ CT NO MA : Addr} {f : Addr} {fd : FuncData}
theorem aval_len {n : Nat} {x y z : Str} {R : TD × Int → V → Hp → Prop} : ∀ vs H Q E, spI (AVal K CL CZ CT n) R vs H Q E → vs.length = ([x, y, z] : List Str).length := fun vs H Q E ⟨_, ⟨_, e, _⟩, _⟩ => by
  rw [e] <;> rfl
theorem TD.f_eq {d : TD} (h : TabOk d.ms) : d.f = ev (Tb.val d.ms) d.m := val_eq h.wf d.k
/-! ### stretch, summed: by worths of the same column -/
theorem sc_Table_stretch : FnScope ["self", "name", "first", "end", "found", "left", "many", "thing"] ["self", "name", "first", "end"] (defScope s_Table_stretch) := ⟨rfl, rfl, rfl, by decide +kernel, rfl, by decide +kernel, by decide +kernel⟩
theorem ok_Table_stretch (n : Nat) (T : Txt K w mg CL CZ CT NO MA) (h_plus : Fn P w K mg base 3 "plus" ["one", "other"] (spW2 K Any2 (· + ·))) (h_Table_worths : Me P w K mg base CT (10 + 5 * n) "worths" ["self", "name", "first", "end"] (spWor K CL CZ CT n))
    (F : FunD K "stretch" "Table.stretch" (defArgs s_Table_stretch) (defBody s_Table_stretch) (defScope s_Table_stretch) [] [] f fd) : FnOk P w K mg base CX0 (11 + 5 * n) f fd ["self", "name", "first", "end"] (spStr K CL CZ CT n) := by
  have G : FnOk P w K mg base CX0 ((10 + 5 * n) + 1) f fd ["self", "name", "first", "end"] (spStr K CL CZ CT n) := by
    refine F.ok sc_Table_stretch (fun vs H Q E h => ?_) (fun cdv A outer s H vs Q E hr h => ?_)
    · obtain ⟨_, ⟨_, rfl, _⟩, _⟩ := h
      rfl
    obtain ⟨⟨d, lo, hi⟩, ⟨t, rfl, hT, r1, r2, r3⟩, k⟩ := h
    obtain ⟨t5, g_MOST_SUMMED⟩ := T.summed
    refine ⟨_, PSs.nox (pss_cons (ps_set (i := 4) sc_Table_stretch.nd rfl (Or.inl rfl) (pe_gref rfl T.g_NOUGHT))
    (pss_cons (ps_set (i := 5) sc_Table_stretch.nd rfl (Or.inl rfl) (pe_op op_sub (pv 3) (pv 2)))
    (pss_cons (ps_if (pt_cmpR op_gt (pv 5) (pe_gint rfl g_MOST_SUMMED) (nomark _)) pss_never pss_nil)
    (pss_cons (ps_for PassesOwn.never rfl (pi_list (pe_me h_Table_worths T.c_Table (hr.mono (by omega)) (pv 0) (pa_cons (pv 1) (pa_cons (pv 2) (pa_cons (pe_op op_add (pv 2) (pv 5)) pa_nil))))) (pg_name (i := 7) sc_Table_stretch.nd rfl (Or.inl rfl))
    (pss_one (ps_set (i := 4) sc_Table_stretch.nd rfl (Or.inl rfl) (pe_fn h_plus (hr.mono (by omega)) rfl (pa_cons (pv 4) (pa_cons (pv 7) pa_nil))))))
    (pss_one (ps_ret (pv 4))))))), ?_⟩
    have r1 : -14 ≤ lo := r1
    have r2 : lo ≤ hi := r2
    have r3 : hi ≤ 25 := r3
    have hT : TabIn K CL CZ CT H t d n := hT
    obtain ⟨dd, kvs, i1, _⟩ := hT.at_.ex
    refine q_asg ev_c fun H1 e1 => ?_
    refine q_asg (ev_op (ev_var rfl) (ev_var rfl) rv_I0) fun H2 e2 => ?_
    refine q_when (b := false) (et_test (ev_op (ev_var rfl) ev_c (rv_b (decide_eq_false (by omega))))) (fun h => by cases h) fun _ H3 e3 => ?_
    have e13 := (e1.trans e2).trans e3
    have elo : lo + (hi - lo) = hi := by omega
    refine q_forN (en_methA (A := AStr K CL CZ CT n) (B := fun d => RowW K d.1.f d.2.1 d.2.2) (d, lo, hi) (ev_var rfl) (i1.mono e13) rfl
      (ea_cons (ev_var rfl) (ea_cons (ev_var rfl) (ea_cons (ev_is (ev_op (ev_var rfl) (ev_var rfl) rv_I0) (congrArg V.int elo)) ea_nil))) (fun H4 e4 => ⟨t, rfl, hT.mono (e13.trans e4), r1, r2, r3⟩)) fun p xs H4 n4 e4 hp hx => ?_
    have hx : Each (hi - lo).toNat (fun i => IsW K (d.f (lo + (i : Int)))) xs H4 := hx
    refine ⟨fun i σ' H' => ∃ a z, σ' = [some (.ref t), some (.str (nmAt d.nm d.k)), some (.int lo), some (.int hi), some (.ref a), some (.int (hi - lo)), none, z] ∧ Ex H4 H' ∧ WAt K H' a (sumF d.f lo i), ⟨NO, none, rfl, Ex.refl H4, T.wat0 _⟩, (fun i σ' H' _ ⟨_, _, _, e, _⟩ => sq_of (e _ _ hp)), ?_, ?_⟩
    · rintro i x σ' H' hxi ⟨a, z, rfl, e, ha⟩
      have hi' : i < (hi - lo).toNat := by
        have := (List.getElem?_eq_some_iff.mp hxi).1
        rw [hx.1] at this
        exact this
      obtain ⟨b, rfl, hb⟩ := isw_mon _ _ _ e (hx.2 i x hxi)
      have s1 := sum_sm hT.tok hT.kl lo i (by omega) (by omega)
      have s2 := (val_tame hT.tok hT.kl (row := lo + (i : Int)) (by omega) (by omega)).s
      exact s_asgR (ew_2 (ew_var rfl ha) (ew_var rfl hb) s1 s2 trivial) fun v H5 e5 ⟨c, hv, hc⟩ => by
        subst hv
        exact ⟨c, _, rfl, e.trans e5, hc⟩
    · rintro σ' H' ⟨a, z, rfl, e, ha⟩
      have : xs.length = (hi - lo).toNat := hx.1
      rw [this] at ha
      exact ⟨_, rfl, k _ H' ((e13.trans e4).trans e) ⟨a, rfl, ha⟩⟩
  exact G.mono (by omega)
theorem sc_Table_summed : FnScope ["self", "name", "row"] ["self", "name", "row"] (defScope s_Table_summed) := ⟨rfl, rfl, rfl, by decide +kernel, rfl, by decide +kernel, by decide +kernel⟩
theorem ok_Table_summed (n : Nat) (T : Txt K w mg CL CZ CT NO MA) (h_minus : Fn P w K mg base 3 "minus" ["one", "other"] (spW2 K Any2 (· - ·))) (h_Table_stretch : Me P w K mg base CT (11 + 5 * n) "stretch" ["self", "name", "first", "end"] (spStr K CL CZ CT n))
    (F : FunD K "summed" "Table.summed" (defArgs s_Table_summed) (defBody s_Table_summed) (defScope s_Table_summed) [] [] f fd) : FnOk P w K mg base CX0 (12 + 5 * n) f fd ["self", "name", "row"] (spSummed K CL CZ CT n) := by
  have G : FnOk P w K mg base CX0 ((11 + 5 * n) + 1) f fd ["self", "name", "row"] (spSummed K CL CZ CT n) := by
    refine F.ok sc_Table_summed aval_len (fun cdv A outer s H vs Q E hr h => ?_)
    obtain ⟨⟨d, row⟩, ⟨t, rfl, hT, r1, r2⟩, k⟩ := h
    refine ⟨_, PSs.nox (pss_cons (ps_if (pt_cmpR op_lt (pv 2) pe_int (nomark _)) (pss_one (ps_ret (pe_fn h_minus (hr.mono (by omega)) rfl (pa_cons (pe_gref rfl T.g_NOUGHT) (pa_cons (pe_me h_Table_stretch T.c_Table (hr.mono (by omega)) (pv 0) (pa_cons (pv 1) (pa_cons (pv 2) (pa_cons pe_int pa_nil)))) pa_nil))))) pss_nil)
    (pss_one (ps_ret (pe_me h_Table_stretch T.c_Table (hr.mono (by omega)) (pv 0) (pa_cons (pv 1) (pa_cons pe_int (pa_cons (pv 2) pa_nil))))))), ?_⟩
    have r1 : -14 ≤ row := r1
    have r2 : row ≤ 25 := r2
    have hT : TabIn K CL CZ CT H t d n := hT
    obtain ⟨dd, kvs, i1, _⟩ := hT.at_.ex
    refine q_when (b := decide (row < 0)) (et_test (ev_op (ev_var rfl) ev_c rv_I0)) (fun hb H1 e1 => ?_) (fun hb H1 e1 => ?_)
    · have hb := of_decide_eq_true hb
      refine s_retR (ew_2 T.ew0 (er_methA (A := AStr K CL CZ CT n) (d, row, 0) (ev_var rfl) (i1.mono e1) rfl (ea_cons (ev_var rfl) (ea_cons (ev_var rfl) (ea_cons ev_c ea_nil))) fun H2 e2 => ⟨t, rfl, hT.mono (e1.trans e2), r1, show row ≤ 0 by omega, show (0 : Int) ≤ 25 by decide⟩) sm0 (sum_sm hT.tok hT.kl row (0 - row).toNat (by omega) (by omega)) trivial) fun v H2 e2 hv => k v H2 (e1.trans e2) ?_
      show IsW K (sumd d.f row) v H2
      unfold sumd
      rw [if_pos hb]
      exact hv
    · have hb := of_decide_eq_false hb
      refine s_retR (er_methA (A := AStr K CL CZ CT n) (B := fun d => IsW K (sumF d.1.f d.2.1 (d.2.2 - d.2.1).toNat)) (d, 0, row) (ev_var rfl) (i1.mono e1) rfl (ea_cons (ev_var rfl) (ea_cons ev_c (ea_cons (ev_var rfl) ea_nil))) fun H2 e2 => ⟨t, rfl, hT.mono (e1.trans e2), show (-14 : Int) ≤ 0 by decide, show 0 ≤ row by omega, r2⟩) fun v H2 e2 hv => k v H2 (e1.trans e2) ?_
      show IsW K (sumd d.f row) v H2
      unfold sumd
      rw [if_neg hb]
      have e0 : row - 0 = row := by omega
      have hv : IsW K (sumF d.f 0 (row - 0).toNat) v H2 := hv
      rw [e0] at hv
      exact hv
  exact G.mono (by omega)
end
end Tb

/-! ## TbTab6 -/
set_option Elab.async false
set_option linter.all false
set_option maxRecDepth 100000
set_option maxHeartbeats 4000000
namespace Tb
open PySem PySem.Spec PyProof.Rows L2 Evl
section
variable {P : Program} {w : World} {K : PySem.W.Frag} {mg : Str → Option Value} {base : Heap} {CL CZ CT NO MA : Addr} {f : Addr} {fd : FuncData}
abbrev FnPlus (P : Program) (w : World) (K : PySem.W.Frag) (mg : Str → Option Value) (base : Heap) : Prop := Fn P w K mg base 3 "plus" ["one", "other"] (spW2 K Any2 (· + ·))
abbrev FnMinus (P : Program) (w : World) (K : PySem.W.Frag) (mg : Str → Option Value) (base : Heap) : Prop := Fn P w K mg base 3 "minus" ["one", "other"] (spW2 K Any2 (· - ·))
abbrev FnTimes (P : Program) (w : World) (K : PySem.W.Frag) (mg : Str → Option Value) (base : Heap) : Prop := Fn P w K mg base 3 "times" ["one", "other"] (spW2 K Any2 (· * ·))
abbrev FnOver (P : Program) (w : World) (K : PySem.W.Frag) (mg : Str → Option Value) (base : Heap) : Prop := Fn P w K mg base 3 "over" ["one", "other"] (spW2 K Pos2 (· / ·))
abbrev FnBetween (P : Program) (w : World) (K : PySem.W.Frag) (mg : Str → Option Value) (base : Heap) : Prop := Fn P w K mg base 4 "between" ["corners", "thing"] (spBent K)
theorem wn {s t : Str} (h : decide (V.str s = V.str t) = true) (n : s ≠ t) : False := n (V.str.inj (of_decide_eq_true h))
theorem QOk.s {q : Rat} (h : QOk q) : Sm q := h.bd.sm1 (by decide +kernel)
theorem TabIn.q {H : Hp} {t : Addr} {d : TD} {n a : Nat} {q : Rat} (h : TabIn K CL CZ CT H t d n) (e : d.m = .times a q ∨ d.m = .along a q) : QOk q := by
  rcases e with e | e
  · exact h.tok.times d.k a q e
  · exact h.tok.along d.k a q e
theorem sumd_sm {ms : List Made} (h : TabOk ms) {k : Nat} (hk : k < ms.length) {row : Int} (r1 : -14 ≤ row) (r2 : row ≤ 25) : Sm (sumd (Tb.val ms k) row) := by
  unfold sumd
  split
  · exact neg_sm h hk row _ r1 (by omega)
  · exact sum_sm h hk 0 _ (by omega) (by omega)
/-- the steps: a column's worth by those of columns ahead -/
theorem sc_Table_value : FnScope ["self", "name", "row", "made", "one"] ["self", "name", "row"] (defScope s_Table_value) := ⟨rfl, rfl, rfl, by decide +kernel, rfl, by decide +kernel, by decide +kernel⟩
theorem ok_Table_value (n : Nat) (T : Txt K w mg CL CZ CT NO MA) (h_plus : FnPlus P w K mg base) (h_minus : FnMinus P w K mg base) (h_times : FnTimes P w K mg base) (h_between : FnBetween P w K mg base)
    (h_Line_value : Me P w K mg base CL 7 "value" ["self", "row"] (spLVal K CL)) (h_Zones_value : Me P w K mg base CZ 5 "value" ["self", "row"] (spZVal K CZ)) (h_Table_rule_of : Me P w K mg base CT 2 "rule_of" ["self", "name"] (spRule K CL CZ CT))
    (h_Table_summed : Me P w K mg base CT (12 + 5 * n) "summed" ["self", "name", "row"] (spSummed K CL CZ CT n)) (h_Table_value : Me P w K mg base CT (8 + 5 * n) "value" ["self", "name", "row"] (spVal K CL CZ CT n))
    (F : FunD K "value" "Table.value" (defArgs s_Table_value) (defBody s_Table_value) (defScope s_Table_value) [] [] f fd) : FnOk P w K mg base CX0 (8 + 5 * (n + 1)) f fd ["self", "name", "row"] (spVal K CL CZ CT (n + 1)) := by
  have G : FnOk P w K mg base CX0 ((12 + 5 * n) + 1) f fd ["self", "name", "row"] (spVal K CL CZ CT (n + 1)) := by
    refine F.ok sc_Table_value aval_len (fun cdv A outer s H vs Q E hr h => ?_)
    obtain ⟨⟨d, row⟩, ⟨t, rfl, hT, r1, r2⟩, k⟩ := h
    refine ⟨_, PSs.nox (pss_cons (ps_set (i := 3) sc_Table_value.nd rfl (Or.inl rfl) (pe_me h_Table_rule_of T.c_Table (hr.mono (by omega)) (pv 0) (pa_cons (pv 1) pa_nil)))
    (pss_cons (ps_if (pt_not (pt_val (pe_callB call_isi (by rfl) T.f_isinstance (by decide +kernel) (pa_cons (pv 3) (pa_cons (pe_ty (n := "tuple") (by rfl) T.f_tuple (by decide +kernel)) pa_nil))))) (pss_one (ps_ret (PE.or (pe_me h_Line_value T.c_Line (hr.mono (by omega)) (pv 3) (pa_cons (pv 2) pa_nil)) (pe_me h_Zones_value T.c_Zones (hr.mono (by omega)) (pv 3) (pa_cons (pv 2) pa_nil))))) pss_nil)
    (pss_cons (ps_if (pt_cmpR op_eq (pe_ix ix_tup (pv 3) pe_int (fun _ _ => rfl)) pe_str (nomark _)) (pss_one (ps_ret (pe_fn h_plus (hr.mono (by omega)) rfl (pa_cons (pe_ix ix_tup (pv 3) pe_int (fun _ _ => rfl)) (pa_cons (pe_me h_Table_summed T.c_Table (hr.mono (by omega)) (pv 0) (pa_cons (pe_ix ix_tup (pv 3) pe_int (fun _ _ => rfl)) (pa_cons (pv 2) pa_nil))) pa_nil))))) pss_nil)
    (pss_cons (ps_set (i := 4) sc_Table_value.nd rfl (Or.inl rfl) (pe_me h_Table_value T.c_Table (hr.mono (by omega)) (pv 0) (pa_cons (pe_ix ix_tup (pv 3) pe_int (fun _ _ => rfl)) (pa_cons (pv 2) pa_nil))))
    (pss_cons (ps_if (pt_cmpR op_eq (pe_ix ix_tup (pv 3) pe_int (fun _ _ => rfl)) pe_str (nomark _)) (pss_one (ps_ret (pe_fn h_plus (hr.mono (by omega)) rfl (pa_cons (pv 4) (pa_cons (pe_me h_Table_value T.c_Table (hr.mono (by omega)) (pv 0) (pa_cons (pe_ix ix_tup (pv 3) pe_int (fun _ _ => rfl)) (pa_cons (pv 2) pa_nil))) pa_nil))))) pss_nil)
    (pss_cons (ps_if (pt_cmpR op_eq (pe_ix ix_tup (pv 3) pe_int (fun _ _ => rfl)) pe_str (nomark _)) (pss_one (ps_ret (pe_fn h_minus (hr.mono (by omega)) rfl (pa_cons (pv 4) (pa_cons (pe_me h_Table_value T.c_Table (hr.mono (by omega)) (pv 0) (pa_cons (pe_ix ix_tup (pv 3) pe_int (fun _ _ => rfl)) (pa_cons (pv 2) pa_nil))) pa_nil))))) pss_nil)
    (pss_cons (ps_if (pt_cmpR op_eq (pe_ix ix_tup (pv 3) pe_int (fun _ _ => rfl)) pe_str (nomark _)) (pss_one (ps_ret (pe_fn h_times (hr.mono (by omega)) rfl (pa_cons (pv 4) (pa_cons (pe_ix ix_tup (pv 3) pe_int (fun _ _ => rfl)) pa_nil))))) pss_nil)
    (pss_one (ps_ret (pe_fn h_between (hr.mono (by omega)) rfl (pa_cons (pe_ix ix_tup (pv 3) pe_int (fun _ _ => rfl)) (pa_cons (pv 4) pa_nil)))))))))))), ?_⟩
    have r1 : -14 ≤ row := r1
    have r2 : row ≤ 25 := r2
    have hT : TabIn K CL CZ CT H t d (n + 1) := hT
    obtain ⟨dd, kvs, i1, _⟩ := hT.at_.ex
    have fe := TD.f_eq hT.tok
    have k : ∀ v H', Ex H H' → IsW K (d.f row) v H' → Q v H' := k
    refine q_asgR (er_rule (ev_var rfl) hT (ev_var rfl)) fun v H1 e1 ⟨fp, hm⟩ => ?_
    have hT1 := hT.mono e1
    refine q_when (b := !isTup d.m) (et_not (et_B (ev_isTup T (ev_var rfl) hm))) (fun hb H2 e2 => ?_) (fun hb H2 e2 => ?_)
    · cases e : d.m with
      | base g =>
        rw [e] at hm fe
        refine s_retR (er_base (ev_var rfl) (hm.mono e2) (ev_var rfl) (by omega) (by omega)) fun v2 H3 e3 hv => k v2 H3 ((e1.trans e2).trans e3) ?_
        rw [fe]
        exact hv
      | _ =>
        rw [e] at hb
        cases hb
    · have ht : isTup d.m = true := by
        cases h : isTup d.m with
        | true => rfl
        | false =>
          rw [h] at hb
          cases hb
      have hm2 := hm.mono e2
      have e12 := e1.trans e2
      obtain ⟨p, z, rfl, h3, h3d⟩ := hm2.third ht
      have x0 : ∀ {σ : L2.St} {H3 : Hp}, Ex H2 H3 → σ[3]? = some (some (.ref p)) → Ev (tOp (rIxT K) (tVar 3) (tC (.int 0))) σ H3 (.str (word d.m)) := fun e3 h => ev_op (ev_var h) ev_c (rv_ixT (ex_t e3 h3) rfl)
      have x1 : ∀ {σ : L2.St} {H3 : Hp}, Ex H2 H3 → σ[3]? = some (some (.ref p)) → Ev (tOp (rIxT K) (tVar 3) (tC (.int 1))) σ H3 (.str (nmAt d.nm (ref1 d.m))) := fun e3 h => ev_op (ev_var h) ev_c (rv_ixT (ex_t e3 h3) rfl)
      have x2 : ∀ {σ : L2.St} {H3 : Hp}, Ex H2 H3 → σ[3]? = some (some (.ref p)) → Ev (tOp (rIxT K) (tVar 3) (tC (.int 2))) σ H3 z := fun e3 h => ev_op (ev_var h) ev_c (rv_ixT (ex_t e3 h3) rfl)
      have rf : ref1 d.m ∈ refs d.m := by
        cases e : d.m with
        | base g =>
          rw [e] at ht
          cases ht
        | _ => simp [ref1, refs]
      have hR := (hT.mono e12).ref rf
      refine q_when (b := decide (V.str (word d.m) = V.str "along")) (et_test (ev_op (x0 (Ex.refl H2) rfl) ev_c (rv_eq rfl))) (fun hb3 H3 e3 => ?_) (fun hb3 H3 e3 => ?_)
      · cases e : d.m with
        | along a q =>
          rw [e] at h3d fe hR
          simp only [e] at x1 x2
          obtain ⟨c, rfl, hc⟩ := h3d
          have sq := (hT.q (.inr e)).s
          have ss := sumd_sm hR.tok hR.kl r1 r2
          refine s_retR (ew_2 (ew_of (x2 e3 rfl) (hc.mono e3)) (er_methA (A := AVal K CL CZ CT n) (B := fun d => IsW K (sumd d.1.f d.2)) ({ d with k := a }, row) (ev_var rfl) ((i1.mono e12).mono e3) rfl (ea_cons (x1 e3 rfl) (ea_cons (ev_var rfl) ea_nil)) fun H4 e4 => ⟨t, rfl, hR.mono (e3.trans e4), r1, r2⟩) sq ss trivial) fun v2 H4 e4 hv => k v2 H4 ((e12.trans e3).trans e4) ?_
          rw [fe]
          exact hv
        | base g =>
          rw [e] at ht
          cases ht
        | sum a b =>
          rw [e] at hb3
          exact (wn hb3 (show ("sum" : Str) ≠ "along" by decide +kernel)).elim
        | less a b =>
          rw [e] at hb3
          exact (wn hb3 (show ("less" : Str) ≠ "along" by decide +kernel)).elim
        | times a b =>
          rw [e] at hb3
          exact (wn hb3 (show ("times" : Str) ≠ "along" by decide +kernel)).elim
        | by_ a b =>
          rw [e] at hb3
          exact (wn hb3 (show ("by" : Str) ≠ "along" by decide +kernel)).elim
      · have e13 := e12.trans e3
        refine q_asgW (er_methA (A := AVal K CL CZ CT n) (B := fun d => IsW K (d.1.f d.2)) ({ d with k := ref1 d.m }, row) (ev_var rfl) (i1.mono e13) rfl (ea_cons (x1 e3 rfl) (ea_cons (ev_var rfl) ea_nil)) fun H4 e4 => ⟨t, rfl, hR.mono (e3.trans e4), r1, r2⟩) fun c1 H4 e4 w1 => ?_
        have e34 := e3.trans e4
        have s1 := (val_tame hR.tok hR.kl r1 r2).s
        have w1 : WAt K H4 c1 (Tb.val d.ms (ref1 d.m) row) := w1
        have s1 : Sm (Tb.val d.ms (ref1 d.m) row) := s1
        refine q_when (b := decide (V.str (word d.m) = V.str "sum")) (et_test (ev_op (x0 e34 rfl) ev_c (rv_eq rfl))) (fun hb4 H5 e5 => ?_) (fun hb4 H5 e5 => ?_)
        · cases e : d.m with
          | sum a b =>
            rw [e] at h3d fe
            simp only [e] at x2 w1 s1
            subst h3d
            have rb : b ∈ refs (made d.ms d.k) := by
              show b ∈ refs d.m
              rw [e]
              simp [refs]
            have hB := (hT.mono e12).ref rb
            have s2 := (val_tame hB.tok hB.kl r1 r2).s
            refine s_retR (ew_2 (ew_var rfl (w1.mono e5)) (er_methA (A := AVal K CL CZ CT n) (B := fun d => IsW K (d.1.f d.2)) ({ d with k := b }, row) (ev_var rfl) (((i1.mono e12).mono e34).mono e5) rfl (ea_cons (x2 (e34.trans e5) rfl) (ea_cons (ev_var rfl) ea_nil)) fun H6 e6 => ⟨t, rfl, hB.mono ((e34.trans e5).trans e6), r1, r2⟩) s1 s2 trivial) fun v2 H6 e6 hv => k v2 H6 ((e12.trans (e34.trans e5)).trans e6) ?_
            rw [fe]
            exact hv
          | base g =>
            rw [e] at ht
            cases ht
          | along a b =>
            rw [e] at hb4
            exact (wn hb4 (show ("along" : Str) ≠ "sum" by decide +kernel)).elim
          | less a b =>
            rw [e] at hb4
            exact (wn hb4 (show ("less" : Str) ≠ "sum" by decide +kernel)).elim
          | times a b =>
            rw [e] at hb4
            exact (wn hb4 (show ("times" : Str) ≠ "sum" by decide +kernel)).elim
          | by_ a b =>
            rw [e] at hb4
            exact (wn hb4 (show ("by" : Str) ≠ "sum" by decide +kernel)).elim
        · have e35 := e34.trans e5
          refine q_when (b := decide (V.str (word d.m) = V.str "less")) (et_test (ev_op (x0 e35 rfl) ev_c (rv_eq rfl))) (fun hb5 H6 e6 => ?_) (fun hb5 H6 e6 => ?_)
          · cases e : d.m with
            | less a b =>
              rw [e] at h3d fe
              simp only [e] at x2 w1 s1
              subst h3d
              have rb : b ∈ refs (made d.ms d.k) := by
                show b ∈ refs d.m
                rw [e]
                simp [refs]
              have hB := (hT.mono e12).ref rb
              have s2 := (val_tame hB.tok hB.kl r1 r2).s
              refine s_retR (ew_2 (ew_var rfl ((w1.mono e5).mono e6)) (er_methA (A := AVal K CL CZ CT n) (B := fun d => IsW K (d.1.f d.2)) ({ d with k := b }, row) (ev_var rfl) (((i1.mono e12).mono e35).mono e6) rfl (ea_cons (x2 (e35.trans e6) rfl) (ea_cons (ev_var rfl) ea_nil)) fun H7 e7 => ⟨t, rfl, hB.mono ((e35.trans e6).trans e7), r1, r2⟩) s1 s2 trivial) fun v2 H7 e7 hv => k v2 H7 ((e12.trans (e35.trans e6)).trans e7) ?_
              rw [fe]
              exact hv
            | base g =>
              rw [e] at ht
              cases ht
            | along a b =>
              rw [e] at hb5
              exact (wn hb5 (show ("along" : Str) ≠ "less" by decide +kernel)).elim
            | sum a b =>
              rw [e] at hb5
              exact (wn hb5 (show ("sum" : Str) ≠ "less" by decide +kernel)).elim
            | times a b =>
              rw [e] at hb5
              exact (wn hb5 (show ("times" : Str) ≠ "less" by decide +kernel)).elim
            | by_ a b =>
              rw [e] at hb5
              exact (wn hb5 (show ("by" : Str) ≠ "less" by decide +kernel)).elim
          · have e36 := e35.trans e6
            have w1 := (w1.mono e5).mono e6
            refine q_when (b := decide (V.str (word d.m) = V.str "times")) (et_test (ev_op (x0 e36 rfl) ev_c (rv_eq rfl))) (fun hb6 H7 e7 => ?_) (fun hb6 H7 e7 => ?_)
            · cases e : d.m with
              | times a q =>
                rw [e] at h3d fe
                simp only [e] at x2 w1 s1
                obtain ⟨c, rfl, hc⟩ := h3d
                have sq := (hT.q (.inl e)).s
                refine s_retR (ew_2 (ew_var rfl (w1.mono e7)) (ew_of (x2 (e36.trans e7) rfl) (hc.mono (e36.trans e7))) s1 sq trivial) fun v2 H8 e8 hv => k v2 H8 ((e12.trans (e36.trans e7)).trans e8) ?_
                rw [fe]
                exact hv
              | base g =>
                rw [e] at ht
                cases ht
              | along a b =>
                rw [e] at hb6
                exact (wn hb6 (show ("along" : Str) ≠ "times" by decide +kernel)).elim
              | sum a b =>
                rw [e] at hb6
                exact (wn hb6 (show ("sum" : Str) ≠ "times" by decide +kernel)).elim
              | less a b =>
                rw [e] at hb6
                exact (wn hb6 (show ("less" : Str) ≠ "times" by decide +kernel)).elim
              | by_ a b =>
                rw [e] at hb6
                exact (wn hb6 (show ("by" : Str) ≠ "times" by decide +kernel)).elim
            · cases e : d.m with
              | by_ a cs =>
                rw [e] at h3d fe hR
                simp only [e] at x2 w1 s1
                obtain ⟨l, rfl, hc, ok, _⟩ := h3d
                have tm := val_tame hR.tok hR.kl r1 r2
                refine s_retR (er_call2 (A := ABent K) (B := fun d => IsW K (bent d.1 d.2)) (R1 := fun v _ => v = .ref l) (R2 := fun v _ => v = .ref c1) (cs, Tb.val d.ms a row) (er_of (x2 (e36.trans e7) rfl) fun _ _ => rfl) (er_of (ev_var rfl) fun _ _ => rfl) eq_mon fun x y G eG hx hy =>
                  ⟨l, c1, _, _, by rw [hx, hy], hc.mono ((e36.trans e7).trans eG), ok, w1.mono (e7.trans eG), tm⟩) fun v2 H8 e8 hv => k v2 H8 ((e12.trans (e36.trans e7)).trans e8) ?_
                rw [fe]
                exact hv
              | base g =>
                rw [e] at ht
                cases ht
              | along a b =>
                rw [e] at hb3
                exact absurd rfl (of_decide_eq_false hb3)
              | sum a b =>
                rw [e] at hb4
                exact absurd rfl (of_decide_eq_false hb4)
              | less a b =>
                rw [e] at hb5
                exact absurd rfl (of_decide_eq_false hb5)
              | times a b =>
                rw [e] at hb6
                exact absurd rfl (of_decide_eq_false hb6)
  exact G.mono (by omega)
end
end Tb

/-! ## TbTab7 -/
set_option Elab.async false
set_option linter.all false
set_option maxRecDepth 100000
set_option maxHeartbeats 4000000
namespace Tb
open PySem PySem.Spec PyProof.Rows L2 Evl
section
variable {P : Program} {w : World} {K : PySem.W.Frag} {mg : Str → Option Value} {base : Heap} {CL CZ CT NO MA : Addr} {f : Addr} {fd : FuncData}
theorem sc_Table_run : FnScope ["self", "name", "along", "first", "end", "found", "here", "thing"] ["self", "name", "along", "first", "end"] (defScope s_Table_run) := ⟨rfl, rfl, rfl, by decide +kernel, rfl, by decide +kernel, by decide +kernel⟩
theorem ok_Table_run (n : Nat) (T : Txt K w mg CL CZ CT NO MA) (h_plus : FnPlus P w K mg base) (h_Table_value : Me P w K mg base CT (8 + 5 * (n + 1)) "value" ["self", "name", "row"] (spVal K CL CZ CT (n + 1)))
    (h_Table_worths : Me P w K mg base CT (10 + 5 * n) "worths" ["self", "name", "first", "end"] (spWor K CL CZ CT n))
    (F : FunD K "run" "Table.run" (defArgs s_Table_run) (defBody s_Table_run) (defScope s_Table_run) [] [] f fd) : FnOk P w K mg base CX0 (9 + 5 * (n + 1)) f fd ["self", "name", "along", "first", "end"] (spRun K CL CZ CT (n + 1)) := by
  have G : FnOk P w K mg base CX0 ((8 + 5 * (n + 1)) + 1) f fd ["self", "name", "along", "first", "end"] (spRun K CL CZ CT (n + 1)) := by
    refine F.ok sc_Table_run (fun vs H Q E h => ?_) (fun cdv A outer s H vs Q E hr h => ?_)
    · obtain ⟨_, ⟨_, _, _, rfl, _⟩, _⟩ := h
      rfl
    obtain ⟨⟨d, lo, hi⟩, ⟨t, a, q, rfl, e, hT, r1, r2, r3⟩, k⟩ := h
    refine ⟨_, PSs.nox (pss_cons (ps_set (i := 5) sc_Table_run.nd rfl (Or.inl rfl) (pe_lst pa_nil))
    (pss_cons (ps_set (i := 6) sc_Table_run.nd rfl (Or.inl rfl) (pe_ifExp (pt_cmpR op_gt (pv 4) (pv 3) (nomark _)) (pe_me h_Table_value T.c_Table (hr.mono (by omega)) (pv 0) (pa_cons (pv 1) (pa_cons (pv 3) pa_nil))) (pe_gref rfl T.g_NOUGHT)))
    (pss_cons (ps_for PassesOwn.never rfl (pi_list (pe_me h_Table_worths T.c_Table (hr.mono (by omega)) (pv 0) (pa_cons (pv 2) (pa_cons (pv 3) (pa_cons (pv 4) pa_nil))))) (pg_name (i := 7) sc_Table_run.nd rfl (Or.inl rfl))
    (pss_cons (ps_expr (pe_bm PySem.F.plainAttrs_list PySem.F.slot_list_append PySem.F.type_list_append mt_append (pv 5) (pa_cons (pv 6) pa_nil)))
      (pss_one (ps_set (i := 6) sc_Table_run.nd rfl (Or.inl rfl) (pe_fn h_plus (hr.mono (by omega)) rfl (pa_cons (pv 6) (pa_cons (pv 7) pa_nil)))))))
    (pss_one (ps_ret (pv 5)))))), ?_⟩
    have r1 : -14 ≤ lo := r1
    have r2 : lo ≤ hi := r2
    have r3 : hi ≤ 25 := r3
    have e : d.m = .along a q := e
    have hT : TabIn K CL CZ CT H t d (n + 1) := hT
    obtain ⟨dd, kvs, i1, _⟩ := hT.at_.ex
    have fe := TD.f_eq hT.tok
    rw [e] at fe
    have rf : a ∈ refs (made d.ms d.k) := by
      show a ∈ refs d.m
      rw [e]
      simp [refs]
    have hR := hT.ref rf
    have step : ∀ row : Int, d.f (row + 1) = d.f row + Tb.val d.ms a row := fun row => by
      rw [fe]
      exact along_step _ _ _
    refine q_asgL (el_lst ea_nil (by decide)) fun l H1 nl e1 hl => ?_
    have hif : EvR (tIf (tTest (tOp (rI0 fun i j => .bl (decide (j < i))) (tVar 4) (tVar 3))) (tMeth CT "value" (spVal K CL CZ CT (n + 1)) [] E0 (tVar 0) (tCons (tVar 1) (tCons (tVar 3) tNil))) (tC (.ref NO)))
        [some (.ref t), some (.str (nmAt d.nm d.k)), some (.str (nmAt d.nm a)), some (.int lo), some (.int hi), some (.ref l), none, none] H1 (fun v H2 => ∃ c, v = .ref c ∧ (lo < hi → WAt K H2 c (d.f lo))) := fun H2 e2 Q2 q2 => by
      refine (et_test (ev_op (ev_var rfl) (ev_var rfl) (rv_b (b := decide (lo < hi)) rfl))) H2 e2 _ fun H3 e3 => ?_
      by_cases hlt : lo < hi
      · rw [decide_eq_true hlt]
        refine iteT ?_
        exact (er_methA (A := AVal K CL CZ CT (n + 1)) (B := fun d => IsW K (d.1.f d.2)) (d, lo) (ev_var rfl) (i1.mono e1) rfl (ea_cons (ev_var rfl) (ea_cons (ev_var rfl) ea_nil)) fun H4 e4 => ⟨t, rfl, hT.mono (e1.trans e4), r1, show lo ≤ 25 by omega⟩) H3 (e2.trans e3) _ fun v H4 e4 ⟨c, hv, hc⟩ => q2 v H4 (e3.trans e4) ⟨c, hv, fun _ => hc⟩
      · rw [decide_eq_false hlt]
        refine iteF ?_
        exact q2 _ H3 e3 ⟨NO, rfl, fun h => absurd h hlt⟩
    refine q_asgR hif fun v H2 e2 ⟨c, hv, hc⟩ => ?_
    subst hv
    have e12 := e1.trans e2
    have hl2 := e2 _ _ hl
    refine q_forN (en_methA (A := AStr K CL CZ CT n) (B := fun d => RowW K d.1.f d.2.1 d.2.2) ({ d with k := a }, lo, hi) (ev_var rfl) (i1.mono e12) rfl
      (ea_cons (ev_var rfl) (ea_cons (ev_var rfl) (ea_cons (ev_var rfl) ea_nil))) (fun H4 e4 => ⟨t, rfl, hR.mono (e12.trans e4), r1, r2, r3⟩)) fun p xs H4 n4 e4 hp hx => ?_
    have hx : Each (hi - lo).toNat (fun i => IsW K (Tb.val d.ms a (lo + (i : Int)))) xs H4 := hx
    have hl4 := e4 _ _ hl2
    have npl : p ≠ l := fun z => by
      rw [z, hl2] at n4
      cases n4
    have e14 := e12.trans e4
    refine ⟨fun i σ' H' => ∃ b z acc, σ' = [some (.ref t), some (.str (nmAt d.nm d.k)), some (.str (nmAt d.nm a)), some (.int lo), some (.int hi), some (.ref l), some (.ref b), z] ∧ Ek l H4 H' ∧ H' l = some (.lst acc) ∧ Each i (fun j => IsW K (d.f (lo + (j : Int)))) acc H' ∧ (lo < hi → WAt K H' b (d.f (lo + (i : Int)))),
      ⟨c, none, [], rfl, Ek.refl _ _, hl4, ⟨rfl, fun i x hx => by simp at hx⟩, fun h => ?_⟩, (fun i σ' H' _ ⟨_, _, _, _, e, _⟩ => sq_of (e _ _ hp npl)), ?_, ?_⟩
    · have : lo + ((0 : Nat) : Int) = lo := by omega
      rw [this]
      exact (hc h).mono e4
    · rintro i x σ' H' hxi ⟨b, z, acc, rfl, ek, hacc, hE, hb⟩
      have hi' : i < (hi - lo).toNat := by
        have := (List.getElem?_eq_some_iff.mp hxi).1
        rw [hx.1] at this
        exact this
      have hlt : lo < hi := by omega
      obtain ⟨y, rfl, hy⟩ := isw_monL _ _ _ _ _ hl4 ek (hx.2 i x hxi)
      have hb := hb hlt
      have s1 := (val_tame hT.tok hT.kl (row := lo + (i : Int)) (by omega) (by omega)).s
      have s2 := (val_tame hR.tok hR.kl (row := lo + (i : Int)) (by omega) (by omega)).s
      refine q_appR (R := fun v _ => v = .ref b) hacc (ev_var rfl) (er_of (ev_var rfl) fun _ _ => rfl) (by rw [hE.1]; omega) fun v H5 e5 hv => ?_
      subst hv
      have hacc5 := e5 _ _ hacc
      have ku : Ek l H5 (upd H5 l (.lst (acc ++ [.ref b]))) := Ek.upd
      refine s_asgR (ew_2 (ew_var rfl (ku.watL hacc5 (hb.mono e5))) (ew_var rfl (ku.watL hacc5 (hy.mono e5))) s1 s2 trivial) fun v H6 e6 ⟨c6, hv6, hc6⟩ => ?_
      subst hv6
      refine ⟨c6, _, acc ++ [.ref b], rfl, ((ek.trans (ekx e5)).set).trans (ekx e6), e6 _ _ upd_same, (((hE.ex e5 isw_mons).app hacc5 ku isw_monLs ⟨b, rfl, hb.mono e5⟩).ex e6 isw_mons), fun _ => ?_⟩
      have : lo + ((i + 1 : Nat) : Int) = (lo + (i : Int)) + 1 := by omega
      rw [this, step]
      exact hc6
    · rintro σ' H' ⟨b, z, acc, rfl, ek, hacc, hE, hb⟩
      have : xs.length = (hi - lo).toNat := hx.1
      rw [this] at hE
      refine ⟨_, rfl, k l acc H' nl (fun u o hu => ?_) hacc hE⟩
      exact ek _ _ (e14 _ _ hu) (ne_of_none hu nl)
  exact G.mono (by omega)
theorem sc_Table_worths : FnScope ["self", "name", "first", "end", "made", "some", "others", "one", "other", "row", "thing"] ["self", "name", "first", "end"] (defScope s_Table_worths) := ⟨rfl, rfl, rfl, by decide +kernel, rfl, by decide +kernel, by decide +kernel⟩
theorem ok_Table_worths (n : Nat) (T : Txt K w mg CL CZ CT NO MA) (h_plus : FnPlus P w K mg base) (h_minus : FnMinus P w K mg base) (h_times : FnTimes P w K mg base) (h_between : FnBetween P w K mg base)
    (h_Line_value : Me P w K mg base CL 7 "value" ["self", "row"] (spLVal K CL)) (h_Zones_value : Me P w K mg base CZ 5 "value" ["self", "row"] (spZVal K CZ)) (h_Table_rule_of : Me P w K mg base CT 2 "rule_of" ["self", "name"] (spRule K CL CZ CT))
    (h_Table_run : Me P w K mg base CT (9 + 5 * (n + 1)) "run" ["self", "name", "along", "first", "end"] (spRun K CL CZ CT (n + 1))) (h_Table_worths : Me P w K mg base CT (10 + 5 * n) "worths" ["self", "name", "first", "end"] (spWor K CL CZ CT n))
    (F : FunD K "worths" "Table.worths" (defArgs s_Table_worths) (defBody s_Table_worths) (defScope s_Table_worths) [] [] f fd) : FnOk P w K mg base CX0 (10 + 5 * (n + 1)) f fd ["self", "name", "first", "end"] (spWor K CL CZ CT (n + 1)) := by
  have G : FnOk P w K mg base CX0 ((9 + 5 * (n + 1)) + 1) f fd ["self", "name", "first", "end"] (spWor K CL CZ CT (n + 1)) := by
    refine F.ok sc_Table_worths (fun vs H Q E h => ?_) (fun cdv A outer s H vs Q E hr h => ?_)
    · obtain ⟨_, ⟨_, rfl, _⟩, _⟩ := h
      rfl
    obtain ⟨⟨d, lo, hi⟩, ⟨t, rfl, hT, r1, r2, r3⟩, k⟩ := h
    refine ⟨_, PSs.nox (pss_cons (ps_set (i := 4) sc_Table_worths.nd rfl (Or.inr rfl) (pe_me h_Table_rule_of T.c_Table (hr.mono (by omega)) (pv 0) (pa_cons (pv 1) pa_nil)))
    (pss_cons (ps_if (pt_not (pt_val (pe_callB call_isi (by rfl) T.f_isinstance (by decide +kernel) (pa_cons (pv 4) (pa_cons (pe_ty (n := "tuple") (by rfl) T.f_tuple (by decide +kernel)) pa_nil))))) (pss_one (ps_ret (pe_lc (own := [("row", 9)]) (g := gName 9) (tt := tYes) rfl sc_Table_worths.nd (pi_range2 rfl T.f_range (pa_cons (pv 2) (pa_cons (pv 3) pa_nil))) (blkOk_by (own := [("row", 9)]) (N := ["self", "name", "first", "end", "made", "some", "others", "one", "other", "row", "thing"]) (sc := defScope s_Table_worths) (by decide +kernel)) (fun _ _ _ _ _ => (pg_name (i := 9) sc_Table_worths.nd rfl (Or.inl rfl))) (fun _ _ _ _ _ => pts_nil) (fun _ _ _ _ _ => (PE.or (pe_me h_Line_value T.c_Line (hr.mono (by omega)) (pv 4) (pa_cons (pv 9) pa_nil)) (pe_me h_Zones_value T.c_Zones (hr.mono (by omega)) (pv 4) (pa_cons (pv 9) pa_nil))))))) pss_nil)
    (pss_cons (ps_if (pt_cmpR op_eq (pe_ix ix_tup (pv 4) pe_int (fun _ _ => rfl)) pe_str (nomark _)) (pss_one (ps_ret (pe_me h_Table_run T.c_Table (hr.mono (by omega)) (pv 0) (pa_cons (pv 1) (pa_cons (pe_ix ix_tup (pv 4) pe_int (fun _ _ => rfl)) (pa_cons (pv 2) (pa_cons (pv 3) pa_nil))))))) pss_nil)
    (pss_cons (ps_set (i := 5) sc_Table_worths.nd rfl (Or.inl rfl) (pe_me h_Table_worths T.c_Table (hr.mono (by omega)) (pv 0) (pa_cons (pe_ix ix_tup (pv 4) pe_int (fun _ _ => rfl)) (pa_cons (pv 2) (pa_cons (pv 3) pa_nil)))))
    (pss_cons (ps_if (pt_cmpR op_eq (pe_ix ix_tup (pv 4) pe_int (fun _ _ => rfl)) pe_str (nomark _)) (pss_one (ps_ret (pe_lc (own := [("thing", 10)]) (g := gName 10) (tt := tYes) rfl sc_Table_worths.nd (pi_list (pv 5)) (blkOk_by (own := [("thing", 10)]) (N := ["self", "name", "first", "end", "made", "some", "others", "one", "other", "row", "thing"]) (sc := defScope s_Table_worths) (by decide +kernel)) (fun _ _ _ _ _ => (pg_name (i := 10) sc_Table_worths.nd rfl (Or.inl rfl))) (fun _ _ _ _ _ => pts_nil) (fun _ _ _ _ _ => (pe_fn h_times (hr.mono (by omega)) rfl (pa_cons (pv 10) (pa_cons (pe_ix (ix_tupB (K := K)) (pv 4) pe_int (fun _ _ => rfl)) pa_nil))))))) pss_nil)
    (pss_cons (ps_if (pt_cmpR op_eq (pe_ix ix_tup (pv 4) pe_int (fun _ _ => rfl)) pe_str (nomark _)) (pss_one (ps_ret (pe_lc (own := [("thing", 10)]) (g := gName 10) (tt := tYes) rfl sc_Table_worths.nd (pi_list (pv 5)) (blkOk_by (own := [("thing", 10)]) (N := ["self", "name", "first", "end", "made", "some", "others", "one", "other", "row", "thing"]) (sc := defScope s_Table_worths) (by decide +kernel)) (fun _ _ _ _ _ => (pg_name (i := 10) sc_Table_worths.nd rfl (Or.inl rfl))) (fun _ _ _ _ _ => pts_nil) (fun _ _ _ _ _ => (pe_fn h_between (hr.mono (by omega)) rfl (pa_cons (pe_ix (ix_tupB (K := K)) (pv 4) pe_int (fun _ _ => rfl)) (pa_cons (pv 10) pa_nil))))))) pss_nil)
    (pss_cons (ps_set (i := 6) sc_Table_worths.nd rfl (Or.inl rfl) (pe_me h_Table_worths T.c_Table (hr.mono (by omega)) (pv 0) (pa_cons (pe_ix ix_tup (pv 4) pe_int (fun _ _ => rfl)) (pa_cons (pv 2) (pa_cons (pv 3) pa_nil)))))
    (pss_cons (ps_if (pt_cmpR op_eq (pe_ix ix_tup (pv 4) pe_int (fun _ _ => rfl)) pe_str (nomark _)) (pss_one (ps_ret (pe_lc (own := [("one", 7), ("other", 8)]) (g := gTup _ 2 (gCons (gName 7) (gCons (gName 8) gNil))) (tt := tYes) rfl sc_Table_worths.nd (pi_zip rfl T.f_zip (pa_cons (pv 5) (pa_cons (pv 6) pa_nil))) (blkOk_by (own := [("one", 7), ("other", 8)]) (N := ["self", "name", "first", "end", "made", "some", "others", "one", "other", "row", "thing"]) (sc := defScope s_Table_worths) (by decide +kernel)) (fun _ _ _ _ _ => (pg_tup rfl (pgs_cons (pg_name (i := 7) sc_Table_worths.nd rfl (Or.inl rfl)) (pgs_cons (pg_name (i := 8) sc_Table_worths.nd rfl (Or.inl rfl)) pgs_nil)))) (fun _ _ _ _ _ => pts_nil) (fun _ _ _ _ _ => (pe_fn h_plus (hr.mono (by omega)) rfl (pa_cons (pv 7) (pa_cons (pv 8) pa_nil))))))) pss_nil)
    (pss_one (ps_ret (pe_lc (own := [("one", 7), ("other", 8)]) (g := gTup _ 2 (gCons (gName 7) (gCons (gName 8) gNil))) (tt := tYes) rfl sc_Table_worths.nd (pi_zip rfl T.f_zip (pa_cons (pv 5) (pa_cons (pv 6) pa_nil))) (blkOk_by (own := [("one", 7), ("other", 8)]) (N := ["self", "name", "first", "end", "made", "some", "others", "one", "other", "row", "thing"]) (sc := defScope s_Table_worths) (by decide +kernel)) (fun _ _ _ _ _ => (pg_tup rfl (pgs_cons (pg_name (i := 7) sc_Table_worths.nd rfl (Or.inl rfl)) (pgs_cons (pg_name (i := 8) sc_Table_worths.nd rfl (Or.inl rfl)) pgs_nil)))) (fun _ _ _ _ _ => pts_nil) (fun _ _ _ _ _ => (pe_fn h_minus (hr.mono (by omega)) rfl (pa_cons (pv 7) (pa_cons (pv 8) pa_nil))))))))))))))), ?_⟩
    have r1 : -14 ≤ lo := r1
    have r2 : lo ≤ hi := r2
    have r3 : hi ≤ 25 := r3
    have hT : TabIn K CL CZ CT H t d (n + 1) := hT
    obtain ⟨dd, kvs, i1, _⟩ := hT.at_.ex
    have fe := TD.f_eq hT.tok
    have k : ∀ p xs H', H p = none → Ex H H' → H' p = some (.lst xs) → Each (hi - lo).toNat (fun i => IsW K (d.f (lo + (i : Int)))) xs H' → Q (.ref p) H' := k
    refine q_asgR (er_rule (ev_var rfl) hT (ev_var rfl)) fun v H1 e1 ⟨fp, hm⟩ => ?_
    refine q_when (b := !isTup d.m) (et_not (et_B (ev_isTup T (ev_var rfl) hm))) (fun hb H2 e2 => ?_) (fun hb H2 e2 => ?_)
    · cases e : d.m with
      | base g =>
        rw [e] at hm fe
        refine s_retN (en_lcR2 (R := fun i => IsW K (d.f (lo + (i : Int)))) isw_mons isw_monLs (ea_cons (ev_var rfl) (ea_cons (ev_var rfl) ea_nil)) (by omega) (fun _ => rfl) fun i hi' => ?_) fun p xs H3 n3 e3 hp hx => k p xs H3 (fresh_back (e1.trans e2) n3) ((e1.trans e2).trans e3) hp hx
        have he : d.f (lo + (i : Int)) = g (lo + (i : Int)) := by
          rw [fe] <;> rfl
        rw [he]
        exact er_base (ev_var rfl) (hm.mono e2) (ev_var rfl) (by omega) (by omega)
      | _ =>
        rw [e] at hb
        cases hb
    · have ht : isTup d.m = true := by
        cases h : isTup d.m with
        | true => rfl
        | false =>
          rw [h] at hb
          cases hb
      have hm2 := hm.mono e2
      have e12 := e1.trans e2
      obtain ⟨p, z, rfl, h3, h3d⟩ := hm2.third ht
      have x0 : ∀ {σ : L2.St} {H3 : Hp}, Ex H2 H3 → σ[4]? = some (some (.ref p)) → Ev (tOp (rIxT K) (tVar 4) (tC (.int 0))) σ H3 (.str (word d.m)) := fun e3 h => ev_op (ev_var h) ev_c (rv_ixT (ex_t e3 h3) rfl)
      have x1 : ∀ {σ : L2.St} {H3 : Hp}, Ex H2 H3 → σ[4]? = some (some (.ref p)) → Ev (tOp (rIxT K) (tVar 4) (tC (.int 1))) σ H3 (.str (nmAt d.nm (ref1 d.m))) := fun e3 h => ev_op (ev_var h) ev_c (rv_ixT (ex_t e3 h3) rfl)
      have x2 : ∀ {σ : L2.St} {H3 : Hp}, Ex H2 H3 → σ[4]? = some (some (.ref p)) → Ev (tOp (rIxT K) (tVar 4) (tC (.int 2))) σ H3 z := fun e3 h => ev_op (ev_var h) ev_c (rv_ixT (ex_t e3 h3) rfl)
      have rf : ref1 d.m ∈ refs d.m := by
        cases e : d.m with
        | base g =>
          rw [e] at ht
          cases ht
        | _ => simp [ref1, refs]
      have hR := (hT.mono e12).ref rf
      refine q_when (b := decide (V.str (word d.m) = V.str "along")) (et_test (ev_op (x0 (Ex.refl H2) rfl) ev_c (rv_eq rfl))) (fun hb3 H3 e3 => ?_) (fun hb3 H3 e3 => ?_)
      · cases e : d.m with
        | along a q =>
          rw [e] at hR
          simp only [e] at x1
          exact s_retN (en_methA (A := ARun K CL CZ CT (n + 1)) (B := fun d => RowW K d.1.f d.2.1 d.2.2) (d, lo, hi) (ev_var rfl) ((i1.mono e12).mono e3) rfl (ea_cons (ev_var rfl) (ea_cons (x1 e3 rfl) (ea_cons (ev_var rfl) (ea_cons (ev_var rfl) ea_nil)))) fun H4 e4 => ⟨t, a, q, rfl, e, (hT.mono e12).mono (e3.trans e4), r1, r2, r3⟩) fun p' xs H4 n4 e4 hp hx => k p' xs H4 (fresh_back (e12.trans e3) n4) ((e12.trans e3).trans e4) hp hx
        | base g =>
          rw [e] at ht
          cases ht
        | sum a b =>
          rw [e] at hb3
          exact (wn hb3 (show ("sum" : Str) ≠ "along" by decide +kernel)).elim
        | less a b =>
          rw [e] at hb3
          exact (wn hb3 (show ("less" : Str) ≠ "along" by decide +kernel)).elim
        | times a b =>
          rw [e] at hb3
          exact (wn hb3 (show ("times" : Str) ≠ "along" by decide +kernel)).elim
        | by_ a b =>
          rw [e] at hb3
          exact (wn hb3 (show ("by" : Str) ≠ "along" by decide +kernel)).elim
      · have e13 := e12.trans e3
        refine q_asgN (en_methA (A := AStr K CL CZ CT n) (B := fun d => RowW K d.1.f d.2.1 d.2.2) ({ d with k := ref1 d.m }, lo, hi) (ev_var rfl) (i1.mono e13) rfl (ea_cons (x1 e3 rfl) (ea_cons (ev_var rfl) (ea_cons (ev_var rfl) ea_nil))) fun H4 e4 => ⟨t, rfl, hR.mono (e3.trans e4), r1, r2, r3⟩) fun l1 us H4 n4 e4 hl1 hus => ?_
        have hus : Each (hi - lo).toNat (fun i => IsW K (Tb.val d.ms (ref1 d.m) (lo + (i : Int)))) us H4 := hus
        have e34 := e3.trans e4
        have s1 : ∀ i : Nat, i < (hi - lo).toNat → Sm (Tb.val d.ms (ref1 d.m) (lo + (i : Int))) := fun i hi' => (val_tame hR.tok hR.kl (row := lo + (i : Int)) (by omega) (by omega)).s
        have lt_of : ∀ {i : Nat} {x : V}, us[i]? = some x → i < (hi - lo).toNat := fun {i x} h => by
          have := (List.getElem?_eq_some_iff.mp h).1
          rw [hus.1] at this
          exact this
        have e14 : Ex H H4 := e12.trans e34
        refine q_when (b := decide (V.str (word d.m) = V.str "times")) (et_test (ev_op (x0 e34 rfl) ev_c (rv_eq rfl))) (fun hb4 H5 e5 => ?_) (fun hb4 H5 e5 => ?_)
        · cases e : d.m with
          | times a q =>
            rw [e] at h3d fe
            simp only [e] at x2 hus s1
            obtain ⟨c, rfl, hc⟩ := h3d
            have sq := (hT.q (.inl e)).s
            have en := en_lcL (K := K) (R := fun i => IsW K (d.f (lo + (i : Int)))) (σ := [some (.ref t), some (.str (nmAt d.nm d.k)), some (.int lo), some (.int hi), some (.ref p), some (.ref l1), none, none, none, none, none]) (H := H5) (te := tCall (spW2 K Any2 (· * ·)) [] E0 (tCons (tVar 10) (tCons (tOp (rIxT K) (tVar 4) (tC (.int 2))) tNil))) (vs := [10]) (j := 10) (tl := tVar 5) isw_mons isw_monLs (ev_var rfl) (sq_of (e5 _ _ hl1)) (by rw [hus.1]; omega) (fun _ => rfl) fun i x H6 e6 hx => by
              obtain ⟨y, rfl, hy⟩ := hus.2 i x hx
              have he : d.f (lo + (i : Int)) = Tb.val d.ms a (lo + (i : Int)) * q := by
                rw [fe] <;> rfl
              show EW K _ _ _ (d.f (lo + (i : Int)))
              rw [he]
              exact ew_2 (ew_var rfl (hy.mono (e5.trans e6))) (ew_of (x2 (e34.trans (e5.trans e6)) rfl) (hc.mono (e34.trans (e5.trans e6)))) (s1 i (lt_of hx)) sq trivial
            rw [hus.1] at en
            exact s_retN en fun p' xs H6 n6 e6 hp hx => k p' xs H6 (fresh_back (e14.trans e5) n6) ((e14.trans e5).trans e6) hp hx
          | base g =>
            rw [e] at ht
            cases ht
          | sum a b =>
            rw [e] at hb4
            exact (wn hb4 (show ("sum" : Str) ≠ "times" by decide +kernel)).elim
          | less a b =>
            rw [e] at hb4
            exact (wn hb4 (show ("less" : Str) ≠ "times" by decide +kernel)).elim
          | along a b =>
            rw [e] at hb4
            exact (wn hb4 (show ("along" : Str) ≠ "times" by decide +kernel)).elim
          | by_ a b =>
            rw [e] at hb4
            exact (wn hb4 (show ("by" : Str) ≠ "times" by decide +kernel)).elim
        · have e35 := e34.trans e5
          have e15 := e14.trans e5
          refine q_when (b := decide (V.str (word d.m) = V.str "by")) (et_test (ev_op (x0 e35 rfl) ev_c (rv_eq rfl))) (fun hb5 H6 e6 => ?_) (fun hb5 H6 e6 => ?_)
          · cases e : d.m with
            | by_ a cs =>
              rw [e] at h3d fe hR
              simp only [e] at x2 hus s1
              obtain ⟨l, rfl, hc, ok, _⟩ := h3d
              have e56 := e5.trans e6
              have en := en_lcL (K := K) (R := fun i => IsW K (d.f (lo + (i : Int)))) (σ := [some (.ref t), some (.str (nmAt d.nm d.k)), some (.int lo), some (.int hi), some (.ref p), some (.ref l1), none, none, none, none, none]) (H := H6) (te := tCall (spBent K) [] E0 (tCons (tOp (rIxT K) (tVar 4) (tC (.int 2))) (tCons (tVar 10) tNil))) (vs := [10]) (j := 10) (tl := tVar 5) isw_mons isw_monLs (ev_var rfl) (sq_of (e56 _ _ hl1)) (by rw [hus.1]; omega) (fun _ => rfl) fun i x H7 e7 hx => by
                obtain ⟨y, rfl, hy⟩ := hus.2 i x hx
                have he : d.f (lo + (i : Int)) = bent cs (Tb.val d.ms a (lo + (i : Int))) := by
                  rw [fe] <;> rfl
                have hi' := lt_of hx
                have tm := val_tame hR.tok hR.kl (row := lo + (i : Int)) (by omega) (by omega)
                show EW K _ _ _ (d.f (lo + (i : Int)))
                rw [he]
                exact er_call2 (A := ABent K) (B := fun d => IsW K (bent d.1 d.2)) (R1 := fun v _ => v = .ref l) (R2 := fun v _ => v = .ref y) (cs, Tb.val d.ms a (lo + (i : Int))) (er_of (x2 (e34.trans (e56.trans e7)) rfl) fun _ _ => rfl) (er_of (ev_var rfl) fun _ _ => rfl) eq_mon fun x y' G eG hx hy' =>
                  ⟨l, y, _, _, by rw [hx, hy'], hc.mono ((e34.trans (e56.trans e7)).trans eG), ok, hy.mono ((e56.trans e7).trans eG), tm⟩
              rw [hus.1] at en
              exact s_retN en fun p' xs H7 n7 e7 hp hx => k p' xs H7 (fresh_back (e15.trans e6) n7) ((e15.trans e6).trans e7) hp hx
            | base g =>
              rw [e] at ht
              cases ht
            | sum a b =>
              rw [e] at hb5
              exact (wn hb5 (show ("sum" : Str) ≠ "by" by decide +kernel)).elim
            | less a b =>
              rw [e] at hb5
              exact (wn hb5 (show ("less" : Str) ≠ "by" by decide +kernel)).elim
            | along a b =>
              rw [e] at hb5
              exact (wn hb5 (show ("along" : Str) ≠ "by" by decide +kernel)).elim
            | times a b =>
              rw [e] at hb5
              exact (wn hb5 (show ("times" : Str) ≠ "by" by decide +kernel)).elim
          · have e36 := e35.trans e6
            have e16 := e15.trans e6
            have e46 := e5.trans e6
            cases e : d.m with
            | base g =>
              rw [e] at ht
              cases ht
            | along a b =>
              rw [e] at hb3
              exact absurd rfl (of_decide_eq_false hb3)
            | times a b =>
              rw [e] at hb4
              exact absurd rfl (of_decide_eq_false hb4)
            | by_ a b =>
              rw [e] at hb5
              exact absurd rfl (of_decide_eq_false hb5)
            | sum a b =>
              rw [e] at h3d fe hR
              simp only [e] at x0 x1 x2 hus s1
              subst h3d
              have rb : b ∈ refs (made d.ms d.k) := by
                show b ∈ refs d.m
                rw [e]
                simp [refs]
              have hB := (hT.mono e16).ref rb
              refine q_asgN (en_methA (A := AStr K CL CZ CT n) (B := fun d => RowW K d.1.f d.2.1 d.2.2) ({ d with k := b }, lo, hi) (ev_var rfl) (i1.mono e16) rfl (ea_cons (x2 e36 rfl) (ea_cons (ev_var rfl) (ea_cons (ev_var rfl) ea_nil))) fun H7 e7 => ⟨t, rfl, hB.mono e7, r1, r2, r3⟩) fun l2 ws H7 n7 e7 hl2 hws => ?_
              have hws : Each (hi - lo).toNat (fun i => IsW K (Tb.val d.ms b (lo + (i : Int)))) ws H7 := hws
              refine q_when (b := true) (et_test (ev_is (ev_op (x0 (e36.trans e7) rfl) ev_c (rv_eq rfl)) (w := .bl true) (congrArg V.bl (decide_eq_true rfl)))) (fun _ H8 e8 => ?_) (fun h => by cases h)
              have e48 := e46.trans (e7.trans e8)
              have en := en_lcZ (K := K) (R := fun i => IsW K (d.f (lo + (i : Int)))) (σ := [some (.ref t), some (.str (nmAt d.nm d.k)), some (.int lo), some (.int hi), some (.ref p), some (.ref l1), some (.ref l2), none, none, none, none]) (H := H8) (te := tCall (spW2 K Any2 (· + ·)) [] E0 (tCons (tVar 7) (tCons (tVar 8) tNil))) (vs := [7, 8]) (j := 7) (j2 := 8) (ta := tCons (tVar 5) (tCons (tVar 6) tNil)) isw_mons isw_monLs (ea_cons (ev_var rfl) (ea_cons (ev_var rfl) ea_nil)) (sq_of (e48 _ _ hl1)) (sq_of (e8 _ _ hl2)) (by rw [hus.1, hws.1]) (by rw [hus.1]; omega) (fun _ _ => rfl) fun i x y H9 e9 hx hy => by
                obtain ⟨x1', rfl, hx1⟩ := hus.2 i x hx
                obtain ⟨y1, rfl, hy1⟩ := hws.2 i y hy
                have he : d.f (lo + (i : Int)) = Tb.val d.ms a (lo + (i : Int)) + Tb.val d.ms b (lo + (i : Int)) := by
                  rw [fe] <;> rfl
                have hi' := lt_of hx
                have s2 := (val_tame hB.tok hB.kl (row := lo + (i : Int)) (by omega) (by omega)).s
                show EW K _ _ _ (d.f (lo + (i : Int)))
                rw [he]
                exact ew_2 (ew_var rfl (hx1.mono (e48.trans e9))) (ew_var rfl (hy1.mono (e8.trans e9))) (s1 i hi') s2 trivial
              rw [hus.1] at en
              exact s_retN en fun p' xs H9 n9 e9 hp hx => k p' xs H9 (fresh_back (e16.trans (e7.trans e8)) n9) ((e16.trans (e7.trans e8)).trans e9) hp hx
            | less a b =>
              rw [e] at h3d fe hR
              simp only [e] at x0 x1 x2 hus s1
              subst h3d
              have rb : b ∈ refs (made d.ms d.k) := by
                show b ∈ refs d.m
                rw [e]
                simp [refs]
              have hB := (hT.mono e16).ref rb
              refine q_asgN (en_methA (A := AStr K CL CZ CT n) (B := fun d => RowW K d.1.f d.2.1 d.2.2) ({ d with k := b }, lo, hi) (ev_var rfl) (i1.mono e16) rfl (ea_cons (x2 e36 rfl) (ea_cons (ev_var rfl) (ea_cons (ev_var rfl) ea_nil))) fun H7 e7 => ⟨t, rfl, hB.mono e7, r1, r2, r3⟩) fun l2 ws H7 n7 e7 hl2 hws => ?_
              have hws : Each (hi - lo).toNat (fun i => IsW K (Tb.val d.ms b (lo + (i : Int)))) ws H7 := hws
              refine q_when (b := false) (et_test (ev_is (ev_op (x0 (e36.trans e7) rfl) ev_c (rv_eq rfl)) (w := .bl false) (congrArg V.bl (decide_eq_false fun h => (show ("less" : Str) ≠ "sum" by decide +kernel) (V.str.inj h))))) (fun h => by cases h) (fun _ H8 e8 => ?_)
              have e48 := e46.trans (e7.trans e8)
              have en := en_lcZ (K := K) (R := fun i => IsW K (d.f (lo + (i : Int)))) (σ := [some (.ref t), some (.str (nmAt d.nm d.k)), some (.int lo), some (.int hi), some (.ref p), some (.ref l1), some (.ref l2), none, none, none, none]) (H := H8) (te := tCall (spW2 K Any2 (· - ·)) [] E0 (tCons (tVar 7) (tCons (tVar 8) tNil))) (vs := [7, 8]) (j := 7) (j2 := 8) (ta := tCons (tVar 5) (tCons (tVar 6) tNil)) isw_mons isw_monLs (ea_cons (ev_var rfl) (ea_cons (ev_var rfl) ea_nil)) (sq_of (e48 _ _ hl1)) (sq_of (e8 _ _ hl2)) (by rw [hus.1, hws.1]) (by rw [hus.1]; omega) (fun _ _ => rfl) fun i x y H9 e9 hx hy => by
                obtain ⟨x1', rfl, hx1⟩ := hus.2 i x hx
                obtain ⟨y1, rfl, hy1⟩ := hws.2 i y hy
                have he : d.f (lo + (i : Int)) = Tb.val d.ms a (lo + (i : Int)) - Tb.val d.ms b (lo + (i : Int)) := by
                  rw [fe] <;> rfl
                have hi' := lt_of hx
                have s2 := (val_tame hB.tok hB.kl (row := lo + (i : Int)) (by omega) (by omega)).s
                show EW K _ _ _ (d.f (lo + (i : Int)))
                rw [he]
                exact ew_2 (ew_var rfl (hx1.mono (e48.trans e9))) (ew_var rfl (hy1.mono (e8.trans e9))) (s1 i hi') s2 trivial
              rw [hus.1] at en
              exact s_retN en fun p' xs H9 n9 e9 hp hx => k p' xs H9 (fresh_back (e16.trans (e7.trans e8)) n9) ((e16.trans (e7.trans e8)).trans e9) hp hx
  exact G.mono (by omega)
end
end Tb

/-! ## TbTab8 -/
set_option Elab.async false
set_option linter.all false
set_option maxRecDepth 100000
set_option maxHeartbeats 4000000
namespace Tb
open PySem PySem.Spec PyProof.Rows L2 Evl
section
variable {P : Program} {w : World} {K : PySem.W.Frag} {mg : Str → Option Value} {base : Heap} {CL CZ CT NO MA : Addr} {f : Addr} {fd : FuncData}
/-- a method as it stands -/
structure Std (K : PySem.W.Frag) (C : Addr) (m qual : Str) (st : Stmt) (ps : List Str) : Prop where
  ex : ∃ f fd, FunD K m qual (defArgs st) (defBody st) (defScope st) [] [] f fd ∧ Meth K C m f ∧ Binds K fd ps []
theorem Std.me {C : Addr} {m qual : Str} {st : Stmt} {ps : List Str} {k : Nat} {sp : Sp} (h : Std K C m qual st ps) (ok : ∀ f fd, FunD K m qual (defArgs st) (defBody st) (defScope st) [] [] f fd → FnOk P w K mg base CX0 k f fd ps sp) : Me P w K mg base C k m ps sp := by
  obtain ⟨f, fd, F, M, B⟩ := h.ex
  exact ⟨f, fd, ok f fd F, M, B⟩
theorem fnok_no {k : Nat} {ps : List Str} {sp : Sp} (h : ∀ vs H Q E, ¬ sp vs H Q E) : FnOk P w K mg base CX0 k f fd ps sp :=
  ⟨fun vs H Q E z => (h vs H Q E z).elim, fun A outer s H args us vs Q E _ _ _ _ z => (h vs H Q E z).elim⟩
theorem tab_all (T : Txt K w mg CL CZ CT NO MA) (h_plus : FnPlus P w K mg base) (h_minus : FnMinus P w K mg base) (h_times : FnTimes P w K mg base) (h_between : FnBetween P w K mg base)
    (h_Line_value : Me P w K mg base CL 7 "value" ["self", "row"] (spLVal K CL)) (h_Zones_value : Me P w K mg base CZ 5 "value" ["self", "row"] (spZVal K CZ)) (h_Table_rule_of : Me P w K mg base CT 2 "rule_of" ["self", "name"] (spRule K CL CZ CT))
    (Sv : Std K CT "value" "Table.value" s_Table_value ["self", "name", "row"]) (Su : Std K CT "summed" "Table.summed" s_Table_summed ["self", "name", "row"]) (Ss : Std K CT "stretch" "Table.stretch" s_Table_stretch ["self", "name", "first", "end"])
    (Sw : Std K CT "worths" "Table.worths" s_Table_worths ["self", "name", "first", "end"]) (Sr : Std K CT "run" "Table.run" s_Table_run ["self", "name", "along", "first", "end"]) :
    ∀ n : Nat, Me P w K mg base CT (8 + 5 * n) "value" ["self", "name", "row"] (spVal K CL CZ CT n) ∧ Me P w K mg base CT (10 + 5 * n) "worths" ["self", "name", "first", "end"] (spWor K CL CZ CT n)
  | 0 => ⟨Sv.me fun f fd F => fnok_no fun vs H Q E ⟨d, ⟨t, _, hT, _⟩, _⟩ => absurd hT.kn (Nat.not_lt_zero _), Sw.me fun f fd F => fnok_no fun vs H Q E ⟨d, ⟨t, _, hT, _⟩, _⟩ => absurd hT.kn (Nat.not_lt_zero _)⟩
  | n + 1 => by
    obtain ⟨hv, hw⟩ := tab_all T h_plus h_minus h_times h_between h_Line_value h_Zones_value h_Table_rule_of Sv Su Ss Sw Sr n
    have hs : Me P w K mg base CT (11 + 5 * n) "stretch" ["self", "name", "first", "end"] (spStr K CL CZ CT n) := Ss.me fun f fd F => ok_Table_stretch n T h_plus hw F
    have hu : Me P w K mg base CT (12 + 5 * n) "summed" ["self", "name", "row"] (spSummed K CL CZ CT n) := Su.me fun f fd F => ok_Table_summed n T h_minus hs F
    have hv1 : Me P w K mg base CT (8 + 5 * (n + 1)) "value" ["self", "name", "row"] (spVal K CL CZ CT (n + 1)) := Sv.me fun f fd F => ok_Table_value n T h_plus h_minus h_times h_between h_Line_value h_Zones_value h_Table_rule_of hu hv F
    have hr1 : Me P w K mg base CT (9 + 5 * (n + 1)) "run" ["self", "name", "along", "first", "end"] (spRun K CL CZ CT (n + 1)) := Sr.me fun f fd F => ok_Table_run n T h_plus hv1 hw F
    exact ⟨hv1, Sw.me fun f fd F => ok_Table_worths n T h_plus h_minus h_times h_between h_Line_value h_Zones_value h_Table_rule_of hr1 hw F⟩
/-! ### line -/
structure TabX (K : PySem.W.Frag) (CL CZ CT : Addr) (H : Hp) (t : Addr) (d : TD) : Prop where
  at_ : TabAt K CL CZ CT H t d.nm d.ms d.fpf d.o
  nok : NmOk d.nm d.ms
  tok : TabOk d.ms
theorem TabX.mono {H H' : Hp} {t : Addr} {d : TD} (h : TabX K CL CZ CT H t d) (e : Ex H H') : TabX K CL CZ CT H' t d := ⟨h.at_.mono e, h.nok, h.tok⟩
theorem TabX.in_ {H : Hp} {t : Addr} {d : TD} (h : TabX K CL CZ CT H t d) {k : Nat} (hk : k < d.ms.length) : TabIn K CL CZ CT H t { d with k := k } 7 := ⟨h.at_, h.nok, h.tok, hk, Nat.lt_of_lt_of_le hk h.tok.n7⟩
def ALineT (K : PySem.W.Frag) (CL CZ CT : Addr) : TD × Int → List V → Hp → Prop := fun d vs H => ∃ t, vs = [.ref t, .int d.2] ∧ TabX K CL CZ CT H t d.1 ∧ -14 ≤ d.2 ∧ d.2 ≤ 25
def spLineT (K : PySem.W.Frag) (CL CZ CT : Addr) : Sp := spL (ALineT K CL CZ CT) fun d => Each d.1.ms.length fun i => IsW K (Tb.val d.1.ms i d.2)
theorem str_at {nm : List Str} {i : Nat} {x : V} (h : (nm.map V.str)[i]? = some x) : i < nm.length ∧ x = .str (nmAt nm i) := by
  rw [List.getElem?_map] at h
  cases e : nm[i]? with
  | none =>
    rw [e] at h
    cases h
  | some s =>
    rw [e] at h
    refine ⟨(List.getElem?_eq_some_iff.mp e).1, ?_⟩
    unfold nmAt
    rw [List.getD_eq_getElem?_getD, e]
    exact (Option.some.inj h).symm
theorem sc_Table_line : FnScope ["self", "row", "name"] ["self", "row"] (defScope s_Table_line) := ⟨rfl, rfl, rfl, by decide +kernel, rfl, by decide +kernel, by decide +kernel⟩
theorem ok_Table_line (T : Txt K w mg CL CZ CT NO MA) (h_Table_value : Me P w K mg base CT 43 "value" ["self", "name", "row"] (spVal K CL CZ CT 7))
    (F : FunD K "line" "Table.line" (defArgs s_Table_line) (defBody s_Table_line) (defScope s_Table_line) [] [] f fd) : FnOk P w K mg base CX0 44 f fd ["self", "row"] (spLineT K CL CZ CT) := by
  refine F.ok sc_Table_line (fun vs H Q E h => ?_) (fun cdv A outer s H vs Q E hr h => ?_)
  · obtain ⟨_, ⟨_, rfl, _⟩, _⟩ := h
    rfl
  obtain ⟨⟨d, row⟩, ⟨t, rfl, hT, r1, r2⟩, k⟩ := h
  refine ⟨_, PSs.nox (pss_one (ps_ret (pe_lc (own := [("name", 2)]) (g := gName 2) (tt := tYes) rfl sc_Table_line.nd (pi_list (pe_fld (pv 0) rfl)) (blkOk_by (own := [("name", 2)]) (N := ["self", "row", "name"]) (sc := defScope s_Table_line) (by decide +kernel)) (fun _ _ _ _ _ => (pg_name (i := 2) sc_Table_line.nd rfl (Or.inl rfl))) (fun _ _ _ _ _ => pts_nil) (fun _ _ _ _ _ => (pe_me h_Table_value T.c_Table (hr.mono (by omega)) (pv 0) (pa_cons (pv 2) (pa_cons (pv 1) pa_nil))))))), ?_⟩
  have hT : TabX K CL CZ CT H t d := hT
  have r1 : -14 ≤ row := r1
  have r2 : row ≤ 25 := r2
  obtain ⟨dd, kvs, i1, _, ho, _⟩ := hT.at_.ex
  have hl := hT.nok.len
  have h7 := hT.tok.n7
  have en := en_lcL (K := K) (R := fun i => IsW K (Tb.val d.ms i row)) (σ := start ["self", "row", "name"] [V.ref t, V.int row]) (H := H) (te := tMeth CT "value" (spVal K CL CZ CT 7) [] E0 (tVar 0) (tCons (tVar 2) (tCons (tVar 1) tNil))) (vs := [2]) (j := 2) (tl := tFld K (tVar 0) "order") isw_mons isw_monLs (ev_fld (ev_var rfl) i1 T.c_Table T.t_order rfl) (sq_of ho)
    (by rw [List.length_map]; omega) (fun _ => rfl) fun i x H1 e1 hx => by
      obtain ⟨hi, rfl⟩ := str_at hx
      exact er_methA (A := AVal K CL CZ CT 7) (B := fun d => IsW K (d.1.f d.2)) ({ d with k := i }, row) (ev_var rfl) (i1.mono e1) rfl (ea_cons (ev_var rfl) (ea_cons (ev_var rfl) ea_nil)) fun H2 e2 => ⟨t, rfl, (hT.mono (e1.trans e2)).in_ (by omega), r1, r2⟩
  rw [List.length_map, hl] at en
  exact s_retN en fun p xs H1 n e hp hx => k p xs H1 n e hp hx
end
end Tb

/-! ## TbTab9 -/
set_option Elab.async false
set_option linter.all false
set_option maxRecDepth 100000
set_option maxHeartbeats 4000000
namespace Tb
open PySem PySem.Spec PyProof.Rows L2 Evl
section
variable {K : PySem.W.Frag} {CL CZ CT : Addr} {nm : List Str} {ms : List Made} {fpf : Nat → List Addr} {σ : L2.St} {H H' : Hp} {ta tb te : TE} {v : V} {fp : List Addr} {m : Made} {p l a C dx : Addr} {fs : List (Str × V)} {q : Rat}
theorem Ek.insP {D : Addr} {gs : List (Str × V)} (e : Ek p H H') (n : a ≠ p) (h : Ins H a D gs) : Ins H' a D gs := by
  obtain ⟨dx, h⟩ := h
  exact ⟨dx, e _ _ h n⟩
theorem LW.ekp {qs : List Rat} (h : LW K H l qs) (hp : Ins H p C fs) (e : Ek p H H') : LW K H' l qs := by
  obtain ⟨vs, h1, h2, h3⟩ := h
  obtain ⟨dx, hp'⟩ := id hp
  refine ⟨vs, e _ _ h1 (ne_of h1 hp' (by intro z; cases z)), h2, fun i x hx => ?_⟩
  obtain ⟨a, h4, h5⟩ := h3 i x hx
  exact ⟨a, h4, e.wat hp h5⟩
theorem CsAt.ekp {cs : List (Rat × Rat)} (h : CsAt K H l cs) (hp : Ins H p C fs) (e : Ek p H H') : CsAt K H' l cs := by
  obtain ⟨vs, h1, h2, h3⟩ := h
  obtain ⟨dx, hp'⟩ := id hp
  refine ⟨vs, e _ _ h1 (ne_of h1 hp' (by intro z; cases z)), h2, fun i x hx => ?_⟩
  obtain ⟨q, a, b, h4, h5, h6, h7⟩ := h3 i x hx
  exact ⟨q, a, b, h4, e.tup hp h5, e.wat hp h6, e.wat hp h7⟩
theorem MadeAt.ekp (h : MadeAt K CL CZ nm H v fp m) (hp : Ins H p C fs) (nv : (∃ g, m = .base g) → v ≠ .ref p) (e : Ek p H H') : MadeAt K CL CZ nm H' v fp m := by
  cases m with
  | base g =>
    have nv := nv ⟨g, rfl⟩
    rcases h with ⟨q, L, rfl, h2, h3⟩ | ⟨q, Z, lb, ls, lm, rfl, h2, h3⟩
    · have n : q ≠ p := fun z => nv (by rw [z])
      obtain ⟨l, h, s, t, b, g0, g1, g2, g3, g4, g5⟩ := h2.ex
      exact .inl ⟨q, L, rfl, ⟨l, h, s, t, b, e.insP n g0, e.wat hp g1, e.wat hp g2, e.wat hp g3, e.wat hp g4, e.wat hp g5⟩, h3⟩
    · have n : q ≠ p := fun z => nv (by rw [z])
      obtain ⟨r, g, g0, g1, g2, g3, g4, g5⟩ := h2.ex
      exact .inr ⟨q, Z, lb, ls, lm, rfl, ⟨r, g, e.insP n g0, e.wat hp g1, g2.ekp hp e, g3.ekp hp e, g4.ekp hp e, e.wat hp g5⟩, h3⟩
  | sum a b =>
    obtain ⟨q, h1, h2, h3⟩ := h
    exact ⟨q, h1, h2, e.tup hp h3⟩
  | less a b =>
    obtain ⟨q, h1, h2, h3⟩ := h
    exact ⟨q, h1, h2, e.tup hp h3⟩
  | times a q =>
    obtain ⟨p, c, h1, h2, h3, h4⟩ := h
    exact ⟨p, c, h1, h2, e.tup hp h3, e.wat hp h4⟩
  | along a q =>
    obtain ⟨p, c, h1, h2, h3, h4⟩ := h
    exact ⟨p, c, h1, h2, e.tup hp h3, e.wat hp h4⟩
  | by_ a cs =>
    obtain ⟨q, l, h1, h2, h3, h4, h5⟩ := h
    exact ⟨q, l, h1, h2, e.tup hp h3, h4.ekp hp e, h5⟩
theorem MadeAt.base_ne (h : MadeAt K CL CZ nm H v fp m) (hp : H p = some (.ins C dx [])) : (∃ g, m = .base g) → v ≠ .ref p := by
  rintro ⟨g, rfl⟩ z
  rcases h with ⟨q, L, rfl, h2, h3⟩ | ⟨q, Z, lb, ls, lm, rfl, h2, h3⟩
  · obtain ⟨l, h, s, t, b, ⟨dy, g0⟩, _⟩ := h2.ex
    cases z
    rw [hp] at g0
    cases g0
  · obtain ⟨r, g, ⟨dy, g0⟩, _⟩ := h2.ex
    cases z
    rw [hp] at g0
    cases g0
/-! ### columns as they are handed in -/
def IsCol (K : PySem.W.Frag) (CL CZ : Addr) (nm : List Str) (s : Str) (m : Made) (fp : List Addr) : V → Hp → Prop := fun x H => ∃ q v, x = .ref q ∧ SqT K H q [.str s, v] ∧ MadeAt K CL CZ nm H v fp m
def ColsAt (K : PySem.W.Frag) (CL CZ : Addr) (H : Hp) (l : Addr) (nm : List Str) (ms : List Made) (fpf : Nat → List Addr) : Prop := ∃ us, H l = some (.lst us) ∧ Each ms.length (fun k => IsCol K CL CZ nm (nmAt nm k) (made ms k) (fpf k)) us H
theorem iscol_mon {s : Str} {m : Made} {fp : List Addr} : Mon (IsCol K CL CZ nm s m fp) := fun _ _ _ e ⟨q, v, h1, h2, h3⟩ => ⟨q, v, h1, ex_t e h2, h3.mono e⟩
theorem IsCol.ekg {s : Str} {x : V} {o : HO} (h : IsCol K CL CZ nm s m fp x H) (hp : H p = some o) (od : Odd o) (n : p ∉ fp) (e : Ek p H H') : IsCol K CL CZ nm s m fp x H' := by
  obtain ⟨q, v, h1, h2, h3⟩ := h
  exact ⟨q, v, h1, e.tupG hp od h2, h3.ekg hp od n e⟩
theorem IsCol.nin {s : Str} {x : V} {o : HO} (h : IsCol K CL CZ nm s m fp x H) (hp : H p = some o) (n : ∀ ys, o ≠ .lst ys) : p ∉ fp := by
  obtain ⟨q, v, h1, h2, h3⟩ := h
  exact h3.nin hp n
/-- the same, and none of them is p -/
def IsColN (K : PySem.W.Frag) (CL CZ : Addr) (p : Addr) (nm : List Str) (s : Str) (m : Made) (fp : List Addr) : V → Hp → Prop := fun x H => ∃ q v, x = .ref q ∧ SqT K H q [.str s, v] ∧ MadeAt K CL CZ nm H v fp m ∧ ((∃ g, m = .base g) → v ≠ .ref p)
theorem IsColN.ekg {s : Str} {x : V} {o : HO} {r : Addr} (h : IsColN K CL CZ r nm s m fp x H) (hp : H p = some o) (od : Odd o) (no : ∀ ys, o ≠ .lst ys) (e : Ek p H H') : IsColN K CL CZ r nm s m fp x H' := by
  obtain ⟨q, v, h1, h2, h3, h4⟩ := h
  exact ⟨q, v, h1, e.tupG hp od h2, h3.ekg hp od (h3.nin hp no) e, h4⟩
theorem IsCol.n {s : Str} {x : V} (h : IsCol K CL CZ nm s m fp x H) (hp : H p = some (.ins C dx [])) : IsColN K CL CZ p nm s m fp x H := by
  obtain ⟨q, v, h1, h2, h3⟩ := h
  exact ⟨q, v, h1, h2, h3, h3.base_ne hp⟩
theorem iscoln_mon {r : Addr} {s : Str} {m : Made} {fp : List Addr} : Mon (IsColN K CL CZ r nm s m fp) := fun _ _ _ e ⟨q, v, h1, h2, h3, h4⟩ => ⟨q, v, h1, ex_t e h2, h3.mono e, h4⟩
def spTabInit (K : PySem.W.Frag) (CL CZ CT : Addr) : Sp := fun vs H Q _ => ∃ (p dx l : Addr) (nm : List Str) (ms : List Made) (fpf : Nat → List Addr), vs = [.ref p, .ref l] ∧ H p = some (.ins CT dx []) ∧ ColsAt K CL CZ H l nm ms fpf ∧ NmOk nm ms ∧ TabOk ms ∧ 1 ≤ ms.length ∧
  ∀ o fpf' H', TabAt K CL CZ CT H' p nm ms fpf' o → H o = none → (∀ k : Nat, k < ms.length → (isBy (made ms k) = true → ∀ x ∈ fpf' k, H x = none) ∧ (isBy (made ms k) = false → fpf' k = fpf k)) → Ek p H H' → Q .non H'
theorem el_listD {d : Addr} {kvs : List (Key × V)} (hd : Ev ta σ H (.ref d)) (h : H d = some (.dK kvs)) : EvL (tCB (fun xs H Q => ∃ (a : Addr) (kvs : List (Key × V)), xs = [.ref a] ∧ Rd H a (.dK kvs) ∧ ∀ p, H p = none → Q (.ref p) (upd H p (.lst (kvs.map fun kv => kV kv.1)))) (tCons ta tNil)) σ H (kvs.map fun kv => kV kv.1) := fun H1 e1 Q q =>
  hd H1 e1 _ fun H2 e2 => ⟨d, kvs, rfl, .inl ((e1.trans e2) _ _ h), fun p hp => q p _ (fresh_back e2 hp) (e2.trans (Ex.new hp)) upd_same⟩
/-- a turn over enumerate -/
theorem q_forE {D : Ends} {tu tz : TS} {ta : TA} {j j2 : Nat} {xs : List V} (h : EvA ta σ H [.ref a]) (hx : SqL K H a xs) (Pv : Nat → L2.St → Hp → Prop) (h0 : ∀ H1, Ex H H1 → Pv 0 σ H1) (hl : ∀ i σ' H', i ≤ xs.length → Pv i σ' H' → SqL K H' a xs)
    (hs : ∀ (i : Nat) x σ' H' H2, xs[i]? = some x → Pv i σ' H' → Ex H' H2 → tu { D with nx := Pv (i + 1), ct := Pv (i + 1), bk := tz D } ((σ'.set j (some (.int (i : Nat)))).set j2 (some x)) H2) (hd : ∀ σ' H', Pv xs.length σ' H' → tz D σ' H') : tSeq (tFor (iEnum K ta) (g2 K j j2) tu) tz D σ H :=
  h H (Ex.refl H) _ fun H1 e1 => ⟨a, xs, rfl, ex_l e1 hx, for_any (D := { D with nx := tz D }) (n := xs.length) Pv (h0 H1 e1) (fun i σ' H' hi p => ⟨xs, xs[i], hl i σ' H' (Nat.le_of_lt hi) p, by simp [hi]⟩) (fun σ' H' p => ⟨xs, hl _ σ' H' (Nat.le_refl _) p, Nat.le_refl _⟩)
    (fun i v σ' H' H2 hi p ⟨T, x, ep, hT, eH, f1⟩ => by
      subst ep eH
      have gx := f1 xs (hl i σ' H' (Nat.le_of_lt hi) p)
      exact ⟨T, [.int (i : Nat), x], rfl, SqT.of upd_same, rfl, .int (i : Nat), [x], rfl, x, [], rfl, rfl, hs i x σ' H' _ gx p (Ex.new hT)⟩) hd⟩
theorem valV_none {kvs : List (Key × V)} {k : Key} (h : k ∉ kvs.map (·.1)) : valV kvs k = none := by
  cases e : valV kvs k with
  | none => rfl
  | some v =>
    exfalso
    apply h
    have a := valV_any k kvs
    rw [e] at a
    obtain ⟨kv, h1, h2⟩ := List.any_eq_true.mp (show (kvs.any fun kv => decide (kv.1 = k)) = true from a)
    exact List.mem_map.mpr ⟨kv, h1, of_decide_eq_true h2⟩
theorem nm_notin {i : Nat} (nd : nm.Nodup) (hi : i < nm.length) : nmAt nm i ∉ nm.take i := fun h => by
  obtain ⟨j, hj, e⟩ := List.mem_iff_getElem.mp h
  have hj2 : j < i := by
    rw [List.length_take] at hj
    omega
  have h1 : nmAt nm i = nm[i] := by
    unfold nmAt
    simp [hi]
  rw [List.getElem_take, h1] at e
  have := (List.getElem_inj nd).mp e
  omega
theorem take_snoc {i : Nat} (hi : i < nm.length) : nm.take (i + 1) = nm.take i ++ [nmAt nm i] := by
  rw [List.take_add_one]
  unfold nmAt
  simp [hi]
/-- a list of the names -/
theorem each_strs {xs : List V} (h : Each nm.length (fun i v _ => v = .str (nmAt nm i)) xs H) : xs = nm.map V.str := by
  apply List.ext_getElem?
  intro i
  by_cases hi : i < nm.length
  · have hi' : i < xs.length := by rw [h.1]; exact hi
    have := h.2 i xs[i] (by simp)
    rw [List.getElem?_eq_getElem hi', this]
    unfold nmAt
    simp [hi]
  · rw [List.getElem?_eq_none (by rw [h.1]; omega), List.getElem?_eq_none (by simp; omega)]
end
def putF' (f : Nat → List Addr) (i : Nat) (x : List Addr) : Nat → List Addr := fun j => if j = i then x else f j
theorem putF_same {f : Nat → List Addr} {i : Nat} {x : List Addr} : putF' f i x i = x := if_pos rfl
theorem putF_ne {f : Nat → List Addr} {i j : Nat} {x : List Addr} (h : j ≠ i) : putF' f i x j = f j := if_neg h
theorem rlst_q {D : Ends} {σ : L2.St} {H : Hp} {td ty tv : TE} {d : Addr} {kvs : List (Key × V)} {s : Str} {R : V → Hp → Prop} (hv : EvR tv σ H R) (hd : Ev td σ H (.ref d)) (h : H d = some (.dK kvs)) (hy : Ev ty σ H (.str s)) (hl : kvs.length < 100000) (m : Mon R)
    (k : ∀ v H1, Ex H H1 → R v H1 → D.nx σ (upd H1 d (.dK (putK kvs (Sum.inr s : Key) v)))) : sDPut td ty tv D σ H := hv H (Ex.refl H) _ fun v H1 e1 r => hd H1 e1 _ fun H2 e2 => hy H2 (e1.trans e2) _ fun H3 e3 =>
  ⟨d, _, rfl, DPut.k (k := (Sum.inr s : Key)) (((e1.trans e2).trans e3) _ _ h) (sz_lt hl), k v H3 ((e1.trans e2).trans e3) (m _ _ _ (e2.trans e3) r)⟩
section
variable {P : Program} {w : World} {K : PySem.W.Frag} {mg : Str → Option Value} {base : Heap} {CL CZ CT NO MA : Addr} {f : Addr} {fd : FuncData}
theorem er_kept {σ : L2.St} {H : Hp} {te : TE} {v : V} {nm : List Str} {fp : List Addr} {m : Made} {E : XK} (h : Ev te σ H v) (hm : MadeAt K CL CZ nm H v fp m) : EvR (tCall (spKept K CL CZ) [] E (tCons te tNil)) σ H fun v' H' => ∃ fp', MadeAt K CL CZ nm H' v' fp' m ∧ Kept m v fp v' fp' H := fun H1 e1 Q q =>
  h H1 e1 _ fun H2 e2 => ⟨nm, m, fp, v, rfl, hm.mono (e1.trans e2), fun v' fp' H' e3 h3 hK => q v' H' (e2.trans e3) ⟨fp', h3, fun hb l hl => fresh_back (e1.trans e2) (hK.1 hb l hl), hK.2⟩⟩
theorem sc_Table_init : FnScope ["self", "columns", "number", "column", "good"] ["self", "columns"] (defScope s_Table_init) := ⟨rfl, rfl, rfl, by decide +kernel, rfl, by decide +kernel, by decide +kernel⟩
theorem ok_Table_init (T : Txt K w mg CL CZ CT NO MA) (h_is_name : Fn P w K mg base 1 "is_name" ["thing"] spName) (h_kept : Fn P w K mg base 1 "kept" ["made"] (spKept K CL CZ)) (h_is_made : Fn P w K mg base 4 "is_made" ["made", "ahead"] (spMade K CL CZ))
    (F : FunD K "__init__" "Table.__init__" (defArgs s_Table_init) (defBody s_Table_init) (defScope s_Table_init) [] [] f fd) : FnOk P w K mg base CX0 5 f fd ["self", "columns"] (spTabInit K CL CZ CT) := by
  refine F.ok sc_Table_init (fun vs H Q E h => ?_) (fun cdv A outer s H vs Q E hr h => ?_)
  · obtain ⟨_, _, _, _, _, _, rfl, _⟩ := h
    rfl
  obtain ⟨p, dx, l, nm, ms, fpf, rfl, hp, ⟨us, hl, hE⟩, hN, ok, n1, k⟩ := h
  obtain ⟨t12, g_MOST_COLUMNS⟩ := T.columns
  have hu := hu_of hr
  refine ⟨_, PSs.nox (pss_cons (ps_if (PW.pt (pw_or (pt_not (pt_val (pe_callB call_isi (by rfl) T.f_isinstance (by decide +kernel) (pa_cons (pv 1) (pa_cons (pe_ty (n := "list") (by rfl) T.f_list (by decide +kernel)) pa_nil))))) (pw_or1 (pt_not (pt_chain op_le op_le pe_int (pe_callB call_len_seq (by rfl) T.f_len (by decide +kernel) (pa_cons (pv 1) pa_nil)) (pe_gint rfl g_MOST_COLUMNS)))))) (pss_one ps_never) pss_nil)
    (pss_cons (ps_fld (pv 0) pe_dnewK rfl)
    (pss_cons (ps_for PassesOwn.never rfl (pi_enum rfl T.f_enumerate (pa_cons (pv 1) pa_nil)) (pg_tup rfl (pgs_cons (pg_name (i := 2) sc_Table_init.nd rfl (Or.inl rfl)) (pgs_cons (pg_name (i := 3) sc_Table_init.nd rfl (Or.inl rfl)) pgs_nil)))
    (pss_cons (ps_set (i := 4) sc_Table_init.nd rfl (Or.inl rfl) (pe_and (pe_callB call_isi (by rfl) T.f_isinstance (by decide +kernel) (pa_cons (pv 3) (pa_cons (pe_ty (n := "tuple") (by rfl) T.f_tuple (by decide +kernel)) pa_nil))) (pe_and (pe_cmpR op_eq (pe_callB call_len_seq (by rfl) T.f_len (by decide +kernel) (pa_cons (pv 3) pa_nil)) pe_int (nomark _)) (pe_one (pe_fn h_is_name (hr.mono (by decide)) rfl (pa_cons (pe_ix ix_tup (pv 3) pe_int (fun _ _ => rfl)) pa_nil))))))
      (pss_cons (ps_if (PW.pt (pw_or (pt_not (pt_val (pv 4))) (pw_or (pt_cmp (pc_din hu (pe_ix ix_tup (pv 3) pe_int (fun _ _ => rfl)) (pe_fld (pv 0) rfl))) (pw_or1 (pt_not (pt_val (pe_fn h_is_made (hr.mono (by decide)) rfl (pa_cons (pe_ix ix_tup (pv 3) pe_int (fun _ _ => rfl)) (pa_cons (pe_callTy (call_listD rfl) (by rfl) T.f_list (by decide +kernel) (pa_cons (pe_fld (pv 0) rfl) pa_nil)) pa_nil))))))))) (pss_one ps_never) pss_nil)
      (pss_one (ps_dput hu (pe_fld (pv 0) rfl) (pe_ix ix_tup (pv 3) pe_int (fun _ _ => rfl)) (pe_fn h_kept (hr.mono (by decide)) rfl (pa_cons (pe_ix ix_tup (pv 3) pe_int (fun _ _ => rfl)) pa_nil)) rfl)))))
    (pss_one (ps_fld (pv 0) (pe_lc (own := [("column", 3)]) (g := gName 3) (tt := tYes) rfl sc_Table_init.nd (pi_list (pv 1)) (blkOk_by (own := [("column", 3)]) (N := ["self", "columns", "number", "column", "good"]) (sc := defScope s_Table_init) (by decide +kernel)) (fun _ _ _ _ _ => (pg_name (i := 3) sc_Table_init.nd rfl (Or.inl rfl))) (fun _ _ _ _ _ => pts_nil) (fun _ _ _ _ _ => (pe_ix (ix_tupB (K := K)) (pv 3) pe_int (fun _ _ => rfl)))) rfl))))), ?_⟩
  have n7 := ok.n7
  have hlen : us.length = ms.length := hE.1
  have nl := hN.len
  have ll : Ev (tCB (rLenS K) (tCons (tVar 1) tNil)) (start ["self", "columns", "number", "column", "good"] [V.ref p, V.ref l]) H (.int (ms.length : Nat)) := by
    rw [← hlen]
    exact ev_len (ev_var rfl) (sq_of hl)
  refine q_when (b := false) (et_is (et_or (a := !true) (et_not (et_B (b := true) (ev_isi (ev_var rfl) (ty_lst hl) (.ty "list") (kit_ty (by decide +kernel))))) fun _ => et_not (et_test (b := true) (ev_chain ev_c ll (rv_b (decide_eq_true (show (1 : Int) ≤ (ms.length : Int) by omega))) ev_c (rv_b (decide_eq_true (show (ms.length : Int) ≤ 12 by omega)))))) rfl) (fun h => by cases h) fun _ H1 e1 => ?_
  have hdn : EvR tDNewK (start ["self", "columns", "number", "column", "good"] [V.ref p, V.ref l]) H1 fun v H2 => ∃ d, v = .ref d ∧ H1 d = none ∧ H2 d = some (.dK []) := fun G e Q q d hd => q _ _ (Ex.new hd) ⟨d, rfl, fresh_back e hd, upd_same⟩
  refine q_fld hdn (fun v G G' e ⟨d, h1, h2, h3⟩ => ⟨d, h1, h2, e _ _ h3⟩) (ev_var rfl) (e1 _ _ hp) T.c_Table T.t_made (by decide) fun v H2 e2 ⟨d, hv, nd, hd⟩ => ?_
  subst hv
  have hI1 : Ins H1 p CT [] := ⟨dx, e1 _ _ hp⟩
  generalize hG : upd H2 p _ = G
  have kG : Ek p H G := by
    rw [← hG]
    exact (ekx (e1.trans e2)).set
  have kG2 : Ek p H2 G := by rw [← hG]; exact Ek.upd
  have npd : d ≠ p := fun z => by
    have := (e1.trans e2) _ _ hp
    rw [← z, hd] at this
    cases this
  have iG : Ins G p CT [("made", .ref d)] := ⟨dx, by rw [← hG]; exact upd_same⟩
  have dG : G d = some (.dK []) := kG2 _ _ hd npd
  have nlp : l ≠ p := ne_of hl hp (by intro z; cases z)
  have lG : G l = some (.lst us) := kG _ _ hl nlp
  have cG : Each ms.length (fun k => IsColN K CL CZ p nm (nmAt nm k) (made ms k) (fpf k)) us G := ⟨hE.1, fun i x hx => ((hE.2 i x hx).n hp).ekg hp odd_ins (fun ys z => by cases z) kG⟩
  have nld : l ≠ d := ne_of lG dG (by intro z; cases z)
  have fd0 : H d = none := fresh_back e1 nd
  refine q_forE (K := K) (a := l) (xs := us) (ea_cons (ev_var rfl) ea_nil) (sq_of lG) (fun i σ' H' => ∃ z2 z3 z4 kvs fpf', σ' = [some (.ref p), some (.ref l), z2, z3, z4] ∧ Ek d G H' ∧ H' d = some (.dK kvs) ∧ kvs.map (·.1) = (nm.take i).map (fun s => (Sum.inr s : Key)) ∧
      ∀ j : Nat, j < i → ∃ v, valV kvs (Sum.inr (nmAt nm j) : Key) = some v ∧ MadeAt K CL CZ nm H' v (fpf' j) (made ms j) ∧ ((∃ g, made ms j = .base g) → v ≠ .ref p) ∧ (isBy (made ms j) = true → ∀ x ∈ fpf' j, H x = none) ∧ (isBy (made ms j) = false → fpf' j = fpf j))
    (fun H3 e3 => ⟨none, none, none, [], fpf, rfl, ekx e3, e3 _ _ dG, rfl, fun j hj => absurd hj (Nat.not_lt_zero j)⟩) (fun i σ' H' _ ⟨_, _, _, _, _, _, ek, _⟩ => sq_of (ek _ _ lG nld)) ?_ ?_
  · rintro i x σ' H' H3 hx ⟨z2, z3, z4, kvs, fpf', rfl, ek, hdH, hkeys, hall⟩ e3
    have hi : i < ms.length := by
      have := (List.getElem?_eq_some_iff.mp hx).1
      omega
    have hin : i < nm.length := by omega
    have ek3 : Ek d G H3 := ek.trans (ekx e3)
    have cx := (cG.2 i x hx).ekg dG odd_dK (fun ys z => by cases z) ek3
    obtain ⟨q, v, rfl, hq, hm, hvp⟩ := cx
    have d3 := e3 _ _ hdH
    have i3 : Ins H3 p CT [("made", .ref d)] := ek3.insP npd.symm iG
    have n_none : valV kvs (Sum.inr (nmAt nm i) : Key) = none := valV_none (by
      rw [hkeys]
      intro h
      obtain ⟨s, hs, e⟩ := List.mem_map.mp h
      have : s = nmAt nm i := Sum.inr.inj e
      subst this
      exact nm_notin hN.nd hin hs)
    have gn := hN.good i hin
    have x0 : ∀ {σ : L2.St} {H4 : Hp}, Ex H3 H4 → σ[3]? = some (some (.ref q)) → Ev (tOp (rIxT K) (tVar 3) (tC (.int 0))) σ H4 (.str (nmAt nm i)) := fun e h => ev_op (ev_var h) ev_c (rv_ixT (ex_t e hq) rfl)
    have x1 : ∀ {σ : L2.St} {H4 : Hp}, Ex H3 H4 → σ[3]? = some (some (.ref q)) → Ev (tOp (rIxT K) (tVar 3) (tC (.int 1))) σ H4 v := fun e h => ev_op (ev_var h) ev_c (rv_ixT (ex_t e hq) rfl)
    refine q_asg (v := .bl true) (ev_is (ev_andV (a := true) (b := true) (ev_isi (ev_var rfl) (fun H4 e4 => wat_ty (ex_t e4 hq)) (.ty "tuple") (kit_ty k_tt)) fun _ => ev_andV (a := true) (b := true) (ev_is (ev_op (ev_lenT (ev_var rfl) hq) ev_c (rv_eq rfl)) rfl) fun _ => ev_name (x0 (Ex.refl H3) rfl) gn) rfl) fun H4 e4 => ?_
    have m4 := hm.mono e4
    have wfi := ok.wf i
    have hq4 : QAll (made ms i) := by
      cases e : made ms i with
      | times a q => exact ok.times i a q e
      | along a q => exact ok.along i a q e
      | _ => exact trivial
    have hlist : EvR (tCB (fun xs H Q => ∃ (a : Addr) (kvs : List (Key × V)), xs = [.ref a] ∧ Rd H a (.dK kvs) ∧ ∀ p, H p = none → Q (.ref p) (upd H p (.lst (kvs.map fun kv => kV kv.1)))) (tCons (tFld K (tVar 0) "made") tNil)) [some (.ref p), some (.ref l), some (.int (i : Nat)), some (.ref q), some (.bl true)] H4
        (fun v H5 => ∃ l', v = .ref l' ∧ H4 l' = none ∧ H5 l' = some (.lst ((nm.take i).map V.str))) := by
      have := er_ofL (el_listD (ev_fld (ev_var rfl : Ev (tVar 0) [some (.ref p), some (.ref l), some (.int (i : Nat)), some (.ref q), some (.bl true)] H4 (.ref p)) (i3.mono e4) T.c_Table T.t_made rfl) (e4 _ _ d3))
      have ek' : (kvs.map fun kv => kV kv.1) = (nm.take i).map V.str := by
        have h := congrArg (List.map kV) hkeys
        rw [List.map_map, List.map_map] at h
        exact h
      rw [ek'] at this
      exact this
    refine q_when (b := false) (et_is (et_or (a := !true) (et_not (et_B (ev_var rfl))) fun _ => et_or (a := false) (et_test (ev_is (ev_din (ev_fld (ev_var rfl) (i3.mono e4) T.c_Table T.t_made rfl) (e4 _ _ d3) (x0 e4 rfl)) (w := .bl false) (by rw [n_none]; rfl))) fun _ =>
      et_not (et_B (b := true) (ev_of_v (er_call2 (A := AMade K CL CZ) (B := fun _ v _ => v = .bl true) (R1 := fun u _ => u = v) (nm, made ms i, i) (er_of (x1 e4 rfl) fun _ _ => rfl) hlist eq_mon fun x y G2 eG hx hy => ?_)))) rfl) (fun h => by cases h) fun _ H5 e5 => ?_
    · obtain ⟨l', rfl, _, hl'⟩ := hy
      subst hx
      exact ⟨x, l', fpf i, rfl, m4.mono eG, hl', by show i ≤ nm.length; omega, fun a ha => wfi a ha, hq4⟩
    · have e35 := e4.trans e5
      have hkl : kvs.length < 100000 := by
        have := congrArg List.length hkeys
        rw [List.length_map, List.length_map, List.length_take] at this
        omega
      refine rlst_q (er_kept (x1 e35 rfl) (hm.mono e35)) (ev_fld (ev_var rfl) (i3.mono e35) T.c_Table T.t_made rfl) (e35 _ _ d3) (x0 e35 rfl) hkl (fun u G1 G2 e ⟨fp', h1, h2⟩ => ⟨fp', h1.mono e, h2⟩) fun v' H6 e6 ⟨fp', m6, hK⟩ => ?_
      have e36 := e35.trans e6
      have d6 : H6 d = some (.dK kvs) := e36 _ _ d3
      have ku : Ek d H6 (upd H6 d (.dK (putK kvs (Sum.inr (nmAt nm i) : Key) v'))) := Ek.upd
      refine ⟨_, _, _, _, putF' fpf' i fp', rfl, (ek3.trans (ekx e36)).set, upd_same, ?_, fun j hj => ?_⟩
      · rw [putK_new v' n_none, List.map_append, hkeys, take_snoc hin, List.map_append] <;> rfl
      · rw [valV_put]
        by_cases e : j = i
        · subst e
          rw [if_pos rfl, putF_same]
          refine ⟨v', rfl, m6.ekg d6 odd_dK (m6.nin d6 fun ys z => by cases z) ku, fun hb => ?_, fun hb x hx => ?_, fun hb => (hK.2 hb).2⟩
          · obtain ⟨g, hg⟩ := hb
            rw [(hK.2 (by rw [hg]; rfl)).1]
            exact hvp ⟨g, hg⟩
          · have := fresh_back e35 (hK.1 hb x hx)
            cases h : H x with
            | none => rfl
            | some o =>
              exfalso
              by_cases xp : x = p
              · subst xp
                obtain ⟨_, z⟩ := i3
                rw [z] at this
                cases this
              · have xd : x ≠ d := ne_of_none h fd0
                rw [ek3 _ _ (kG _ _ h xp) xd] at this
                cases this
        · have hj' : j < i := by omega
          have nn : (Sum.inr (nmAt nm j) : Key) ≠ Sum.inr (nmAt nm i) := fun z => by
            have z := Sum.inr.inj z
            have := nmAt_take hj' (Nat.le_of_lt hin)
            rw [z] at this
            exact nm_notin hN.nd hin this
          rw [if_neg nn, putF_ne e]
          obtain ⟨vj, h1, h2, h3⟩ := hall j hj'
          have h2' := h2.mono (e3.trans e36)
          exact ⟨vj, h1, h2'.ekg d6 odd_dK (h2'.nin d6 fun ys z => by cases z) ku, h3⟩
  · rintro σ' H' ⟨z2, z3, z4, kvs, fpf', rfl, ek, hdH, hkeys, hall⟩
    have lH : H' l = some (.lst us) := ek _ _ lG nld
    have iH : Ins H' p CT [("made", .ref d)] := ek.insP npd.symm iG
    have cH : ∀ (i : Nat) x, us[i]? = some x → IsColN K CL CZ p nm (nmAt nm i) (made ms i) (fpf i) x H' := fun i x hx => (cG.2 i x hx).ekg dG odd_dK (fun ys z => by cases z) ek
    have en := en_lcL (K := K) (R := fun i v _ => v = .str (nmAt nm i)) (σ := [some (.ref p), some (.ref l), z2, z3, z4]) (H := H') (te := tOp (rIxT K) (tVar 3) (tC (.int 0))) (vs := [3]) (j := 3) (tl := tVar 1) (fun _ => eq_mon) (fun _ => eq_monL) (ev_var rfl) (sq_of lH) (by omega) (fun _ => rfl) fun i x H4 e4 hx => by
      obtain ⟨q, v, rfl, hq, _⟩ := iscoln_mon _ _ _ e4 (cH i x hx)
      exact er_of (ev_op (ev_var rfl) ev_c (rv_ixT hq rfl)) fun _ _ => rfl
    rw [hlen, ← nl] at en
    obtain ⟨dy, iH'⟩ := id iH
    have hor : EvR (tLc (iList K (tVar 1)) (gName 3) tYes (tOp (rIxT K) (tVar 3) (tC (.int 0))) [3]) [some (.ref p), some (.ref l), z2, z3, z4] H' fun v H2 => ∃ o, v = .ref o ∧ H' o = none ∧ H2 o = some (.lst (nm.map V.str)) := fun G1 g1 Q q => en G1 g1 _ fun o xs H2 no e2 h2 hx => q _ H2 e2 ⟨o, rfl, fresh_back g1 no, by rw [h2, each_strs hx]⟩
    refine s_fld hor (fun v G G' e ⟨d, h1, h2, h3⟩ => ⟨d, h1, h2, e _ _ h3⟩) (ev_var rfl) iH' T.c_Table T.t_order (by show 1 < 1000; decide) fun v H5 e5 ⟨o, hv, no, ho⟩ => ?_
    subst hv
    have nop : o ≠ p := fun z => by
      rw [z, iH'] at no
      cases no
    have nod : d ≠ p := npd
    have ku : Ek p H5 (upd H5 p (.ins CT dy (putF "order" (.ref o) [("made", .ref d)]))) := Ek.upd
    have iH5 : Ins H5 p CT [("made", .ref d)] := iH.mono e5
    have kall : Ek p H (upd H5 p (.ins CT dy (putF "order" (.ref o) [("made", .ref d)]))) := by
      refine Ek.trans ?_ Ek.upd
      intro c u hc n
      exact e5 _ _ (ek _ _ (kG _ _ hc n) (ne_of_none hc fd0))
    refine k o fpf' _ ⟨d, kvs, ⟨dy, upd_same⟩, ku _ _ (e5 _ _ hdH) npd, ku _ _ ho nop, fun j hj => ?_⟩ ?_ (fun j hj => ?_) kall
    · obtain ⟨vj, h1, h2, h3, _⟩ := hall j (by rw [hlen]; exact hj)
      exact ⟨vj, h1, (h2.mono e5).ekp iH5 h3 ku⟩
    · cases h : H o with
      | none => rfl
      | some u =>
        rw [ek _ _ (kG _ _ h nop) (ne_of_none h fd0)] at no
        cases no
    · obtain ⟨vj, h1, h2, h3, h4⟩ := hall j (by rw [hlen]; exact hj)
      exact h4
end
end Tb

/-! ## TbLaw1 -/
set_option Elab.async false
set_option linter.all false
set_option maxRecDepth 100000
set_option maxHeartbeats 4000000
namespace Tb
open PySem PySem.Spec PyProof.Rows L2 Evl
def DgAt (H : Hp) (l : Addr) (ds : List Int) : Prop := H l = some (.lst (ds.map V.int)) ∧ Dg ds
theorem DgAt.mono {H H' : Hp} {l : Addr} {ds : List Int} (h : DgAt H l ds) (e : Ex H H') : DgAt H' l ds := ⟨e _ _ h.1, h.2⟩
section
variable {K : PySem.W.Frag} {σ : L2.St} {H H' : Hp} {ta tb te tl ti : TE} {l : Addr} {ds xs : List Int} {z : Int} {tt : TA}
theorem ev_dg {i : Nat} (hl : Ev tl σ H (.ref l)) (h : DgAt H l ds) (hi : Ev ti σ H (.int (i : Nat))) (hz : i < ds.length) : Ev (tOp (rIxL K) tl ti) σ H (.int (ds.getD i 0)) := by
  have hv : (ds.map V.int)[i]? = some (.int (ds.getD i 0)) := by simp [hz]
  exact ev_op hl hi (rv_ixL (sq_of h.1) (atI_nat hv))
/-- [..][z], the list written -/
theorem ev_pick (hl : EvA tt σ H (xs.map V.int)) (hi : ∀ H1, Ex H H1 → Ev ti σ H1 (.int z)) (h0 : 0 ≤ z) (h1 : z < (xs.length : Int)) (hx : xs.length ≤ 1000) : Ev (tOp (rIxL K) (tLst tt) ti) σ H (.int (xs.getD z.toNat 0)) := by
  have hz : z.toNat < xs.length := by omega
  have hv : (xs.map V.int)[z.toNat]? = some (.int (xs.getD z.toNat 0)) := by simp [hz]
  refine ev_opL1 (el_lst hl (by rw [List.length_map]; omega)) hi fun p H1 hp e1 => rv_ixL (sq_of hp) ?_
  have e : z = ((z.toNat : Nat) : Int) := by omega
  rw [e]
  exact atI_nat hv
theorem ev_mod {i j : Int} (ha : Ev ta σ H (.int i)) (hb : Ev tb σ H (.int j)) (h : 0 < j) : Ev (tOp (rI (fun _ j => 0 < j) fun i j => .int (i % j)) ta tb) σ H (.int (i % j)) := ev_op ha hb (rv_I h)
theorem mod_r {i j : Int} (h : 0 < j) : 0 ≤ i % j ∧ i % j < j := ⟨Int.emod_nonneg i (by omega), Int.emod_lt_of_pos i h⟩
theorem ev_add {i j : Int} (ha : Ev ta σ H (.int i)) (hb : Ev tb σ H (.int j)) : Ev (tOp (rI0 fun i j => .int (i + j)) ta tb) σ H (.int (i + j)) := ev_op ha hb rv_I0
theorem ev_sub {i j : Int} (ha : Ev ta σ H (.int i)) (hb : Ev tb σ H (.int j)) : Ev (tOp (rI0 fun i j => .int (i - j)) ta tb) σ H (.int (i - j)) := ev_op ha hb rv_I0
theorem ev_mul {i j : Int} (ha : Ev ta σ H (.int i)) (hb : Ev tb σ H (.int j)) (h : CMul i j) : Ev (tOp (rI CMul fun i j => .int (i * j)) ta tb) σ H (.int (i * j)) := ev_op ha hb (rv_I h)
theorem ev_div {i j : Int} (ha : Ev ta σ H (.int i)) (hb : Ev tb σ H (.int j)) (h : 0 < j ∧ j < 1073741824) : Ev (tOp (rI CDiv fun i j => .int (i / j)) ta tb) σ H (.int (i / j)) := ev_op ha hb (rv_I (show CDiv i j from h))
theorem lt8000 {d : Int} (h0 : 0 < d) (h : d ≤ 1000000) : d.natAbs < 2 ^ 8000 := Nat.lt_of_lt_of_le (show d.natAbs < 2 ^ 20 by omega) (Nat.pow_le_pow_right (by decide) (by decide))
end
def spDig : Sp := spL (fun (c : Int) vs _ => vs = [.int c, .int 240]) fun _ xs _ => ∃ ds : List Int, xs = ds.map V.int ∧ ds.length = 240 ∧ Dg ds
def ADg (n : Nat) : List Int → List V → Hp → Prop := fun ds vs H => ∃ l, vs = [.ref l] ∧ DgAt H l ds ∧ ds.length = n
section
variable {P : Program} {w : World} {K : PySem.W.Frag} {mg : Str → Option Value} {base : Heap} {CL CZ CT NO MA : Addr} {f : Addr} {fd : FuncData}
theorem sc_l_digits : FnScope ["_law_cell_here", "_law_many", "_law_row", "_law_rest", "_law_number", "_law_k"] ["_law_cell_here", "_law_many"] (defScope s_l_digits) := ⟨rfl, rfl, rfl, by decide +kernel, rfl, by decide +kernel, by decide +kernel⟩
theorem ok_l_digits (T : Txt K w mg CL CZ CT NO MA) (F : FunD K "_law_digits" "_law_digits" (defArgs s_l_digits) (defBody s_l_digits) (defScope s_l_digits) [] [] f fd) : FnOk P w K mg base CX0 1 f fd ["_law_cell_here", "_law_many"] spDig := by
  refine F.ok sc_l_digits (fun vs H Q E h => ?_) (fun cdv A outer s H vs Q E hr h => ?_)
  · obtain ⟨_, rfl, _⟩ := h
    rfl
  obtain ⟨c, rfl, k⟩ := h
  refine ⟨_, PSs.nox (pss_cons (ps_set (i := 2) sc_l_digits.nd rfl (Or.inl rfl) (pe_lst pa_nil))
    (pss_cons (ps_set (i := 3) sc_l_digits.nd rfl (Or.inl rfl) pe_int)
    (pss_cons (ps_if (pt_cmpR op_ge (pv 0) (pe_op op_pow pe_int pe_int) (nomark _)) (pss_one (ps_set (i := 3) sc_l_digits.nd rfl (Or.inl rfl) (pv 0))) pss_nil)
    (pss_cons (ps_set (i := 4) sc_l_digits.nd rfl (Or.inl rfl) (pe_op op_mod (pv 0) pe_int))
    (pss_cons (ps_for PassesOwn.never rfl (pi_range1 rfl T.f_range (pa_cons (pv 1) pa_nil)) (pg_name (i := 5) sc_l_digits.nd rfl (Or.inl rfl))
    (pss_cons (ps_set (i := 4) sc_l_digits.nd rfl (Or.inl rfl) (pe_op op_mod (pe_op op_add (pe_op op_add (pe_op op_mul (pv 4) pe_int) (pe_op op_mul pe_int (pv 5))) pe_int) pe_int))
      (pss_cons (ps_set (i := 4) sc_l_digits.nd rfl (Or.inl rfl) (pe_op op_mod (pe_op op_mul (pv 4) (pe_op op_add (pe_op op_fdiv (pv 4) pe_int) pe_int)) pe_int))
      (pss_one (ps_if (pt_cmpR op_gt (pv 3) pe_int (nomark _)) (pss_cons (ps_expr (pe_bm PySem.F.plainAttrs_list PySem.F.slot_list_append PySem.F.type_list_append mt_append (pv 2) (pa_cons (pe_op op_mod (pv 3) pe_int) pa_nil)))
        (pss_one (ps_set (i := 3) sc_l_digits.nd rfl (Or.inl rfl) (pe_op op_fdiv (pv 3) pe_int)))) (pss_one (ps_expr (pe_bm PySem.F.plainAttrs_list PySem.F.slot_list_append PySem.F.type_list_append mt_append (pv 2) (pa_cons (pe_op op_mod (pe_op op_fdiv (pv 4) pe_int) pe_int) pa_nil)))))))))
    (pss_one (ps_ret (pv 2)))))))), ?_⟩
  refine q_asgL (el_lst ea_nil (by decide)) fun l H1 nl e1 hl => ?_
  refine q_asg ev_c fun H2 e2 => ?_
  refine q_ifAsg (b := decide ((10 : Int) ^ 18 ≤ c)) (v := .int (if (10 : Int) ^ 18 ≤ c then c else 0)) (et_test (ev_op (ev_var rfl) (ev_op ev_c ev_c (rv_I (⟨by decide, by decide, by decide⟩ : CPow 10 18))) rv_I0)) (fun hb => ?_) (fun hb => ?_) fun H3 e3 => ?_
  · rw [if_pos (of_decide_eq_true hb)]
    exact ev_var rfl
  · rw [if_neg (of_decide_eq_false hb)]
    rfl
  have hc0 : 0 ≤ (if (10 : Int) ^ 18 ≤ c then c else 0) := by
    split <;> omega
  generalize (if (10 : Int) ^ 18 ≤ c then c else 0) = rest at *
  refine q_asg (ev_mod (ev_var rfl) ev_c (by decide)) fun H4 e4 => ?_
  have hn := mod_r (i := c) (j := 2147483647) (by decide)
  generalize c % 2147483647 = number at *
  have l4 := ((e2.trans e3).trans e4) _ _ hl
  refine q_forR1 (n := 240) (ea_cons (ev_var rfl) ea_nil) (by decide) (fun i σ' H' => ∃ r n z, σ' = [some (.int c), some (.int 240), some (.ref l), some (.int r), some (.int n), z] ∧ 0 ≤ r ∧ 0 ≤ n ∧ n < 2147483648 ∧ Ek l H4 H' ∧ ∃ ds : List Int, H' l = some (.lst (ds.map V.int)) ∧ ds.length = i ∧ Dg ds)
    (fun H5 e5 => ⟨rest, number, none, rfl, hc0, hn.1, by omega, ekx e5, [], e5 _ _ l4, rfl, fun d hd => by cases hd⟩) ?_ ?_
  · rintro i σ' H' hi ⟨r, n, z, rfl, r0, n0, n1, ek, ds, hds, dl, dg⟩
    have h1 := mod_r (i := n * 48271 + 30103 * (i : Int) + 11) (j := 2147483647) (by decide)
    refine q_asg (ev_mod (ev_add (ev_add (ev_mul (ev_var rfl) ev_c (.inl (by omega))) (ev_mul ev_c (ev_var rfl) (.inl (by decide)))) ev_c) ev_c (by decide)) fun H5 e5 => ?_
    generalize (n * 48271 + 30103 * (i : Int) + 11) % 2147483647 = n2 at *
    have h2 := mod_r (i := n2 * (n2 / 1009 + 69621)) (j := 2147483629) (by decide)
    refine q_asg (ev_mod (ev_mul (ev_var rfl) (ev_add (ev_div (ev_var rfl) ev_c (by decide)) ev_c) (.inl (by omega))) ev_c (by decide)) fun H6 e6 => ?_
    generalize (n2 * (n2 / 1009 + 69621)) % 2147483629 = n3 at *
    have e56 := e5.trans e6
    have step : ∀ {H7 : Hp} {d r' : Int} {z : Option V}, Ex H6 H7 → 0 ≤ d → d < 1009 → 0 ≤ r' → ∀ {G : Hp}, Ek l H7 G → G l = some (.lst (ds.map V.int ++ [.int d])) →
        ∃ r n z', ([some (.int c), some (.int 240), some (.ref l), some (.int r'), some (.int n3), z] : L2.St) = [some (.int c), some (.int 240), some (.ref l), some (.int r), some (.int n), z'] ∧ 0 ≤ r ∧ 0 ≤ n ∧ n < 2147483648 ∧ Ek l H4 G ∧ ∃ es : List Int, G l = some (.lst (es.map V.int)) ∧ es.length = i + 1 ∧ Dg es :=
      fun {H7 d r' z} e7 d0 d1 r1 {G} kg hg => ⟨r', n3, z, rfl, r1, h2.1, by omega, (ek.trans (ekx (e56.trans e7))).trans kg, ds ++ [d], by rw [hg, List.map_append] <;> rfl, by rw [List.length_append, dl] <;> rfl, fun x hx => by
        rcases List.mem_append.mp hx with h | h
        · exact dg x h
        · have : x = d := by simpa using h
          omega⟩
    refine s_if (b := decide (0 < r)) (et_test (ev_op (ev_var rfl) ev_c rv_I0)) (fun hb H7 e7 => ?_) (fun hb H7 e7 => ?_)
    · have hb := of_decide_eq_true hb
      have m := mod_r (i := r) (j := 1009) (by decide)
      refine q_app ((e56.trans e7) _ _ hds) (ev_var rfl) (ev_mod (ev_var rfl) ev_c (by decide)) (by rw [List.length_map]; omega) fun H8 e8 => ?_
      refine s_asg (ev_div (ev_var rfl) ev_c (by decide)) fun H9 e9 => ?_
      exact step e7 m.1 m.2 (by omega) (((ekx e8).set).trans (ekx e9)) (e9 _ _ upd_same)
    · have m := mod_r (i := n3 / 7) (j := 1009) (by decide)
      refine s_app ((e56.trans e7) _ _ hds) (ev_var rfl) (ev_mod (ev_div (ev_var rfl) ev_c (by decide)) ev_c (by decide)) (by rw [List.length_map]; omega) fun H8 e8 => ?_
      exact step e7 m.1 m.2 r0 ((ekx e8).set) upd_same
  · rintro σ' H' ⟨r, n, z, rfl, r0, n0, n1, ek, ds, hds, dl, dg⟩
    exact ⟨_, rfl, k l _ H' nl (fun u o hu => ek _ _ ((((e1.trans e2).trans e3).trans e4) _ _ hu) (ne_of_none hu nl)) hds ⟨ds, rfl, dl, dg⟩⟩
abbrev FnLow (P : Program) (w : World) (K : PySem.W.Frag) (mg : Str → Option Value) (base : Heap) : Prop := Fn P w K mg base 1 "_law_low" ["_law_upper", "_law_lower"] (spLow K)
abbrev FnAdd (P : Program) (w : World) (K : PySem.W.Frag) (mg : Str → Option Value) (base : Heap) : Prop := Fn P w K mg base 2 "_law_add" ["_law_one", "_law_other"] (spW2 K Any2 (· + ·))
abbrev FnTake (P : Program) (w : World) (K : PySem.W.Frag) (mg : Str → Option Value) (base : Heap) : Prop := Fn P w K mg base 2 "_law_take" ["_law_one", "_law_other"] (spW2 K Any2 (· - ·))
abbrev FnBy (P : Program) (w : World) (K : PySem.W.Frag) (mg : Str → Option Value) (base : Heap) : Prop := Fn P w K mg base 2 "_law_by" ["_law_one", "_law_other"] (spW2 K Any2 (· * ·))
abbrev FnLess (P : Program) (w : World) (K : PySem.W.Frag) (mg : Str → Option Value) (base : Heap) : Prop := Fn P w K mg base 1 "_law_less" ["_law_one", "_law_other"] (spB2 K Any2 fun q r => decide (q < r))
def RUnit (K : PySem.W.Frag) : V → Hp → Prop := fun v H => ∃ u, IsW K u v H ∧ UnitOk u
theorem runit_mon : Mon (RUnit K) := fun v H H' e ⟨u, h, b⟩ => ⟨u, isw_mon v H H' e h, b⟩
def spUnit (K : PySem.W.Frag) : Sp := spI (ADg 29) fun _ => RUnit K
theorem sc_l_unit : FnScope ["_law_digits_here"] ["_law_digits_here"] (defScope s_l_unit) := ⟨rfl, rfl, rfl, by decide +kernel, rfl, by decide +kernel, by decide +kernel⟩
theorem ok_l_unit (T : Txt K w mg CL CZ CT NO MA) (h_l_low : FnLow P w K mg base) (F : FunD K "_law_unit" "_law_unit" (defArgs s_l_unit) (defBody s_l_unit) (defScope s_l_unit) [] [] f fd) : FnOk P w K mg base CX0 2 f fd ["_law_digits_here"] (spUnit K) := by
  refine F.ok sc_l_unit (fun vs H Q E h => ?_) (fun cdv A outer s H vs Q E hr h => ?_)
  · obtain ⟨_, ⟨_, rfl, _⟩, _⟩ := h
    rfl
  obtain ⟨ds, ⟨l, rfl, hd, hn⟩, k⟩ := h
  refine ⟨_, PSs.nox (pss_one (ps_ret (pe_fn h_l_low (hr.mono (by decide)) rfl (pa_cons (pe_op op_add pe_int (pe_op op_mod (pe_ix ix_list (pv 0) pe_int (fun _ _ => rfl)) pe_int)) (pa_cons (pe_ix ix_list (pe_lst (pa_cons pe_int (pa_cons pe_int (pa_cons pe_int (pa_cons pe_int (pa_cons pe_int pa_nil)))))) (pe_op op_mod (pe_ix ix_list (pv 0) pe_int (fun _ _ => rfl)) pe_int) (fun _ _ => rfl)) pa_nil))))), ?_⟩
  have m0 := mod_r (i := ds.getD 0 0) (j := 40) (by decide)
  have m1 := mod_r (i := ds.getD 1 0) (j := 5) (by decide)
  have hp := pick_all (P := fun d => 0 < d ∧ d ≤ 1000000 ∧ d ∣ 25200) (xs := [1, 60, 2, 3600, 7]) (z := ds.getD 1 0 % 5) (by decide) m1.1 m1.2
  exact s_retR (ew_low (ev_add ev_c (ev_mod (ev_dg (i := 0) (ev_var rfl) hd ev_c (by omega)) ev_c (by decide))) (ev_pick (xs := [1, 60, 2, 3600, 7]) (z := ds.getD 1 0 % 5) (ea_cons ev_c (ea_cons ev_c (ea_cons ev_c (ea_cons ev_c (ea_cons ev_c ea_nil))))) (fun H1 e1 => ev_mod (ev_dg (i := 1) (ev_var rfl) (hd.mono e1) ev_c (by omega)) ev_c (by decide)) m1.1 m1.2 (by decide)) hp.1 (lt8000 hp.1 hp.2.1)) fun v H1 e1 hv =>
    k v H1 e1 ⟨_, hv, ⟨_, _, by omega, by omega, hp.1, hp.2.2, rfl⟩⟩
/-- a line's five things -/
def RLine (K : PySem.W.Frag) : V → Hp → Prop := fun v H => ∃ p a1 a2 a3 a4 lo hi st at_ b, v = .ref p ∧ SqT K H p [.ref a1, .ref a2, .ref a3, .ref a4, .bl b] ∧ LineArg K H a1 a2 a3 a4 lo hi st at_
def spDLine (K : PySem.W.Frag) : Sp := spI (ADg 29) fun _ => RLine K
theorem sc_l_drawn_line : FnScope ["_law_digits_here", "_law_unit_here", "_law_wide", "_law_lowest_one", "_law_greatest", "_law_pace", "_law_place"] ["_law_digits_here"] (defScope s_l_drawn_line) := ⟨rfl, rfl, rfl, by decide +kernel, rfl, by decide +kernel, by decide +kernel⟩
theorem ok_l_drawn_line (T : Txt K w mg CL CZ CT NO MA) (h_l_low : FnLow P w K mg base) (h_l_add : FnAdd P w K mg base) (h_l_by : FnBy P w K mg base) (h_l_unit : Fn P w K mg base 2 "_law_unit" ["_law_digits_here"] (spUnit K))
    (F : FunD K "_law_drawn_line" "_law_drawn_line" (defArgs s_l_drawn_line) (defBody s_l_drawn_line) (defScope s_l_drawn_line) [] [] f fd) : FnOk P w K mg base CX0 3 f fd ["_law_digits_here"] (spDLine K) := by
  refine F.ok sc_l_drawn_line (fun vs H Q E h => ?_) (fun cdv A outer s H vs Q E hr h => ?_)
  · obtain ⟨_, ⟨_, rfl, _⟩, _⟩ := h
    rfl
  obtain ⟨ds, ⟨l, rfl, hd, hn⟩, k⟩ := h
  refine ⟨_, PSs.nox (pss_cons (ps_set (i := 1) sc_l_drawn_line.nd rfl (Or.inl rfl) (pe_fn h_l_unit (hr.mono (by decide)) rfl (pa_cons (pv 0) pa_nil)))
    (pss_cons (ps_set (i := 2) sc_l_drawn_line.nd rfl (Or.inl rfl) (pe_op op_add pe_int (pe_op op_mod (pe_ix ix_list (pv 0) pe_int (fun _ _ => rfl)) pe_int)))
    (pss_cons (ps_set (i := 3) sc_l_drawn_line.nd rfl (Or.inl rfl) (pe_fn h_l_by (hr.mono (by decide)) rfl (pa_cons (pv 1) (pa_cons (pe_tup (pa_cons (pe_op op_mod (pe_ix ix_list (pv 0) pe_int (fun _ _ => rfl)) (pe_ix ix_list (pe_lst (pa_cons pe_int (pa_cons pe_int pa_nil))) (pe_op op_mod (pe_ix ix_list (pv 0) pe_int (fun _ _ => rfl)) pe_int) (fun _ _ => rfl))) (pa_cons pe_int pa_nil))) pa_nil))))
    (pss_cons (ps_set (i := 4) sc_l_drawn_line.nd rfl (Or.inl rfl) (pe_fn h_l_add (hr.mono (by decide)) rfl (pa_cons (pv 3) (pa_cons (pe_fn h_l_by (hr.mono (by decide)) rfl (pa_cons (pv 1) (pa_cons (pe_tup (pa_cons (pv 2) (pa_cons pe_int pa_nil))) pa_nil))) pa_nil))))
    (pss_cons (ps_set (i := 5) sc_l_drawn_line.nd rfl (Or.inl rfl) (pe_fn h_l_by (hr.mono (by decide)) rfl (pa_cons (pv 1) (pa_cons (pe_fn h_l_low (hr.mono (by decide)) rfl (pa_cons (pe_op op_add pe_int (pe_op op_mod (pe_ix ix_list (pv 0) pe_int (fun _ _ => rfl)) (pe_op op_mul pe_int (pv 2)))) (pa_cons pe_int pa_nil))) pa_nil))))
    (pss_cons (ps_set (i := 6) sc_l_drawn_line.nd rfl (Or.inl rfl) (pe_fn h_l_add (hr.mono (by decide)) rfl (pa_cons (pv 3) (pa_cons (pe_fn h_l_by (hr.mono (by decide)) rfl (pa_cons (pv 1) (pa_cons (pe_fn h_l_low (hr.mono (by decide)) rfl (pa_cons (pe_op op_mod (pe_ix ix_list (pv 0) pe_int (fun _ _ => rfl)) (pe_op op_add (pe_op op_mul pe_int (pv 2)) pe_int)) (pa_cons pe_int pa_nil))) pa_nil))) pa_nil))))
    (pss_one (ps_ret (pe_tup (pa_cons (pv 3) (pa_cons (pv 4) (pa_cons (pv 5) (pa_cons (pv 6) (pa_cons (pe_cmpR op_eq (pe_op op_mod (pe_ix ix_list (pv 0) pe_int (fun _ _ => rfl)) pe_int) pe_int (nomark _)) pa_nil)))))))))))))), ?_⟩
  refine q_asgR (er_call1 (A := ADg 29) (B := fun _ => RUnit K) (R1 := fun v _ => v = .ref l) ds (er_of (ev_var rfl) fun _ _ => rfl) fun x H1 e1 hx => ⟨l, by rw [hx], hd.mono e1, hn⟩) fun v H1 e1 ⟨u, ⟨a, hv, hu⟩, uok⟩ => ?_
  subst hv
  have w := mod_r (i := ds.getD 2 0) (j := 30) (by decide)
  refine q_asg (ev_add ev_c (ev_mod (ev_dg (i := 2) (ev_var rfl) (hd.mono e1) ev_c (by omega)) ev_c (by decide))) fun H2 e2 => ?_
  have W0 : 1 ≤ 1 + ds.getD 2 0 % 30 := by omega
  have W1 : 1 + ds.getD 2 0 % 30 ≤ 30 := by omega
  generalize 1 + ds.getD 2 0 % 30 = W at *
  have m4 := mod_r (i := ds.getD 4 0) (j := 2) (by decide)
  have hp := pick_all (P := fun d => 0 < d ∧ d ≤ 25) (xs := [1, 25]) (z := ds.getD 4 0 % 2) (by decide) m4.1 m4.2
  have e12 := e1.trans e2
  have mm := mod_r (i := ds.getD 3 0) hp.1
  have su : Sm u := uok.bd.sm1 (by decide +kernel)
  have hm : ∀ {σ : L2.St} {H3 : Hp}, Ex H2 H3 → σ[0]? = some (some (.ref l)) → Ev (tOp (rI (fun _ j => 0 < j) fun i j => .int (i % j)) (tOp (rIxL K) (tVar 0) (tC (.int 3))) (tOp (rIxL K) (tLst (tCons (tC (.int 1)) (tCons (tC (.int 25)) tNil))) (tOp (rI (fun _ j => 0 < j) fun i j => .int (i % j)) (tOp (rIxL K) (tVar 0) (tC (.int 4))) (tC (.int 2))))) σ H3 (.int (ds.getD 3 0 % ([1, 25] : List Int).getD (ds.getD 4 0 % 2).toNat 0)) := fun e3 h =>
    ev_mod (ev_dg (i := 3) (ev_var h) (hd.mono (e12.trans e3)) ev_c (by omega)) (ev_pick (xs := [1, 25]) (z := ds.getD 4 0 % 2) (ea_cons ev_c (ea_cons ev_c ea_nil)) (fun H4 e4 => ev_mod (ev_dg (i := 4) (ev_var h) (hd.mono ((e12.trans e3).trans e4)) ev_c (by omega)) ev_c (by decide)) m4.1 m4.2 (by decide)) hp.1
  generalize ds.getD 3 0 % ([1, 25] : List Int).getD (ds.getD 4 0 % 2).toNat 0 = m at *
  have mA : 0 ≤ m := mm.1
  have mB : m ≤ 24 := by omega
  refine q_asgW (q := u * (m : Rat)) (ew_2 (ew_var rfl (hu.mono e2)) (ew_int (hm (Ex.refl H2) rfl) ev_c) su ((Bd.int 1 (B := 24) (by omega) mB).sm1 (by decide +kernel)) trivial) fun a3 H3 e3 w3 => ?_
  have sw : Sm ((W : Int) : Rat) := (Bd.int 1 (B := 30) (by omega) W1).sm1 (by decide +kernel)
  refine q_asgW (ew_2 (ew_var rfl w3) (ew_2 (ew_var rfl ((hu.mono e2).mono e3)) (ew_int (ev_var rfl) ev_c) su sw trivial) ((lo_bd uok mA mB).sm1 (by decide +kernel)) ((wide_bd uok W0 W1).sm1 (by decide +kernel)) trivial) fun a4 H4 e4 w4 => ?_
  have n5 := mod_r (i := ds.getD 5 0) (j := 2 * W) (by omega)
  have e14 := (e12.trans e3).trans e4
  have e24 := e3.trans e4
  refine q_asgW (ew_2 (ew_var rfl (hu.mono (e2.trans e24))) (ew_low (n := 1 + ds.getD 5 0 % (2 * W)) (d := 2) (ev_add ev_c (ev_mod (ev_dg (i := 5) (ev_var rfl) (hd.mono e14) ev_c (by omega)) (ev_mul ev_c (ev_var rfl) (.inl (by decide))) (by omega))) ev_c (by decide) (lt8000 (by decide) (by decide))) su ((half_bd (n := 1 + ds.getD 5 0 % (2 * W)) W1 (by omega) (by omega)).sm1 (by decide +kernel)) trivial) fun a5 H5 e5 w5 => ?_
  have n0 : 1 ≤ 1 + ds.getD 5 0 % (2 * W) := by omega
  have n1 : 1 + ds.getD 5 0 % (2 * W) ≤ 2 * W := by omega
  generalize 1 + ds.getD 5 0 % (2 * W) = n at *
  have n6 := mod_r (i := ds.getD 6 0) (j := 3 * W + 1) (by omega)
  have e15 := e14.trans e5
  refine q_asgW (ew_2 (ew_var rfl ((w3.mono e4).mono e5)) (ew_2 (ew_var rfl (hu.mono ((e2.trans e24).trans e5))) (ew_low (n := ds.getD 6 0 % (3 * W + 1)) (d := 3) (ev_mod (ev_dg (i := 6) (ev_var rfl) (hd.mono e15) ev_c (by omega)) (ev_add (ev_mul ev_c (ev_var rfl) (.inl (by decide))) ev_c) (by omega)) ev_c (by decide) (lt8000 (by decide) (by decide))) su ((third_bd (c := ds.getD 6 0 % (3 * W + 1)) W1 n6.1 (by omega)).sm1 (by decide +kernel)) trivial)
    ((lo_bd uok mA mB).sm1 (by decide +kernel)) ((off_bd (c := ds.getD 6 0 % (3 * W + 1)) uok W1 n6.1 (by omega)).sm1 (by decide +kernel)) trivial) fun a6 H6 e6 w6 => ?_
  have c0 := n6.1
  have c1 : ds.getD 6 0 % (3 * W + 1) ≤ 3 * W := by omega
  generalize ds.getD 6 0 % (3 * W + 1) = c at *
  have e16 := e15.trans e6
  have ht := eu_tup (ea_cons (ev_var (i := 3) rfl) (ea_cons (ev_var (i := 4) rfl) (ea_cons (ev_var (i := 5) rfl) (ea_cons (ev_var (i := 6) rfl) (ea_cons (ev_op (y := .int 0) (ev_mod (j := 2) (ev_dg (K := K) (i := 7) (ev_var rfl : Ev (tVar 0) [some (.ref l), some (.ref a), some (.int W), some (.ref a3), some (.ref a4), some (.ref a5), some (.ref a6)] H6 (.ref l)) (hd.mono e16) ev_c (by omega)) ev_c (by decide)) ev_c (rv_eq rfl)) ea_nil))))) (by show 5 ≤ 100000; decide)
  refine ht H6 (Ex.refl H6) _ fun p H7 np e7 hp7 => k _ H7 (e16.trans e7) ⟨p, a3, a4, a5, a6, u * (m : Rat), u * (m : Rat) + u * (W : Rat), u * Rat.divInt n 2, u * (m : Rat) + u * Rat.divInt c 3, _, rfl, SqT.of hp7, ?_⟩
  have e37 := ((e4.trans e5).trans e6).trans e7
  exact ⟨w3.mono e37, w4.mono ((e5.trans e6).trans e7), w5.mono (e6.trans e7), w6.mono e7, line_l0 uok mA, line_l1 uok W0, line_l2 uok n0, line_l3 uok n1, line_l4 uok c0, line_l5 uok c1, (lo_bd uok mA mB).mono (by decide +kernel) (by decide), (hi_bd uok mA mB W0 W1).mono (by decide +kernel) (by decide),
    (pace_bd uok W1 n0 n1).mono (by decide +kernel) (by decide), (at_bd uok mA mB W1 c0 c1).mono (by decide +kernel) (by decide)⟩
end
end Tb

/-! ## TbLaw2 -/
set_option Elab.async false
set_option linter.all false
set_option maxRecDepth 100000
set_option maxHeartbeats 4000000
namespace Tb
open PySem PySem.Spec PyProof.Rows L2 Evl
section
variable {K : PySem.W.Frag} {σ : L2.St} {H H' : Hp} {ta tb te tl ti : TE} {l : Addr} {ds xs : List Int} {z : Int} {tt : TA} {D : Ends} {tz : TS} {t : TT}
theorem ev_dgz (hl : Ev tl σ H (.ref l)) (h : DgAt H l ds) (hi : Ev ti σ H (.int z)) (h0 : 0 ≤ z) (hz : z < (ds.length : Int)) : Ev (tOp (rIxL K) tl ti) σ H (.int (ds.getD z.toNat 0)) := by
  obtain ⟨n, rfl⟩ := Int.eq_ofNat_of_zero_le h0
  exact ev_dg hl h hi (by omega)
/-- [e] -/
theorem en_lst1 {R : V → Hp → Prop} (h : EvR te σ H R) (m : Mon R) : EvN (tLst (tCons te tNil)) σ H fun xs H' => ∃ v, xs = [v] ∧ R v H' := fun H1 e1 Q q => h H1 e1 _ fun v H2 e2 r => ⟨by show 1 ≤ sizeLine; decide, fun p hp => q p [v] _ (fresh_back e2 hp) (e2.trans (Ex.new hp)) upd_same ⟨v, rfl, m _ _ _ (Ex.new hp) r⟩⟩
/-- if c: x = e, told by what holds of x behind it -/
theorem q_ifAsgR {b : Bool} {i : Nat} {R : V → Hp → Prop} {v0 : V} (h : EvT t σ H b) (h1 : b = true → EvR te σ H R) (h2 : σ.set i (some v0) = σ) (h3 : ∀ H1, Ex H H1 → R v0 H1) (k : ∀ v H1, Ex H H1 → R v H1 → tz D (σ.set i (some v)) H1) : tSeq (tIfS t (tAsg te (gName i)) tNext) tz D σ H :=
  q_when h (fun hb H1 e1 => s_asgR (D := { D with nx := tz D }) ((h1 hb).mono e1) fun v H2 e2 r => k v H2 (e1.trans e2) r) (fun hb H1 e1 => by
    have g := k v0 H1 e1 (h3 H1 e1)
    rw [h2] at g
    exact g)
theorem ew_lastE {acc : List V} {n : Nat} {g : Nat → Rat} (hl : Ev tl σ H (.ref l)) (h : H l = some (.lst acc)) (he : Each (n + 1) (fun j => IsW K (g j)) acc H) (hi : Ev ti σ H (.int (-1))) : EW K (tOp (rIxL K) tl ti) σ H (g n) := by
  have hz' : n < acc.length := by rw [he.1]; omega
  have hv : acc[n]? = some acc[n] := by simp [hz']
  have hv2 : acc[acc.length - 1]? = some acc[n] := by rw [← hv]; congr 1; rw [he.1] <;> rfl
  exact er_of (ev_op hl hi (rv_ixL (sq_of h) (atI_end hv2))) fun H1 e1 => isw_mon _ _ _ e1 (he.2 n _ hv)
theorem Each.ext {n : Nat} {e : Nat → Rat} {q : Rat} {acc : List V} (h : Each (n + 1) (fun j => IsW K (e j)) acc H) : Each (n + 1) (fun j => IsW K (extF e (n + 1) q j)) acc H := ⟨h.1, fun i x hx => by
  have := (List.getElem?_eq_some_iff.mp hx).1
  rw [h.1] at this
  show IsW K (extF e (n + 1) q i) x H
  rw [extF_ne (by omega)]
  exact h.2 i x hx⟩
theorem Each.drop {n : Nat} {R : Nat → V → Hp → Prop} {acc : List V} (h : Each (n + 1) R acc H) : Each n R acc.dropLast H := ⟨by rw [List.length_dropLast, h.1] <;> rfl, fun i x hx => by
  rw [List.getElem?_dropLast] at hx
  split at hx
  · exact h.2 i x hx
  · cases hx⟩
end
/-- zones' four things -/
def RZones (K : PySem.W.Frag) : V → Hp → Prop := fun v H => ∃ (p a1 l1 l2 a4 : Addr) (bs ss : List Rat) (r at_ : Rat), v = .ref p ∧ SqT K H p [.ref a1, .ref l1, .ref l2, .ref a4] ∧ WAt K H a1 r ∧ LW K H l1 bs ∧ LW K H l2 ss ∧ WAt K H a4 at_ ∧ ZoneArg bs ss r at_
def spDZones (K : PySem.W.Frag) : Sp := spI (ADg 29) fun _ => RZones K
section
variable {P : Program} {w : World} {K : PySem.W.Frag} {mg : Str → Option Value} {base : Heap} {CL CZ CT NO MA : Addr} {f : Addr} {fd : FuncData}
theorem sc_l_drawn_zones : FnScope ["_law_digits_here", "_law_many", "_law_edges", "_law_k", "_law_wide", "_law_paces", "_law_place"] ["_law_digits_here"] (defScope s_l_drawn_zones) := ⟨rfl, rfl, rfl, by decide +kernel, rfl, by decide +kernel, by decide +kernel⟩
theorem ok_l_drawn_zones (T : Txt K w mg CL CZ CT NO MA) (h_l_low : FnLow P w K mg base) (h_l_add : FnAdd P w K mg base) (h_l_by : FnBy P w K mg base)
    (F : FunD K "_law_drawn_zones" "_law_drawn_zones" (defArgs s_l_drawn_zones) (defBody s_l_drawn_zones) (defScope s_l_drawn_zones) [] [] f fd) : FnOk P w K mg base CX0 3 f fd ["_law_digits_here"] (spDZones K) := by
  refine F.ok sc_l_drawn_zones (fun vs H Q E h => ?_) (fun cdv A outer s H vs Q E hr h => ?_)
  · obtain ⟨_, ⟨_, rfl, _⟩, _⟩ := h
    rfl
  obtain ⟨ds, ⟨l, rfl, hd, hn⟩, k⟩ := h
  refine ⟨_, PSs.nox (pss_cons (ps_set (i := 1) sc_l_drawn_zones.nd rfl (Or.inl rfl) (pe_op op_add pe_int (pe_op op_mod (pe_ix ix_list (pv 0) pe_int (fun _ _ => rfl)) pe_int)))
    (pss_cons (ps_set (i := 2) sc_l_drawn_zones.nd rfl (Or.inl rfl) (pe_lst (pa_cons (pe_tup (pa_cons pe_int (pa_cons pe_int pa_nil))) pa_nil)))
    (pss_cons (ps_for PassesOwn.never rfl (pi_range1 rfl T.f_range (pa_cons (pv 1) pa_nil)) (pg_name (i := 3) sc_l_drawn_zones.nd rfl (Or.inl rfl))
    (pss_cons (ps_set (i := 4) sc_l_drawn_zones.nd rfl (Or.inl rfl) (pe_fn h_l_low (hr.mono (by decide)) rfl (pa_cons (pe_op op_add pe_int (pe_op op_mod (pe_ix ix_list (pv 0) (pe_op op_add pe_int (pv 3)) (fun _ _ => rfl)) pe_int)) (pa_cons (pe_ix ix_list (pe_lst (pa_cons pe_int (pa_cons pe_int (pa_cons pe_int (pa_cons pe_int pa_nil))))) (pe_op op_mod (pe_ix ix_list (pv 0) (pe_op op_add pe_int (pv 3)) (fun _ _ => rfl)) pe_int) (fun _ _ => rfl)) pa_nil))))
      (pss_one (ps_expr (pe_bm PySem.F.plainAttrs_list PySem.F.slot_list_append PySem.F.type_list_append mt_append (pv 2) (pa_cons (pe_fn h_l_add (hr.mono (by decide)) rfl (pa_cons (pe_ix ix_list (pv 2) (pe_un un_neg pe_int) (fun _ _ => rfl)) (pa_cons (pv 4) pa_nil))) pa_nil))))))
    (pss_cons (ps_setLc (i := 5) (own := [("_law_k", 3)]) (g := gName 3) (tt := tYes) rfl sc_l_drawn_zones.nd rfl rfl (sw_true rfl rfl rfl (by decide +kernel)) (pi_range1 rfl T.f_range (pa_cons (pv 1) pa_nil)) (blkOk_by (own := [("_law_k", 3)]) (N := ["_law_digits_here", "_law_many", "_law_edges", "_law_k", "_law_wide", "_law_paces", "_law_place"]) (sc := defScope s_l_drawn_zones) (by decide +kernel)) (fun _ _ _ _ _ => (pg_name (i := 3) sc_l_drawn_zones.nd rfl (Or.inl rfl))) (fun _ _ _ _ _ => pts_nil) (fun _ _ _ _ _ => (pe_fn h_l_low (hr.mono (by decide)) rfl (pa_cons (pe_op op_add pe_int (pe_op op_mod (pe_ix (ix_listB (K := K)) (pv 0) (pe_op op_add pe_int (pv 3)) (fun _ _ => rfl)) pe_int)) (pa_cons (pe_ix (ix_listB (K := K)) (pe_lst (pa_cons pe_int (pa_cons pe_int (pa_cons pe_int (pa_cons pe_int pa_nil))))) (pe_op op_mod (pe_ix (ix_listB (K := K)) (pv 0) (pe_op op_add pe_int (pv 3)) (fun _ _ => rfl)) pe_int) (fun _ _ => rfl)) pa_nil)))))
    (pss_cons (ps_set (i := 6) sc_l_drawn_zones.nd rfl (Or.inl rfl) (pe_fn h_l_by (hr.mono (by decide)) rfl (pa_cons (pe_ix ix_list (pv 2) (pe_un un_neg pe_int) (fun _ _ => rfl)) (pa_cons (pe_fn h_l_low (hr.mono (by decide)) rfl (pa_cons (pe_op op_mod (pe_ix ix_list (pv 0) pe_int (fun _ _ => rfl)) pe_int) (pa_cons pe_int pa_nil))) pa_nil))))
    (pss_cons (ps_if (pt_cmpR op_eq (pe_op op_mod (pe_ix ix_list (pv 0) pe_int (fun _ _ => rfl)) pe_int) pe_int (nomark _)) (pss_one (ps_set (i := 6) sc_l_drawn_zones.nd rfl (Or.inl rfl) (pe_ix ix_list (pv 2) (pe_op op_mod (pe_ix ix_list (pv 0) pe_int (fun _ _ => rfl)) (pv 1)) (fun _ _ => rfl)))) pss_nil)
    (pss_one (ps_ret (pe_tup (pa_cons (pe_ix ix_list (pv 2) (pe_un un_neg pe_int) (fun _ _ => rfl)) (pa_cons (pe_slice sl_list (pv 2) po_none (po_some (pe_un un_neg pe_int))) (pa_cons (pv 5) (pa_cons (pv 6) pa_nil))))))))))))), ?_⟩
  have m0 := mod_r (i := ds.getD 0 0) (j := 5) (by decide)
  refine q_asg (ev_add ev_c (ev_mod (ev_dg (i := 0) (ev_var rfl) hd ev_c (by omega)) ev_c (by decide))) fun H1 e1 => ?_
  obtain ⟨n, hn0⟩ : ∃ n : Nat, 1 + ds.getD 0 0 % 5 = (n : Int) := ⟨(1 + ds.getD 0 0 % 5).toNat, by omega⟩
  have n1 : 1 ≤ n := by omega
  have n5 : n ≤ 5 := by omega
  rw [hn0]
  refine q_asgN (en_lst1 (R := IsW K (((0 : Int)) : Rat)) (ew_int ev_c ev_c) isw_mon) fun le xs H2 nle e2 hle ⟨v, hxs, hv⟩ => ?_
  subst hxs
  have e12 := e1.trans e2
  have nl : l ≠ le := ne_of_none (e1 _ _ hd.1) nle
  have fle : H le = none := fresh_back e1 nle
  refine q_forR1 (n := (n : Int)) (ea_cons (ev_var rfl) ea_nil) (by omega) (fun i σ' H' => ∃ z3 z4 e acc, σ' = [some (.ref l), some (.int (n : Int)), some (.ref le), z3, z4, none, none] ∧ Ek le H2 H' ∧ H' le = some (.lst acc) ∧ Each (i + 1) (fun j => IsW K (e j)) acc H' ∧ EdgeOk e i)
    (fun H3 e3 => ⟨none, none, fun _ => 0, [v], rfl, ekx e3, e3 _ _ hle, ⟨rfl, fun i x hx => ?_⟩, ⟨rfl, fun i hi => absurd hi (Nat.not_lt_zero i), fun i hi => Bd.of_int (z := 0) rfl (by omega) (by omega)⟩⟩) ?_ ?_
  · have h1 := (List.getElem?_eq_some_iff.mp hx).1
    have h1 : i < 1 := h1
    have : i = 0 := by omega
    subst this
    have : v = x := Option.some.inj hx
    subst this
    exact isw_mon _ _ _ e3 hv
  · rintro i σ' H' hi ⟨z3, z4, e, acc, rfl, ek, hacc, hE, eo⟩
    have dH : DgAt H' l ds := ⟨ek _ _ (e12 _ _ hd.1) nl, hd.2⟩
    have p1 := mod_r (i := ds.getD (1 + (i : Int)).toNat 0) (j := 60) (by decide)
    have p2 := mod_r (i := ds.getD (6 + (i : Int)).toNat 0) (j := 4) (by decide)
    have hp := pick_all (P := fun d => 0 < d ∧ d ≤ 1000000 ∧ d ∣ 420) (xs := [1, 1, 60, 7]) (z := ds.getD (6 + (i : Int)).toNat 0 % 4) (by decide) p2.1 p2.2
    have ew := edge_w (n := 1 + ds.getD (1 + (i : Int)).toNat 0 % 60) (by omega) (by omega) hp.1 hp.2.2
    refine q_asgW (ew_low (ev_add ev_c (ev_mod (ev_dgz (z := 1 + (i : Int)) (ev_var rfl) dH (ev_add ev_c (ev_var rfl)) (by omega) (by omega)) ev_c (by decide))) (ev_pick (xs := [1, 1, 60, 7]) (z := ds.getD (6 + (i : Int)).toNat 0 % 4) (ea_cons ev_c (ea_cons ev_c (ea_cons ev_c (ea_cons ev_c ea_nil))))
      (fun H1 e1 => ev_mod (ev_dgz (z := 6 + (i : Int)) (ev_var rfl) (dH.mono e1) (ev_add ev_c (ev_var rfl)) (by omega) (by omega)) ev_c (by decide)) p2.1 p2.2 (by decide)) hp.1 (lt8000 hp.1 hp.2.1)) fun c H3 e3 wc => ?_
    generalize Rat.divInt (1 + ds.getD (1 + (i : Int)).toNat 0 % 60) _ = wq at *
    have sl : Sm (e i) := ((eo.bd i (Nat.le_refl i)).mono (C := 1000) (Int.dvd_refl _) (by omega)).sm1 (by decide +kernel)
    have hacc3 := e3 _ _ hacc
    refine s_appR hacc3 (ev_var rfl) (ew_2 (ew_lastE (ev_var rfl) hacc3 (hE.ex e3 isw_mons) (ev_un ev_c ru_neg)) (ew_var rfl wc) sl (ew.2.sm1 (by decide +kernel)) trivial) (by rw [hE.1]; omega) fun u H4 e4 hu => ?_
    refine ⟨_, _, extF e (i + 1) (e i + wq), _, rfl, (ek.trans (ekx (e3.trans e4))).set, upd_same, ?_, eo.ext ew.1 ew.2⟩
    refine ((hE.ex (e3.trans e4) isw_mons).ext (q := e i + wq)).app (e4 _ _ hacc3) Ek.upd isw_monLs ?_
    show IsW K (extF e (i + 1) (e i + wq) (i + 1)) u H4
    rw [extF_same]
    exact hu
  · rintro σ' H' ⟨z3, z4, e, acc, rfl, ek, hacc, hE, eo⟩
    have hE : Each (n + 1) (fun j => IsW K (e j)) acc H' := hE
    have eo : EdgeOk e n := eo
    have dH : DgAt H' l ds := ⟨ek _ _ (e12 _ _ hd.1) nl, hd.2⟩
    have eH : Ex H H' := fun u o hu => ek _ _ (e12 _ _ hu) (ne_of_none hu fle)
    have step : ∀ i : Nat, i < n → StepOk (Rat.divInt (1 + ds.getD (11 + (i : Int)).toNat 0 % 40) (([1, 2, 60, 3] : List Int).getD (ds.getD (16 + (i : Int)).toNat 0 % 4).toNat 0)) := fun i hi => by
      have p1 := mod_r (i := ds.getD (11 + (i : Int)).toNat 0) (j := 40) (by decide)
      have p2 := mod_r (i := ds.getD (16 + (i : Int)).toNat 0) (j := 4) (by decide)
      have hp := pick_all (P := fun d => 1 ≤ d ∧ d ≤ 60 ∧ d ∣ 60) (xs := [1, 2, 60, 3]) (z := ds.getD (16 + (i : Int)).toNat 0 % 4) (by decide) p2.1 p2.2
      exact ⟨_, _, by omega, by omega, hp.1, hp.2.1, hp.2.2, rfl⟩
    refine q_asgN (en_lcR1 (R := fun i => IsW K (Rat.divInt (1 + ds.getD (11 + (i : Int)).toNat 0 % 40) (([1, 2, 60, 3] : List Int).getD (ds.getD (16 + (i : Int)).toNat 0 % 4).toNat 0))) (hi := (n : Int)) isw_mons isw_monLs (ea_cons (ev_var rfl) ea_nil) (by omega) (fun _ => rfl) fun i hi => ?_) fun lp ys H3 nlp e3 hlp hP => ?_
    · have p2 := mod_r (i := ds.getD (16 + (i : Int)).toNat 0) (j := 4) (by decide)
      have hp := pick_all (P := fun d => 0 < d ∧ d ≤ 1000000) (xs := [1, 2, 60, 3]) (z := ds.getD (16 + (i : Int)).toNat 0 % 4) (by decide) p2.1 p2.2
      exact ew_low (ev_add ev_c (ev_mod (ev_dgz (z := 11 + (i : Int)) (ev_var rfl) dH (ev_add ev_c (ev_var rfl)) (by omega) (by omega)) ev_c (by decide))) (ev_pick (xs := [1, 2, 60, 3]) (z := ds.getD (16 + (i : Int)).toNat 0 % 4) (ea_cons ev_c (ea_cons ev_c (ea_cons ev_c (ea_cons ev_c ea_nil))))
        (fun H1 e1 => ev_mod (ev_dgz (z := 16 + (i : Int)) (ev_var rfl) (dH.mono e1) (ev_add ev_c (ev_var rfl)) (by omega) (by omega)) ev_c (by decide)) p2.1 p2.2 (by decide)) hp.1 (lt8000 hp.1 hp.2)
    have m21 := mod_r (i := ds.getD 21 0) (j := 12) (by decide)
    have hlast : 0 < e n := by
      have := eo.lt_last (n - 1) 0 (by omega)
      rw [eo.e0] at this
      exact this
    have bl : Bd 420 300 (e n) := (eo.bd n (Nat.le_refl n)).mono (Int.dvd_refl _) (by omega)
    have b12 : Bd 12 12 (Rat.divInt (ds.getD 21 0 % 12) 12) := Bd.quot (by decide) (by decide) (by omega) (by omega)
    have hacc3 := e3 _ _ hacc
    have hE3 := hE.ex e3 isw_mons
    refine q_asgW (ew_2 (ew_lastE (ev_var rfl) hacc3 hE3 (ev_un ev_c ru_neg)) (ew_low (n := ds.getD 21 0 % 12) (d := 12) (ev_mod (ev_dg (i := 21) (ev_var rfl) (dH.mono e3) ev_c (by omega)) ev_c (by decide)) ev_c (by decide) (lt8000 (by decide) (by decide))) (bl.sm1 (by decide +kernel)) (b12.sm1 (by decide +kernel)) trivial) fun a4 H4 e4 w4 => ?_
    have sl := share_lt hlast m21.1 m21.2
    have bs : Bd 5040 3600 (e n * Rat.divInt (ds.getD 21 0 % 12) 12) := (bl.mul b12).mono (by decide) (by decide)
    have e34 := e3.trans e4
    have m23 := mod_r (i := ds.getD 23 0) (j := (n : Int)) (by omega)
    refine q_ifAsgR (R := fun v H => ∃ at_, IsW K at_ v H ∧ 0 ≤ at_ ∧ at_ < e n ∧ Bd 5040 BI at_) (v0 := .ref a4) (et_test (ev_op (ev_mod (ev_dg (i := 22) (ev_var rfl) (dH.mono e34) ev_c (by omega)) ev_c (by decide)) ev_c (rv_eq rfl))) (fun hb => ?_) rfl (fun H5 e5 => ⟨_, ⟨a4, rfl, w4.mono e5⟩, sl.1, sl.2, bs.mono (Int.dvd_refl _) (by decide)⟩) fun v5 H5 e5 ⟨at_, ⟨a5, hv5, w5⟩, t0, t1, bt⟩ => ?_
    · obtain ⟨j, hj⟩ := Int.eq_ofNat_of_zero_le m23.1
      have hjn : j < n := by omega
      refine EvR.imp (ew_ixE (z := j) (n := n + 1) (g := e) (ev_var rfl) (e4 _ _ hacc3) (hE3.ex e4 isw_mons) (ev_is (ev_mod (ev_dg (i := 23) (ev_var rfl) (dH.mono e34) ev_c (by omega)) (ev_var rfl) (by omega)) (congrArg V.int hj)) (by omega)) fun v H5 e5 hv => ⟨_, hv, eo.nonneg j (by omega), eo.lt_last (n - 1 - j) j (by omega), (eo.bd j (by omega)).mono (by decide) (by
        show 60 * (j : Int) ≤ 1000000
        omega)⟩
    subst hv5
    have e35 := e34.trans e5
    have hacc5 := e35 _ _ hacc
    have hE5 := hE.ex e35 isw_mons
    refine (ew_lastE (ev_var rfl) hacc5 hE5 (ev_un ev_c ru_neg)) H5 (Ex.refl H5) _ fun v6 H6 e6 ⟨a6, hv6, w6⟩ => ?_
    subst hv6
    have sl2 := el_sl (K := K) (lo := none) (hi := some (-1)) (ev_var (i := 2) rfl : Ev (tVar 2) [some (.ref l), some (.int (n : Int)), some (.ref le), z3, z4, some (.ref lp), some (.ref a5)] H6 (.ref le)) eo_none (eo_some (ev_un ev_c ru_neg)) (sq_of (e6 _ _ hacc5))
    rw [cut_drop] at sl2
    refine sl2 H6 (Ex.refl H6) _ fun lb H7 nb e7 hlb => ⟨_, rfl, _, rfl, by show 4 ≤ sizeLine; decide, fun p hp => ?_⟩
    have e57 := e6.trans e7
    have ep : Ex H7 _ := Ex.new (o := .tup [.ref a6, .ref lb, .ref lp, .ref a5]) hp
    have hPn : Each n (fun i => IsW K (Rat.divInt (1 + ds.getD (11 + (i : Int)).toNat 0 % 40) (([1, 2, 60, 3] : List Int).getD (ds.getD (16 + (i : Int)).toNat 0 % 4).toNat 0))) ys H3 := by
      have : ((n : Int)).toNat = n := by omega
      rw [this] at hP
      exact hP
    refine k _ _ ((eH.trans (e35.trans e57)).trans ep) ⟨p, a6, lb, lp, a5, (List.range n).map e, (List.range n).map _, e n, at_, rfl, SqT.of upd_same, (w6.mono e7).mono ep, LW.mono (LW.of hlb (hE5.drop.ex e57 isw_mons)) ep, LW.mono (LW.of hlp hPn) (((e4.trans e5).trans e57).trans ep), (w5.mono e57).mono ep,
      eo.arg n1 n5 (by simp) (fun i hi => ?_) t0 t1 bt⟩
    rw [range_getD hi]
    exact step i hi
end
end Tb

/-! ## TbLaw3 -/
set_option Elab.async false
set_option linter.all false
set_option maxRecDepth 100000
set_option maxHeartbeats 4000000
namespace Tb
open PySem PySem.Spec PyProof.Rows L2 Evl
/-! ### making -/
structure MkK (P : Program) (w : World) (K : PySem.W.Frag) (mg : Str → Option Value) (base : Heap) (C : Addr) (k : Nat) (ps ks : List Str) (sp : Sp) : Prop where
  ex : ∃ f fd, L2.Mk K C f ∧ FnOk P w K mg base CX0 k f fd ps sp ∧ KBn K fd ps 1 ks (fun us ws => us ++ ws) (fun vs zs => vs ++ zs)
structure MkP (P : Program) (w : World) (K : PySem.W.Frag) (mg : Str → Option Value) (base : Heap) (C : Addr) (k : Nat) (ps : List Str) (sp : Sp) : Prop where
  ex : ∃ f fd, L2.Mk K C f ∧ FnOk P w K mg base CX0 k f fd ps sp ∧ Binds K fd ps []
section
variable {X : Cx} {k : Nat} {x : Str} {ps ks : List Str} {sp : Sp} {p pos : Pos} {e : Expr} {es : List Expr} {kws : List Keyword} {t tk : TA} {C : Addr}
theorem pe_mkk (h : MkK X.prog X.w X.K X.mg X.base C k ps ks sp) (hr : Room (k + 1) X.A) (hg : Gl X x) (hm : X.mg x = some (.ref C)) (hkw : PK X kws tk)
    (hall : (backToKw pos (keywordEach kws X.env)).all (·.1.isSome) = true := by rfl) (hks : (backToKw pos (keywordEach kws X.env)).filterMap (·.1) = ks := by rfl) (hdb : (x == ("__debug__" : Str)) = false := by decide)
    (hpl : ((backTo pos (starEach [] X.env)).any (·.1) || (backToKw pos (keywordEach kws X.env)).any (·.1.isNone)) = false := by rfl) :
    PE X (.Call (.Name x p) [] kws pos) (tMakeK C 0 ks.length sp (fun vs zs => vs ++ zs) E0 tNil tk) := by
  obtain ⟨f, fd, M, F, hb⟩ := h.ex
  exact pe_makeK0 M F hr hg hm hb pass0 hkw hall hks hdb hpl
theorem pe_mk (h : MkP X.prog X.w X.K X.mg X.base C k ps sp) (hr : Room (k + 1) X.A) (hg : Gl X x) (hm : X.mg x = some (.ref C)) (ha : PA X (e :: es) t) (hdb : (x == ("__debug__" : Str)) = false := by decide)
    (he : starEach (e :: es) X.env = (false, eval e X.env) :: starEach es X.env := by rfl) (hpl : (backTo pos (starEach es X.env)).any (·.1) = false := by rfl) :
    PE X (.Call (.Name x p) (e :: es) [] pos) (tMake C sp [] E0 t) := by
  obtain ⟨f, fd, M, F, hb⟩ := h.ex
  exact pe_make M F hr hg hm hb .nil pass0 ha hdb he hpl
end
def BaseOk (g : Int → Rat) : Prop := ∀ row : Int, -100 ≤ row → row ≤ 100 → Bd MB BV (g row)
def spBase (K : PySem.W.Frag) (CL CZ : Addr) : Sp := fun vs H Q _ => ∃ l ds, vs = [.ref l] ∧ DgAt H l ds ∧ ds.length = 30 ∧ ∀ v fp g H', Ex H H' → MadeAt K CL CZ [] H' v fp (.base g) → BaseOk g → (∀ x ∈ fp, H x = none) → Q v H'
section
variable {K : PySem.W.Frag} {σ : L2.St} {H H' : Hp} {te tl : TE} {l : Addr} {ds es : List Int} {tlo thi : TO} {lo hi : Option Int}
theorem er_dgsl (hl : Ev tl σ H (.ref l)) (h : DgAt H l ds) (h1 : EvO tlo σ H lo) (h2 : EvO thi σ H hi) (hc : cutV (ds.map V.int) lo hi = es.map V.int) (hs : ∀ x ∈ es, x ∈ ds) : EvR (tSl (rSlL K) tl tlo thi) σ H fun v H2 => ∃ l', v = .ref l' ∧ DgAt H2 l' es := by
  have s := el_sl (K := K) hl h1 h2 (sq_of h.1)
  rw [hc] at s
  exact fun H1 e1 Q q => s H1 e1 _ fun p H2 n e2 h2 => q _ H2 e2 ⟨p, rfl, h2, h.2.sub hs⟩
theorem s_mkk {D : Ends} {tk : TA} {zs : List V} {m : Nat} {C : Addr} {sp : Sp} (h : EvA tk σ H zs) (hl : zs.length = m) (k : ∀ H1, Ex H H1 → ∀ x dx, H1 x = none → H1 dx = none → dx ≠ x → sp (.ref x :: zs) (L2.upd (L2.upd H1 dx (.own x)) x (.ins C dx [])) (fun v H3 => v = .non ∧ D.rt (.ref x) H3) E0) :
    tRet (tMakeK C 0 m sp (fun vs zs => vs ++ zs) E0 tNil tk) D σ H := h H (Ex.refl H) _ fun H1 e1 => ⟨rfl, hl, fun x dx hx hdx n => k H1 e1 x dx hx hdx n⟩
theorem new2 {x dx : Addr} {o u : HO} (hx : H x = none) (hdx : H dx = none) (n : dx ≠ x) : Ex H (L2.upd (L2.upd H dx o) x u) := Ex.mut (Ex.new hdx) hx
theorem Ek.ofNew {x dx : Addr} {o u : HO} (hx : H x = none) (hdx : H dx = none) (n : dx ≠ x) (e : Ek x (L2.upd (L2.upd H dx o) x u) H') : Ex H H' := fun c v hc => e _ _ (new2 hx hdx n _ _ hc) (ne_of_none hc hx)
end
section
variable {P : Program} {w : World} {K : PySem.W.Frag} {mg : Str → Option Value} {base : Heap} {CL CZ CT NO MA : Addr} {f : Addr} {fd : FuncData}
theorem sc_l_base : FnScope ["_law_digits_here", "_law_size", "_law_edges", "_law_paces", "_law_place", "_law_lowest_one", "_law_greatest", "_law_pace", "_law_rises_on"] ["_law_digits_here"] (defScope s_l_base) := ⟨rfl, rfl, rfl, by decide +kernel, rfl, by decide +kernel, by decide +kernel⟩
theorem ok_l_base (T : Txt K w mg CL CZ CT NO MA) (h_l_drawn_zones : Fn P w K mg base 3 "_law_drawn_zones" ["_law_digits_here"] (spDZones K)) (h_l_drawn_line : Fn P w K mg base 3 "_law_drawn_line" ["_law_digits_here"] (spDLine K))
    (h_mk_Zones : MkK P w K mg base CZ 5 ["self", "ring", "borders", "steps", "at"] ["ring", "borders", "steps", "at"] (spZoneInit K CZ)) (h_mk_Line : MkK P w K mg base CL 5 ["self", "low", "high", "step", "at", "up"] ["low", "high", "step", "at", "up"] (spLineInit K CL))
    (F : FunD K "_law_base" "_law_base" (defArgs s_l_base) (defBody s_l_base) (defScope s_l_base) [] [] f fd) : FnOk P w K mg base CX0 7 f fd ["_law_digits_here"] (spBase K CL CZ) := by
  refine F.ok sc_l_base (fun vs H Q E h => ?_) (fun cdv A outer s H vs Q E hr h => ?_)
  · obtain ⟨_, _, rfl, _⟩ := h
    rfl
  obtain ⟨l, ds, rfl, hd, hn, k⟩ := h
  refine ⟨_, PSs.nox (pss_cons (ps_if (pt_cmpR op_eq (pe_op op_mod (pe_ix ix_list (pv 0) pe_int (fun _ _ => rfl)) pe_int) pe_int (nomark _)) (pss_cons (ps_asg (pe_fn h_l_drawn_zones (hr.mono (by decide)) rfl (pa_cons (pe_slice sl_list (pv 0) (po_some pe_int) po_none) pa_nil)) (pg_tup rfl (pgs_cons (pg_name (i := 1) sc_l_base.nd rfl (Or.inl rfl)) (pgs_cons (pg_name (i := 2) sc_l_base.nd rfl (Or.inl rfl)) (pgs_cons (pg_name (i := 3) sc_l_base.nd rfl (Or.inl rfl)) (pgs_cons (pg_name (i := 4) sc_l_base.nd rfl (Or.inl rfl)) pgs_nil))))))
      (pss_one (ps_ret (pe_mkk h_mk_Zones (hr.mono (by decide)) rfl T.g_Zones (pk_cons (pv 1) (pk_cons (pv 2) (pk_cons (pv 3) (pk_cons (pv 4) pk_nil)))))))) pss_nil)
    (pss_cons (ps_asg (pe_fn h_l_drawn_line (hr.mono (by decide)) rfl (pa_cons (pe_slice sl_list (pv 0) (po_some pe_int) po_none) pa_nil)) (pg_tup rfl (pgs_cons (pg_name (i := 5) sc_l_base.nd rfl (Or.inl rfl)) (pgs_cons (pg_name (i := 6) sc_l_base.nd rfl (Or.inl rfl)) (pgs_cons (pg_name (i := 7) sc_l_base.nd rfl (Or.inl rfl)) (pgs_cons (pg_name (i := 4) sc_l_base.nd rfl (Or.inl rfl)) (pgs_cons (pg_name (i := 8) sc_l_base.nd rfl (Or.inl rfl)) pgs_nil)))))))
    (pss_one (ps_ret (pe_mkk h_mk_Line (hr.mono (by decide)) rfl T.g_Line (pk_cons (pv 5) (pk_cons (pv 6) (pk_cons (pv 7) (pk_cons (pv 4) (pk_cons (pv 8) pk_nil)))))))))), ?_⟩
  have hc : cutV (ds.map V.int) (some 1) none = (ds.drop 1).map V.int := by rw [cut_from1, List.map_drop]
  have hs : ∀ x ∈ ds.drop 1, x ∈ ds := fun x hx => List.mem_of_mem_drop hx
  have hl : (ds.drop 1).length = 29 := by rw [List.length_drop, hn]
  refine q_when (b := decide (V.int (ds.getD 0 0 % 3) = .int 0)) (et_test (ev_op (ev_mod (ev_dg (i := 0) (ev_var rfl) hd ev_c (by omega)) ev_c (by decide)) ev_c (rv_eq rfl))) (fun _ H1 e1 => ?_) (fun _ H1 e1 => ?_)
  · refine (er_call1 (A := ADg 29) (B := fun _ => RZones K) (ds.drop 1) (er_dgsl (K := K) (ev_var rfl) (hd.mono e1) (eo_some ev_c) eo_none hc hs) fun x H2 e2 ⟨l', hx, hd'⟩ => ⟨l', by rw [hx], hd', hl⟩) H1 (Ex.refl H1) _ fun v H2 e2 ⟨p, a1, l1, l2, a4, bs, ss, r, at_, hv, ht, w1, b1, b2, w4, ZA⟩ => ?_
    subst hv
    refine ⟨p, _, rfl, ht, rfl, _, _, rfl, _, _, rfl, _, _, rfl, _, _, rfl, rfl, ?_⟩
    refine s_mkk (ea_cons (ev_var rfl) (ea_cons (ev_var rfl) (ea_cons (ev_var rfl) (ea_cons (ev_var rfl) ea_nil)))) rfl fun H3 e3 x dx hx hdx ndx => ?_
    have e0 := e3.trans (new2 (o := .own x) (u := .ins CZ dx []) hx hdx ndx)
    refine ⟨x, dx, a1, l1, l2, a4, bs, ss, r, at_, rfl, upd_same, w1.mono e0, b1.mono e0, b2.mono e0, w4.mono e0, ZA, fun Z lb ls lm H' hZ ok f1 f2 f3 ek => ⟨rfl, ?_⟩⟩
    have eH := (e1.trans e2).trans e3
    refine k _ [lb, ls, lm] Z.val H' (eH.trans (Ek.ofNew hx hdx ndx ek)) (.inr ⟨x, Z, lb, ls, lm, rfl, hZ, ok, rfl, rfl⟩) (fun row r1 r2 => ok.val r1 r2) fun y hy => ?_
    have back : ∀ y, (upd (upd H3 dx (.own x)) x (.ins CZ dx [])) y = none → H y = none := fun y hy => fresh_back (eH.trans (new2 (o := .own x) (u := .ins CZ dx []) hx hdx ndx)) hy
    simp only [List.mem_cons, List.not_mem_nil, or_false] at hy
    rcases hy with rfl | rfl | rfl
    · exact back _ f1
    · exact back _ f2
    · exact back _ f3
  · refine (er_call1 (A := ADg 29) (B := fun _ => RLine K) (ds.drop 1) (er_dgsl (K := K) (ev_var rfl) (hd.mono e1) (eo_some ev_c) eo_none hc hs) fun x H2 e2 ⟨l', hx, hd'⟩ => ⟨l', by rw [hx], hd', hl⟩) H1 (Ex.refl H1) _ fun v H2 e2 ⟨p, a1, a2, a3, a4, lo, hi, st, at_, b, hv, ht, LA⟩ => ?_
    subst hv
    refine ⟨p, _, rfl, ht, rfl, _, _, rfl, _, _, rfl, _, _, rfl, _, _, rfl, _, _, rfl, rfl, ?_⟩
    refine s_mkk (ea_cons (ev_var rfl) (ea_cons (ev_var rfl) (ea_cons (ev_var rfl) (ea_cons (ev_var rfl) (ea_cons (ev_var rfl) ea_nil))))) rfl fun H3 e3 x dx hx hdx ndx => ?_
    have e0 := e3.trans (new2 (o := .own x) (u := .ins CL dx []) hx hdx ndx)
    refine ⟨x, dx, a1, a2, a3, a4, lo, hi, st, at_, b, rfl, upd_same, ⟨LA.w1.mono e0, LA.w2.mono e0, LA.w3.mono e0, LA.w4.mono e0, LA.l0, LA.l1, LA.l2, LA.l3, LA.l4, LA.l5, LA.b1, LA.b2, LA.b3, LA.b4⟩, fun L H' hL ok ek => ⟨rfl, ?_⟩⟩
    have eH := (e1.trans e2).trans e3
    exact k _ [] L.val H' (eH.trans (Ek.ofNew hx hdx ndx ek)) (.inl ⟨x, L, rfl, hL, ok, rfl, rfl⟩) (fun row r1 r2 => (ok.val r1 r2).mono (Int.dvd_refl _) (by decide)) fun y hy => by cases hy
end
end Tb

/-! ## TbLaw4 -/
set_option Elab.async false
set_option linter.all false
set_option maxRecDepth 100000
set_option maxHeartbeats 4000000
namespace Tb
open PySem PySem.Spec PyProof.Rows L2 Evl
theorem Each.snoc {H H' : Hp} {n : Nat} {R R' : Nat → V → Hp → Prop} {xs : List V} {x : V} (h : Each n R xs H) (k : ∀ (i : Nat) y, i < n → R i y H → R' i y H') (hr : R' n x H') : Each (n + 1) R' (xs ++ [x]) H' := by
  refine ⟨by rw [List.length_append, h.1] <;> rfl, fun i z hz => ?_⟩
  by_cases hi : i < xs.length
  · rw [List.getElem?_append_left hi] at hz
    exact k i z (by rw [← h.1]; exact hi) (h.2 i z hz)
  · rw [List.getElem?_append_right (by omega)] at hz
    obtain ⟨h1, h2⟩ := List.getElem?_eq_some_iff.mp hz
    have h1 : i - xs.length < 1 := h1
    have ei : i = n := by
      have := h.1
      omega
    subst ei
    have : z = x := by
      rw [← h2]
      simp [h.1]
    rw [this]
    exact hr
section
variable {K : PySem.W.Frag} {σ : L2.St} {H H' : Hp} {ta tb te tl : TE} {q r : Rat} {a : Addr}
theorem er_corner (ha : EW K ta σ H q) (hb : EW K tb σ H r) : EvR (tTup (tCons ta (tCons tb tNil))) σ H (IsC K (q, r)) := fun H1 e1 Q k =>
  ha H1 e1 _ fun v H2 e2 ⟨a, hv, wa⟩ => hb H2 (e1.trans e2) _ fun u H3 e3 ⟨b, hu, wb⟩ => ⟨by show 2 ≤ sizeLine; decide, fun p hp => by
    subst hv hu
    exact k _ _ ((e2.trans e3).trans (Ex.new hp)) ⟨p, a, b, rfl, SqT.of upd_same, (wa.mono e3).mono (Ex.new hp), wb.mono (Ex.new hp)⟩⟩
end
def spDCorners (K : PySem.W.Frag) : Sp := fun vs H Q _ => ∃ l ds, vs = [.ref l] ∧ DgAt H l ds ∧ ds.length = 26 ∧ ∀ p cs H', H p = none → Ex H H' → CsAt K H' p cs → CsOk cs → Q (.ref p) H'
section
variable {P : Program} {w : World} {K : PySem.W.Frag} {mg : Str → Option Value} {base : Heap} {CL CZ CT NO MA : Addr} {f : Addr} {fd : FuncData}
theorem sc_l_drawn_corners : FnScope ["_law_digits_here", "_law_found", "_law_here", "_law_k"] ["_law_digits_here"] (defScope s_l_drawn_corners) := ⟨rfl, rfl, rfl, by decide +kernel, rfl, by decide +kernel, by decide +kernel⟩
theorem ok_l_drawn_corners (T : Txt K w mg CL CZ CT NO MA) (h_l_low : FnLow P w K mg base) (h_l_add : FnAdd P w K mg base)
    (F : FunD K "_law_drawn_corners" "_law_drawn_corners" (defArgs s_l_drawn_corners) (defBody s_l_drawn_corners) (defScope s_l_drawn_corners) [] [] f fd) : FnOk P w K mg base CX0 3 f fd ["_law_digits_here"] (spDCorners K) := by
  refine F.ok sc_l_drawn_corners (fun vs H Q E h => ?_) (fun cdv A outer s H vs Q E hr h => ?_)
  · obtain ⟨_, _, rfl, _⟩ := h
    rfl
  obtain ⟨l, ds, rfl, hd, hn, k⟩ := h
  refine ⟨_, PSs.nox (pss_cons (ps_set (i := 1) sc_l_drawn_corners.nd rfl (Or.inl rfl) (pe_lst pa_nil))
    (pss_cons (ps_set (i := 2) sc_l_drawn_corners.nd rfl (Or.inl rfl) (pe_fn h_l_low (hr.mono (by decide)) rfl (pa_cons (pe_op op_sub (pe_op op_mod (pe_ix ix_list (pv 0) pe_int (fun _ _ => rfl)) pe_int) pe_int) (pa_cons (pe_op op_add pe_int (pe_op op_mod (pe_ix ix_list (pv 0) pe_int (fun _ _ => rfl)) pe_int)) pa_nil))))
    (pss_cons (ps_for PassesOwn.never rfl (pi_range1 rfl T.f_range (pa_cons (pe_op op_add pe_int (pe_op op_mod (pe_ix ix_list (pv 0) pe_int (fun _ _ => rfl)) pe_int)) pa_nil)) (pg_name (i := 3) sc_l_drawn_corners.nd rfl (Or.inl rfl))
    (pss_cons (ps_expr (pe_bm PySem.F.plainAttrs_list PySem.F.slot_list_append PySem.F.type_list_append mt_append (pv 1) (pa_cons (pe_tup (pa_cons (pv 2) (pa_cons (pe_fn h_l_low (hr.mono (by decide)) rfl (pa_cons (pe_op op_sub (pe_op op_mod (pe_ix ix_list (pv 0) (pe_op op_add pe_int (pv 3)) (fun _ _ => rfl)) pe_int) pe_int) (pa_cons (pe_op op_add pe_int (pe_op op_mod (pe_ix ix_list (pv 0) (pe_op op_add pe_int (pv 3)) (fun _ _ => rfl)) pe_int)) pa_nil))) pa_nil))) pa_nil)))
      (pss_one (ps_set (i := 2) sc_l_drawn_corners.nd rfl (Or.inl rfl) (pe_fn h_l_add (hr.mono (by decide)) rfl (pa_cons (pv 2) (pa_cons (pe_fn h_l_low (hr.mono (by decide)) rfl (pa_cons (pe_op op_add pe_int (pe_op op_mod (pe_ix ix_list (pv 0) (pe_op op_add pe_int (pv 3)) (fun _ _ => rfl)) pe_int)) (pa_cons (pe_op op_add pe_int (pe_op op_mod (pe_ix ix_list (pv 0) (pe_op op_add pe_int (pv 3)) (fun _ _ => rfl)) pe_int)) pa_nil))) pa_nil)))))))
    (pss_one (ps_ret (pv 1)))))), ?_⟩
  refine q_asgL (el_lst ea_nil (by decide)) fun lf H1 nlf e1 hlf => ?_
  have m0 := mod_r (i := ds.getD 0 0) (j := 40) (by decide)
  have m1 := mod_r (i := ds.getD 1 0) (j := 3) (by decide)
  have m2 := mod_r (i := ds.getD 2 0) (j := 11) (by decide)
  have hd1 := hd.mono e1
  refine q_asgW (ew_low (ev_sub (ev_mod (ev_dg (i := 0) (ev_var rfl) hd1 ev_c (by omega)) ev_c (by decide)) ev_c) (ev_add ev_c (ev_mod (ev_dg (i := 1) (ev_var rfl) hd1 ev_c (by omega)) ev_c (by decide))) (by omega) (lt8000 (by omega) (by omega))) fun a2 H2 e2 w2 => ?_
  have b0 : Bd 6 20 (Rat.divInt (ds.getD 0 0 % 40 - 20) (1 + ds.getD 1 0 % 3)) := Bd.quot (by omega) (dvd_6 (by omega) (by omega)) (by omega) (by omega)
  generalize Rat.divInt (ds.getD 0 0 % 40 - 20) (1 + ds.getD 1 0 % 3) = x0 at *
  obtain ⟨n, hn0⟩ : ∃ n : Nat, 2 + ds.getD 2 0 % 11 = (n : Int) := ⟨(2 + ds.getD 2 0 % 11).toNat, by omega⟩
  have n2 : 2 ≤ n := by omega
  have n12 : n ≤ 12 := by omega
  have e12 := e1.trans e2
  have nl : l ≠ lf := ne_of_none hd.1 nlf
  have hrange : Ev (tOp (rI0 fun i j => .int (i + j)) (tC (.int 2)) (tOp (rI (fun _ j => 0 < j) fun i j => .int (i % j)) (tOp (rIxL K) (tVar 0) (tC (.int 2))) (tC (.int 11)))) [some (.ref l), some (.ref lf), some (.ref a2), none] H2 (.int (n : Int)) :=
    ev_is (ev_add ev_c (ev_mod (ev_dg (i := 2) (ev_var rfl) (hd.mono e12) ev_c (by omega)) ev_c (by decide))) (congrArg V.int hn0)
  refine q_forR1 (n := (n : Int)) (ea_cons hrange ea_nil) (by omega) (fun i σ' H' => ∃ a z3 X Y acc, σ' = [some (.ref l), some (.ref lf), some (.ref a), z3] ∧ Ek lf H2 H' ∧ H' lf = some (.lst acc) ∧ Each i (fun j => IsC K (X j, Y j)) acc H' ∧ WAt K H' a (X i) ∧ CrnOk X Y i)
    (fun H3 e3 => ⟨a2, none, fun _ => x0, fun _ => 0, [], rfl, ekx e3, e3 _ _ (e2 _ _ hlf), ⟨rfl, fun i x hx => by simp at hx⟩, w2.mono e3, ⟨fun i hi => absurd hi (Nat.not_lt_zero i), fun i hi => b0.mono (Int.dvd_refl _) (by omega), fun i hi => absurd hi (Nat.not_lt_zero i)⟩⟩) ?_ ?_
  · rintro i σ' H' hi ⟨a, z3, X, Y, acc, rfl, ek, hacc, hE, wa, co⟩
    have dH : DgAt H' l ds := ⟨ek _ _ (e12 _ _ hd.1) nl, hd.2⟩
    have p1 := mod_r (i := ds.getD (3 + (i : Int)).toNat 0) (j := 90) (by decide)
    have p2 := mod_r (i := ds.getD (9 + (i : Int)).toNat 0) (j := 4) (by decide)
    have p3 := mod_r (i := ds.getD (4 + (i : Int)).toNat 0) (j := 30) (by decide)
    have p4 := mod_r (i := ds.getD (10 + (i : Int)).toNat 0) (j := 2) (by decide)
    refine q_appR hacc (ev_var rfl) (er_corner (ew_var rfl wa) (ew_low (ev_sub (ev_mod (ev_dgz (z := 3 + (i : Int)) (ev_var rfl) dH (ev_add ev_c (ev_var rfl)) (by omega) (by omega)) ev_c (by decide)) ev_c) (ev_add ev_c (ev_mod (ev_dgz (z := 9 + (i : Int)) (ev_var rfl) dH (ev_add ev_c (ev_var rfl)) (by omega) (by omega)) ev_c (by decide))) (by omega) (lt8000 (by omega) (by omega)))) (by rw [hE.1]; omega) fun u H3 e3 hu => ?_
    have by_ : Bd 12 60 (Rat.divInt (ds.getD (3 + (i : Int)).toNat 0 % 90 - 30) (1 + ds.getD (9 + (i : Int)).toNat 0 % 4)) := Bd.quot (by omega) (dvd_12 (by omega) (by omega)) (by omega) (by omega)
    generalize Rat.divInt (ds.getD (3 + (i : Int)).toNat 0 % 90 - 30) (1 + ds.getD (9 + (i : Int)).toNat 0 % 4) = yq at *
    have ku : Ek lf H3 (upd H3 lf (.lst (acc ++ [u]))) := Ek.upd
    have hacc3 := e3 _ _ hacc
    have dG : DgAt (upd H3 lf (.lst (acc ++ [u]))) l ds := ⟨ku _ _ (e3 _ _ dH.1) nl, hd.2⟩
    have wG : WAt K (upd H3 lf (.lst (acc ++ [u]))) a (X i) := ku.watL hacc3 (wa.mono e3)
    have gp := gap_of (n := 1 + ds.getD (4 + (i : Int)).toNat 0 % 30) (m := 1 + ds.getD (10 + (i : Int)).toNat 0 % 2) (by omega) (by omega) (by omega) (by omega)
    have sx : Sm (X i) := ((co.bx i (Nat.le_refl i)).mono (C := 400) (Int.dvd_refl _) (by omega)).sm1 (by decide +kernel)
    refine s_asgR (ew_2 (ew_var rfl wG) (ew_low (ev_add ev_c (ev_mod (ev_dgz (z := 4 + (i : Int)) (ev_var rfl) dG (ev_add ev_c (ev_var rfl)) (by omega) (by omega)) ev_c (by decide))) (ev_add ev_c (ev_mod (ev_dgz (z := 10 + (i : Int)) (ev_var rfl) dG (ev_add ev_c (ev_var rfl)) (by omega) (by omega)) ev_c (by decide))) (by omega) (lt8000 (by omega) (by omega))) sx (gp.bd.sm1 (by decide +kernel)) trivial) fun v H4 e4 ⟨b, hv, wb⟩ => ?_
    subst hv
    generalize Rat.divInt (1 + ds.getD (4 + (i : Int)).toNat 0 % 30) _ = g at *
    refine ⟨b, _, extF X (i + 1) (X i + g), extF Y i yq, acc ++ [u], rfl, ((ek.trans (ekx e3)).trans ku).trans (ekx e4), e4 _ _ upd_same, ?_, ?_, co.ext gp by_⟩
    · refine Each.snoc (hE.ex e3 fun _ => isc_mon) (fun j y hj hy => ?_) ?_
      · rw [extF_ne (by omega), extF_ne (by omega)]
        exact isc_mon _ _ _ e4 (isc_monL _ _ _ _ _ hacc3 ku hy)
      · rw [extF_ne (by omega), extF_same]
        exact isc_mon _ _ _ e4 (isc_monL _ _ _ _ _ hacc3 ku hu)
    · rw [extF_same]
      exact wb
  · rintro σ' H' ⟨a, z3, X, Y, acc, rfl, ek, hacc, hE, wa, co⟩
    have hE : Each n (fun j => IsC K (X j, Y j)) acc H' := hE
    have co : CrnOk X Y n := co
    refine ⟨_, rfl, k lf (crn X Y n) H' nlf (fun u o hu => ek _ _ (e12 _ _ hu) (ne_of_none hu nlf)) ⟨acc, hacc, by rw [hE.1, crn_len], fun i x hx => ?_⟩ (co.ok n2 n12)⟩
    have hi := (List.getElem?_eq_some_iff.mp hx).1
    rw [hE.1] at hi
    show IsC K ((crn X Y n).getD i (0, 0)) x H'
    rw [crn_get hi]
    exact hE.2 i x hx
end
end Tb

/-! ## TbLaw5 -/
set_option Elab.async false
set_option linter.all false
set_option maxRecDepth 100000
set_option maxHeartbeats 4000000
namespace Tb
open PySem PySem.Spec PyProof.Rows L2 Evl
/-! ### the names of the columns -/
def NMS : List Str := ["b", "az", "moon", "abcdefgh", "sum", "zz", "along", "less", "x"]
def dnm (c k : Nat) : Str := NMS.getD ((k + c) % 9) Str.empty
def dnms (c n : Nat) : List Str := (List.range n).map (dnm c)
theorem dnm_mod (c k : Nat) : dnm c k = dnm (c % 9) k := by
  unfold dnm
  rw [Nat.add_mod_mod]
theorem dnms_mod (c n : Nat) : dnms c n = dnms (c % 9) n := by
  unfold dnms
  exact List.map_congr_left fun k _ => dnm_mod c k
theorem nd_all : ∀ r : _root_.Fin 9, ∀ n : _root_.Fin 8, (dnms r.val n.val).Nodup := by decide +kernel
theorem dnms_nd {c n : Nat} (h : n ≤ 7) : (dnms c n).Nodup := by
  rw [dnms_mod]
  exact nd_all ⟨c % 9, Nat.mod_lt _ (by decide)⟩ ⟨n, by omega⟩
theorem dnms_len {c n : Nat} : (dnms c n).length = n := by simp [dnms]
theorem dnms_at {c n k : Nat} (h : k < n) : nmAt (dnms c n) k = dnm c k := by simp [nmAt, dnms, h]
theorem good_all : ∀ i : _root_.Fin 9, decide (1 ≤ (NMS.getD i.val Str.empty).length) && (decide ((NMS.getD i.val Str.empty).length ≤ 8) && (decide ((NMS.getD i.val Str.empty).cps.size ≤ 8) && (NMS.getD i.val Str.empty).cps.toList.all fun c => decide (c ∈ SMALLS.cps.toList))) := by decide +kernel
theorem lay_all9 : ∀ i : _root_.Fin 9, (PyData.str (NMS.getD i.val Str.empty)).canLay0 = true := by decide +kernel
theorem good_at (i : Nat) (h : i < 9) : GoodName (NMS.getD i Str.empty) := by
  have g := good_all ⟨i, h⟩
  simp only [Bool.and_eq_true, decide_eq_true_eq] at g
  obtain ⟨g1, g2, g3, g4⟩ := g
  refine ⟨g1, g2, g3, fun j c hj => ?_⟩
  have hm : c ∈ (NMS.getD i Str.empty).cps.toList := List.mem_of_getElem? (i := j) (by rw [Array.getElem?_toList]; exact hj)
  exact of_decide_eq_true (List.all_eq_true.mp g4 c hm)
theorem dnms_ok {c n : Nat} {ms : List Made} (h : n ≤ 7) (hl : ms.length = n) : NmOk (dnms c n) ms := ⟨by rw [dnms_len, hl], fun k hk => by
  rw [dnms_len] at hk
  rw [dnms_at hk]
  exact good_at _ (Nat.mod_lt _ (by decide)), dnms_nd h⟩
section
variable {K : PySem.W.Frag} {CL CZ : Addr} {σ : L2.St} {H H' : Hp} {ta tb te tl ti : TE} {a l ln lf : Addr} {D : Ends} {nm : List Str}
/-- [e for x, y in list] -/
theorem en_lcLT {R : Nat → V → Hp → Prop} {xs : List V} {j j2 : Nat} {vs : List Nat} (m : ∀ i, Mon (R i)) (ml : ∀ i, MonL (R i)) (h : Ev tl σ H (.ref a)) (hx : SqL K H a xs) (hz : xs.length ≤ 50000) (hw : ∀ x y, wipe (((wipe σ vs).set j (some x)).set j2 (some y)) vs = wipe σ vs)
    (he : ∀ (i : Nat) (v : V), xs[i]? = some v → ∃ q x y, v = .ref q ∧ SqT K H q [x, y] ∧ EvR te (((wipe σ vs).set j (some x)).set j2 (some y)) H (R i)) : EvN (tLc (iList K tl) (g2 K j j2) tYes te vs) σ H (Each xs.length R) := fun H0 e Q q => h H0 e _ fun H1 e1 => ⟨a, rfl, ⟨xs, ex_l (e.trans e1) hx⟩, fun Dl hD =>
  lc_list (xs := xs) (Lw H1 R Dl) (lw_start hD) (fun i H' _ p => ex_l ((e.trans e1).trans p.2.1) hx) (fun i x H' hi p => by
    obtain ⟨q, x1, y1, rfl, hq, hE⟩ := he i x hi
    exact ⟨q, [x1, y1], rfl, ex_t ((e.trans e1).trans p.2.1) hq, rfl, x1, [y1], rfl, y1, [], rfl, rfl, hw x1 y1, lw_turn m ml p (Ex.refl H') (List.getElem?_eq_some_iff.mp hi).1 hz (hE.mono (e.trans e1))⟩)
    (fun H' ⟨p1, p2, acc, p3, p4⟩ => q Dl acc H' (fresh_back e1 p1) (e1.trans p2) p3 p4)⟩
theorem er_ixE {R : Nat → V → Hp → Prop} {acc : List V} {n z : Nat} (m : ∀ i, Mon (R i)) (hl : Ev tl σ H (.ref l)) (h : H l = some (.lst acc)) (he : Each n R acc H) (hi : Ev ti σ H (.int (z : Nat))) (hz : z < n) : EvR (tOp (rIxL K) tl ti) σ H (R z) := by
  have hz' : z < acc.length := by rw [he.1]; exact hz
  have hv : acc[z]? = some acc[z] := by simp [hz']
  exact er_of (ev_op hl hi (rv_ixL (sq_of h) (atI_nat hv))) fun H1 e1 => m z _ _ _ e1 (he.2 z _ hv)
theorem ev_pickV {tt : TA} {xs : List V} {z : Int} {v : V} (hl : EvA tt σ H xs) (hi : ∀ H1, Ex H H1 → Ev ti σ H1 (.int z)) (hv : xs[z.toNat]? = some v) (h0 : 0 ≤ z) (hx : xs.length ≤ 1000) : Ev (tOp (rIxL K) (tLst tt) ti) σ H v := by
  refine ev_opL1 (el_lst hl (by omega)) hi fun p H1 hp e1 => rv_ixL (sq_of hp) ?_
  have e : z = ((z.toNat : Nat) : Int) := by omega
  rw [e]
  exact atI_nat hv
theorem er_col {s : Str} {v : V} {fp : List Addr} {m : Made} (ha : Ev ta σ H (.str s)) (hb : Ev tb σ H v) (hm : MadeAt K CL CZ nm H v fp m) : EvR (tTup (tCons ta (tCons tb tNil))) σ H (IsCol K CL CZ nm s m fp) := fun H1 e1 Q k =>
  ha H1 e1 _ fun H2 e2 => hb H2 (e1.trans e2) _ fun H3 e3 => ⟨by show 2 ≤ sizeLine; decide, fun p hp => k _ _ ((e2.trans e3).trans (Ex.new hp)) ⟨p, v, rfl, SqT.of upd_same, hm.mono (((e1.trans e2).trans e3).trans (Ex.new hp))⟩⟩
/-- i columns made -/
def ColInv (K : PySem.W.Frag) (CL CZ : Addr) (H2 : Hp) (l ln lf : Addr) (nm : List Str) (i : Nat) (σ' : L2.St) (H' : Hp) : Prop := ∃ (z3 z4 z5 z6 z7 z8 z9 z10 : Option V) (acc : List V) (ms : List Made) (fpf : Nat → List Addr), σ' = [some (.ref l), some (.ref ln), some (.ref lf), z3, z4, z5, z6, z7, z8, z9, z10] ∧ Ek lf H2 H' ∧ H' lf = some (.lst acc) ∧ ms.length = i ∧
  Each i (fun k => IsCol K CL CZ nm (nmAt nm k) (made ms k) (fpf k)) acc H' ∧ TabOk ms ∧ ∀ k : Nat, k < i → lf ∉ fpf k
theorem ColInv.step {H2 H5 : Hp} {i : Nat} {σ' : L2.St} {z3 z4 z5 z6 z7 z8 z9 z10 : Option V} {acc : List V} {ms : List Made} {fpf : Nat → List Addr} {u : V} {m : Made} {fp : List Addr} (ek : Ek lf H2 H') (hacc : H' lf = some (.lst acc)) (hlen : ms.length = i)
    (hE : Each i (fun k => IsCol K CL CZ nm (nmAt nm k) (made ms k) (fpf k)) acc H') (ok : TabOk ms) (nf : ∀ k : Nat, k < i → lf ∉ fpf k) (e5 : Ex H' H5) (hu : IsCol K CL CZ nm (nmAt nm i) m fp u H5) (hm : MOk m i) (hf : lf ∉ fp) (h7 : i < 7)
    (hσ : σ' = [some (.ref l), some (.ref ln), some (.ref lf), z3, z4, z5, z6, z7, z8, z9, z10]) : ColInv K CL CZ H2 l ln lf nm (i + 1) σ' (upd H5 lf (.lst (acc ++ [u]))) := by
  have ku : Ek lf H5 (upd H5 lf (.lst (acc ++ [u]))) := Ek.upd
  have h5 := e5 _ _ hacc
  subst hlen
  refine ⟨_, _, _, _, _, _, _, _, _, ms ++ [m], putF' fpf ms.length fp, hσ, (ek.trans (ekx e5)).trans ku, upd_same, by rw [List.length_append] <;> rfl, ?_, ok.snoc h7 hm, fun k hk => ?_⟩
  · refine Each.snoc (hE.ex e5 fun _ => iscol_mon) (fun j y hj hy => ?_) ?_
    · rw [made_lt hj, putF_ne (by omega)]
      exact hy.ekg h5 odd_lst (nf j hj) ku
    · rw [made_eq, putF_same]
      exact hu.ekg h5 odd_lst hf ku
  · by_cases c : k = ms.length
    · subst c
      rw [putF_same]
      exact hf
    · rw [putF_ne c]
      exact nf k (by omega)
end
theorem cut_mid {xs : List V} {a b : Nat} (h : a ≤ b) (hb : b ≤ xs.length) : cutV xs (some (a : Int)) (some (b : Int)) = (xs.drop a).take (b - a) := by
  unfold cutV
  rw [show HT.sIx xs.length 0 (some (a : Int)) = min a xs.length from HT.sIx_nat xs.length 0 a, HT.sIx_nat xs.length xs.length b]
  rw [Nat.min_eq_left hb, Nat.min_eq_left (Nat.le_trans h hb)]
theorem cut_from {xs : List V} {a : Nat} (h : a ≤ xs.length) : cutV xs (some (a : Int)) none = xs.drop a := by
  unfold cutV
  rw [show HT.sIx xs.length 0 (some (a : Int)) = min a xs.length from HT.sIx_nat xs.length 0 a, HT.sIx_none, Nat.min_eq_left h]
  rw [← List.length_drop]
  exact List.take_length
def spCols (K : PySem.W.Frag) (CL CZ : Addr) : Sp := fun vs H Q _ => ∃ l ds, vs = [.ref l] ∧ DgAt H l ds ∧ ds.length = 240 ∧
  ∀ p nm ms fpf H', H p = none → Ex H H' → ColsAt K CL CZ H' p nm ms fpf → NmOk nm ms → TabOk ms → 1 ≤ ms.length → (∀ k : Nat, k < ms.length → p ∉ fpf k) → (∀ k : Nat, k < ms.length → (PyData.str (nmAt nm k)).canLay0 = true) → Q (.ref p) H'
section
variable {P : Program} {w : World} {K : PySem.W.Frag} {mg : Str → Option Value} {base : Heap} {CL CZ CT NO MA : Addr} {f : Addr} {fd : FuncData}
theorem sc_l_drawn_columns : FnScope ["_law_digits_here", "_law_names", "_law_found", "_law_k", "_law_part", "_law_made", "_law_ahead", "_law_one", "_law_other", "_law_way", "_law_name"] ["_law_digits_here"] (defScope s_l_drawn_columns) := ⟨rfl, rfl, rfl, by decide +kernel, rfl, by decide +kernel, by decide +kernel⟩
theorem ok_l_drawn_columns (T : Txt K w mg CL CZ CT NO MA) (h_l_low : FnLow P w K mg base) (h_l_base : Fn P w K mg base 7 "_law_base" ["_law_digits_here"] (spBase K CL CZ)) (h_l_drawn_corners : Fn P w K mg base 3 "_law_drawn_corners" ["_law_digits_here"] (spDCorners K))
    (F : FunD K "_law_drawn_columns" "_law_drawn_columns" (defArgs s_l_drawn_columns) (defBody s_l_drawn_columns) (defScope s_l_drawn_columns) [] [] f fd) : FnOk P w K mg base CX0 8 f fd ["_law_digits_here"] (spCols K CL CZ) := by
  refine F.ok sc_l_drawn_columns (fun vs H Q E h => ?_) (fun cdv A outer s H vs Q E hr h => ?_)
  · obtain ⟨_, _, rfl, _⟩ := h
    rfl
  obtain ⟨l, ds, rfl, hd, hn, k⟩ := h
  refine ⟨_, PSs.nox (pss_cons (ps_set (i := 1) sc_l_drawn_columns.nd rfl (Or.inl rfl) (pe_lst (pa_cons pe_str (pa_cons pe_str (pa_cons pe_str (pa_cons pe_str (pa_cons pe_str (pa_cons pe_str (pa_cons pe_str (pa_cons pe_str (pa_cons pe_str pa_nil)))))))))))
    (pss_cons (ps_set (i := 2) sc_l_drawn_columns.nd rfl (Or.inl rfl) (pe_lst pa_nil))
    (pss_cons (ps_for PassesOwn.never rfl (pi_range1 rfl T.f_range (pa_cons (pe_op op_add pe_int (pe_op op_mod (pe_ix ix_list (pv 0) pe_int (fun _ _ => rfl)) pe_int)) pa_nil)) (pg_name (i := 3) sc_l_drawn_columns.nd rfl (Or.inl rfl))
    (pss_cons (ps_set (i := 4) sc_l_drawn_columns.nd rfl (Or.inl rfl) (pe_slice sl_list (pv 0) (po_some (pe_op op_add pe_int (pe_op op_mul pe_int (pv 3)))) (po_some (pe_op op_add pe_int (pe_op op_mul pe_int (pv 3))))))
      (pss_cons (ps_setLc (i := 6) (own := [("_law_name", 10), ("_law_made", 5)]) (g := gTup _ 2 (gCons (gName 10) (gCons (gName 5) gNil))) (tt := tYes) rfl sc_l_drawn_columns.nd rfl rfl (sw_true rfl rfl rfl (by decide +kernel)) (pi_list (pv 2)) (blkOk_by (own := [("_law_name", 10), ("_law_made", 5)]) (N := ["_law_digits_here", "_law_names", "_law_found", "_law_k", "_law_part", "_law_made", "_law_ahead", "_law_one", "_law_other", "_law_way", "_law_name"]) (sc := defScope s_l_drawn_columns) (by decide +kernel)) (fun _ _ _ _ _ => (pg_tup rfl (pgs_cons (pg_name (i := 10) sc_l_drawn_columns.nd rfl (Or.inl rfl)) (pgs_cons (pg_name (i := 5) sc_l_drawn_columns.nd rfl (Or.inl rfl)) pgs_nil)))) (fun _ _ _ _ _ => pts_nil) (fun _ _ _ _ _ => (pv 10)))
      (pss_cons (ps_set (i := 5) sc_l_drawn_columns.nd rfl (Or.inl rfl) (pe_fn h_l_base (hr.mono (by decide)) rfl (pa_cons (pv 4) pa_nil)))
      (pss_cons (ps_if (PW.pt (pw_and (pt_cmpR op_gt (pv 3) pe_int (nomark _)) (pw_and1 (pt_cmpR op_gt (pe_op op_mod (pe_ix ix_list (pv 4) pe_int (fun _ _ => rfl)) pe_int) pe_int (nomark _))))) (pss_cons (ps_set (i := 7) sc_l_drawn_columns.nd rfl (Or.inl rfl) (pe_ix ix_list (pv 6) (pe_op op_mod (pe_ix ix_list (pv 4) pe_int (fun _ _ => rfl)) (pe_callB call_len_seq (by rfl) T.f_len (by decide +kernel) (pa_cons (pv 6) pa_nil))) (fun _ _ => rfl)))
        (pss_cons (ps_set (i := 8) sc_l_drawn_columns.nd rfl (Or.inl rfl) (pe_ix ix_list (pv 6) (pe_op op_mod (pe_ix ix_list (pv 4) pe_int (fun _ _ => rfl)) (pe_callB call_len_seq (by rfl) T.f_len (by decide +kernel) (pa_cons (pv 6) pa_nil))) (fun _ _ => rfl)))
        (pss_cons (ps_set (i := 9) sc_l_drawn_columns.nd rfl (Or.inl rfl) (pe_op op_mod (pe_ix ix_list (pv 4) pe_int (fun _ _ => rfl)) pe_int))
        (pss_one (ps_if (pt_cmpR op_lt (pv 9) pe_int (nomark _)) (pss_one (ps_set (i := 5) sc_l_drawn_columns.nd rfl (Or.inl rfl) (pe_tup (pa_cons (pe_ix ix_list (pe_lst (pa_cons pe_str (pa_cons pe_str pa_nil))) (pv 9) (fun _ _ => rfl)) (pa_cons (pv 7) (pa_cons (pv 8) pa_nil)))))) (pss_one (ps_if (pt_cmpR op_eq (pv 9) pe_int (nomark _)) (pss_one (ps_set (i := 5) sc_l_drawn_columns.nd rfl (Or.inl rfl) (pe_tup (pa_cons pe_str (pa_cons (pv 7) (pa_cons (pe_fn h_l_drawn_corners (hr.mono (by decide)) rfl (pa_cons (pe_slice sl_list (pv 4) (po_some pe_int) po_none) pa_nil)) pa_nil)))))) (pss_one (ps_set (i := 5) sc_l_drawn_columns.nd rfl (Or.inl rfl) (pe_tup (pa_cons (pe_ix ix_list (pe_lst (pa_cons pe_str (pa_cons pe_str pa_nil))) (pe_op op_sub (pv 9) pe_int) (fun _ _ => rfl)) (pa_cons (pv 7) (pa_cons (pe_fn h_l_low (hr.mono (by decide)) rfl (pa_cons (pe_op op_sub (pe_op op_mod (pe_ix ix_list (pv 4) pe_int (fun _ _ => rfl)) pe_int) pe_int) (pa_cons (pe_op op_add pe_int (pe_op op_mod (pe_ix ix_list (pv 4) pe_int (fun _ _ => rfl)) pe_int)) pa_nil))) pa_nil))))))))))))) pss_nil)
      (pss_one (ps_expr (pe_bm PySem.F.plainAttrs_list PySem.F.slot_list_append PySem.F.type_list_append mt_append (pv 2) (pa_cons (pe_tup (pa_cons (pe_ix ix_list (pv 1) (pe_op op_mod (pe_op op_add (pv 3) (pe_ix ix_list (pv 0) pe_int (fun _ _ => rfl))) pe_int) (fun _ _ => rfl)) (pa_cons (pv 5) pa_nil))) pa_nil)))))))))
    (pss_one (ps_ret (pv 2)))))), ?_⟩
  refine q_asgL (el_lst (ea_cons ev_c (ea_cons ev_c (ea_cons ev_c (ea_cons ev_c (ea_cons ev_c (ea_cons ev_c (ea_cons ev_c (ea_cons ev_c (ea_cons ev_c ea_nil))))))))) (by show 9 ≤ 100000; decide)) fun ln H1 nln e1 hln => ?_
  have hln : H1 ln = some (.lst (NMS.map V.str)) := hln
  refine q_asgL (el_lst ea_nil (by decide)) fun lf H2 nlf e2 hlf => ?_
  have e12 := e1.trans e2
  have d0 := hd.2.at_ 0
  obtain ⟨c, hc⟩ := Int.eq_ofNat_of_zero_le d0.1
  have m0 := mod_r (i := ds.getD 0 0) (j := 7) (by decide)
  obtain ⟨n, hn0⟩ : ∃ n : Nat, 1 + ds.getD 0 0 % 7 = (n : Int) := ⟨(1 + ds.getD 0 0 % 7).toNat, by omega⟩
  have n1 : 1 ≤ n := by omega
  have n7 : n ≤ 7 := by omega
  have nl : l ≠ lf := ne_of_none (e1 _ _ hd.1) nlf
  have nn : ln ≠ lf := ne_of_none hln nlf
  have hlf0 : H lf = none := fresh_back e1 nlf
  have hrange : Ev (tOp (rI0 fun i j => .int (i + j)) (tC (.int 1)) (tOp (rI (fun _ j => 0 < j) fun i j => .int (i % j)) (tOp (rIxL K) (tVar 0) (tC (.int 0))) (tC (.int 7)))) [some (.ref l), some (.ref ln), some (.ref lf), none, none, none, none, none, none, none, none] H2 (.int (n : Int)) :=
    ev_is (ev_add ev_c (ev_mod (ev_dg (i := 0) (ev_var rfl) (hd.mono e12) ev_c (by omega)) ev_c (by decide))) (congrArg V.int hn0)
  refine q_forR1 (n := (n : Int)) (ea_cons hrange ea_nil) (by omega) (ColInv K CL CZ H2 l ln lf (dnms c n))
    (fun H3 e3 => ⟨none, none, none, none, none, none, none, none, [], [], fun _ => [], rfl, ekx e3, e3 _ _ hlf, rfl, ⟨rfl, fun i x hx => by simp at hx⟩, tabok_nil, fun k hk => absurd hk (Nat.not_lt_zero k)⟩) ?_ ?_
  · rintro i σ' H' hi ⟨z3, z4, z5, z6, z7, z8, z9, z10, acc, ms, fpf, rfl, ek, hacc, hlen, hE, ok, nf⟩
    have hi : i < n := by omega
    have h7 : i < 7 := by omega
    have dH : DgAt H' l ds := ⟨ek _ _ (e12 _ _ hd.1) nl, hd.2⟩
    have lnH : H' ln = some (.lst (NMS.map V.str)) := ek _ _ (e2 _ _ hln) nn
    have hcut : cutV (ds.map V.int) (some (1 + 30 * (i : Int))) (some (31 + 30 * (i : Int))) = ((ds.drop (1 + 30 * i)).take 30).map V.int := by
      have a1 : (1 + 30 * (i : Int)) = ((1 + 30 * i : Nat) : Int) := by omega
      have a2 : (31 + 30 * (i : Int)) = ((31 + 30 * i : Nat) : Int) := by omega
      rw [a1, a2, cut_mid (by omega) (by rw [List.length_map]; omega), ← List.map_drop, ← List.map_take]
      have : 31 + 30 * i - (1 + 30 * i) = 30 := by omega
      rw [this]
    have hplen : ((ds.drop (1 + 30 * i)).take 30).length = 30 := by
      rw [List.length_take, List.length_drop]
      omega
    have hpsub : ∀ x ∈ (ds.drop (1 + 30 * i)).take 30, x ∈ ds := fun x hx => List.mem_of_mem_drop (List.mem_of_mem_take hx)
    generalize (ds.drop (1 + 30 * i)).take 30 = ps at *
    refine q_asgR (er_dgsl (K := K) (ev_var rfl) dH (eo_some (ev_add ev_c (ev_mul ev_c (ev_var rfl) (.inl (by decide))))) (eo_some (ev_add ev_c (ev_mul ev_c (ev_var rfl) (.inl (by decide))))) hcut hpsub) fun v4 H3 e3 ⟨lp, hv4, hp⟩ => ?_
    subst hv4
    have hlen' : acc.length = i := hE.1
    have en := en_lcLT (K := K) (R := fun k v _ => v = .str (nmAt (dnms c n) k)) (σ := [some (.ref l), some (.ref ln), some (.ref lf), some (.int (i : Int)), some (.ref lp), z5, z6, z7, z8, z9, z10]) (H := H3) (tl := tVar 2) (te := tVar 10) (vs := [10, 5]) (j := 10) (j2 := 5) (fun _ => eq_mon) (fun _ => eq_monL) (ev_var rfl) (sq_of (e3 _ _ hacc)) (by omega) (fun _ _ => rfl) fun k v hk => by
      obtain ⟨q, y, hq, hqt, hym⟩ := hE.2 k v hk
      exact ⟨q, _, y, hq, ex_t e3 hqt, er_of (ev_var rfl) fun _ _ => rfl⟩
    rw [hlen'] at en
    refine q_asgN en fun la xs H4 nla e4 hla hxs => ?_
    have e34 := e3.trans e4
    have hp4 := hp.mono e4
    have hmade : EvR (tCall (spBase K CL CZ) [] E0 (tCons (tVar 4) tNil)) [some (.ref l), some (.ref ln), some (.ref lf), some (.int (i : Int)), some (.ref lp), z5, some (.ref la), z7, z8, z9, z10] H4 (fun v H5 => ∃ fp g, MadeAt K CL CZ (dnms c n) H5 v fp (.base g) ∧ BaseOk g ∧ ∀ x ∈ fp, H4 x = none) := fun G e Q q =>
      ⟨.ref lp, rfl, lp, ps, rfl, hp4.mono e, hplen, fun v fp g H5 e5 hm hb hf => q v H5 e5 ⟨fp, g, hm.names (fun a ha => by cases ha), hb, fun x hx => fresh_back e (hf x hx)⟩⟩
    refine q_asgR hmade fun v5 H5 e5 ⟨fp5, g5, m5, b5, f5⟩ => ?_
    have e35 := e34.trans e5
    have hacc4 := e34 _ _ hacc
    have hp5 := hp4.mono e5
    have la5 := e5 _ _ hla
    have xs5 := hxs
    have mok5 : MOk (.base g5) i := ⟨fun a ha => (by cases ha), fun g e => (by cases e; exact b5), fun a q e => (by cases e), fun a q e => (by cases e), fun a q e => (by cases e)⟩
    have nf5 : lf ∉ fp5 := fun h => by
      rw [f5 lf h] at hacc4
      cases hacc4
    have hname : ∀ {σ : L2.St} {G : Hp}, Ex H5 G → σ[0]? = some (some (.ref l)) → σ[1]? = some (some (.ref ln)) → σ[3]? = some (some (.int (i : Int))) →
        Ev (tOp (rIxL K) (tVar 1) (tOp (rI (fun _ j => 0 < j) fun i j => .int (i % j)) (tOp (rI0 fun i j => .int (i + j)) (tVar 3) (tOp (rIxL K) (tVar 0) (tC (.int 0)))) (tC (.int 9)))) σ G (.str (nmAt (dnms c n) i)) := fun {σ G} eG h0 h1 h3 => by
      have a1 : ((i : Int) + ds.getD 0 0) % 9 = (((i + c) % 9 : Nat) : Int) := by
        rw [hc]
        omega
      have hz : (i + c) % 9 < 9 := Nat.mod_lt _ (by decide)
      have hv : (NMS.map V.str)[(i + c) % 9]? = some (.str (nmAt (dnms c n) i)) := by
        rw [dnms_at hi]
        unfold dnm
        have hz' : (i + c) % 9 < NMS.length := hz
        simp [hz']
      exact ev_op (ev_var h1) (ev_is (ev_mod (ev_add (ev_var h3) (ev_dg (i := 0) (ev_var h0) (dH.mono (e35.trans eG)) ev_c (by omega))) ev_c (by decide)) (congrArg V.int a1)) (rv_ixL (sq_of ((e35.trans eG) _ _ lnH)) (atI_nat hv))
    refine q_when (b := decide ((0 : Int) < (i : Int)) && decide ((0 : Int) < ps.getD 0 0 % 4)) (et_and (et_test (ev_op (ev_var rfl) ev_c rv_I0)) fun _ => et_test (ev_op (ev_mod (ev_dg (i := 0) (ev_var rfl) hp5 ev_c (by omega)) ev_c (by decide)) ev_c rv_I0)) (fun hb H6 e6 => ?_) (fun hb H6 e6 => ?_)
    · have i0 : 0 < i := by
        have hb := (Bool.and_eq_true_iff.mp hb).1
        have := of_decide_eq_true hb
        omega
      have hxs6 : Each i (fun k v _ => v = .str (nmAt (dnms c n) k)) xs H6 := ⟨hxs.1, fun k x hx => hxs.2 k x hx⟩
      have la6 := e6 _ _ la5
      have hp6 := hp5.mono e6
      have lenA : ∀ {σ : L2.St} {G : Hp}, Ex H6 G → σ[6]? = some (some (.ref la)) → Ev (tCB (rLenS K) (tCons (tVar 6) tNil)) σ G (.int (i : Int)) := fun eG h => by
        have := ev_len (K := K) (ev_var h) (sq_of (eG _ _ la6))
        rw [hxs.1] at this
        exact this
      have r1 := mod_r (i := ps.getD 1 0) (j := (i : Int)) (by omega)
      have r2 := mod_r (i := ps.getD 2 0) (j := (i : Int)) (by omega)
      have r3 := mod_r (i := ps.getD 3 0) (j := 5) (by decide)
      obtain ⟨a, ha⟩ := Int.eq_ofNat_of_zero_le r1.1
      obtain ⟨b, hb2⟩ := Int.eq_ofNat_of_zero_le r2.1
      have hai : a < i := by omega
      have hbi : b < i := by omega
      refine q_asgR (er_ixE (z := a) (fun _ => eq_mon) (ev_var rfl) la6 hxs6 (ev_is (ev_mod (ev_dg (i := 1) (ev_var rfl) hp6 ev_c (by omega)) (lenA (Ex.refl H6) rfl) (by omega)) (congrArg V.int ha)) hai) fun v7 H7 e7 hv7 => ?_
      subst hv7
      have hxs7 : Each i (fun k v _ => v = .str (nmAt (dnms c n) k)) xs H7 := ⟨hxs.1, fun k x hx => hxs.2 k x hx⟩
      refine q_asgR (er_ixE (z := b) (fun _ => eq_mon) (ev_var rfl) (e7 _ _ la6) hxs7 (ev_is (ev_mod (ev_dg (i := 2) (ev_var rfl) (hp6.mono e7) ev_c (by omega)) (lenA e7 rfl) (by omega)) (congrArg V.int hb2)) hbi) fun v8 H8 e8 hv8 => ?_
      subst hv8
      have e68 := e7.trans e8
      refine q_asg (ev_mod (ev_dg (i := 3) (ev_var rfl) (hp6.mono e68) ev_c (by omega)) ev_c (by decide)) fun H9 e9 => ?_
      generalize ps.getD 3 0 % 5 = way at *
      have e69 := e68.trans e9
      have e39 : Ex H5 H9 := e6.trans e69
      refine s_if (b := decide (way < 2)) (et_test (ev_op (ev_var rfl) ev_c rv_I0)) (fun hb3 Ha ea => ?_) (fun hb3 Ha ea => ?_)
      · have hb3 := of_decide_eq_true hb3
        rcases (show way = 0 ∨ way = 1 by omega) with hw | hw
        · subst hw
          refine s_asgU (eu_tup (ea_cons (ev_pickV (v := .str "sum") (ea_cons ev_c (ea_cons ev_c ea_nil)) (fun G1 g1 => ev_var rfl) rfl (by decide) (by decide)) (ea_cons (ev_var rfl) (ea_cons (ev_var rfl) ea_nil))) (by show 3 ≤ 100000; decide)) fun q Hb nq eb hq => ?_
          have mm : MadeAt K CL CZ (dnms c n) Hb (.ref q) [] (.sum a b) := ⟨q, rfl, rfl, SqT.of hq⟩
          have e5b := (e39.trans ea).trans eb
          refine s_appR ((e35.trans e5b) _ _ hacc) (ev_var rfl) (er_col (hname e5b rfl rfl rfl) (ev_var rfl) mm) (by omega) fun u Hc ec hu => ?_
          exact ColInv.step ek hacc hlen hE ok nf ((e35.trans e5b).trans ec) hu ⟨fun x hx => by
            simp only [refs, List.mem_cons, List.not_mem_nil, or_false] at hx
            rcases hx with rfl | rfl <;> assumption, fun g e => (by cases e), fun a q e => (by cases e), fun a q e => (by cases e), fun a q e => (by cases e)⟩ (fun h => by cases h) h7 rfl
        · subst hw
          refine s_asgU (eu_tup (ea_cons (ev_pickV (v := .str "less") (ea_cons ev_c (ea_cons ev_c ea_nil)) (fun G1 g1 => ev_var rfl) rfl (by decide) (by decide)) (ea_cons (ev_var rfl) (ea_cons (ev_var rfl) ea_nil))) (by show 3 ≤ 100000; decide)) fun q Hb nq eb hq => ?_
          have mm : MadeAt K CL CZ (dnms c n) Hb (.ref q) [] (.less a b) := ⟨q, rfl, rfl, SqT.of hq⟩
          have e5b := (e39.trans ea).trans eb
          refine s_appR ((e35.trans e5b) _ _ hacc) (ev_var rfl) (er_col (hname e5b rfl rfl rfl) (ev_var rfl) mm) (by omega) fun u Hc ec hu => ?_
          exact ColInv.step ek hacc hlen hE ok nf ((e35.trans e5b).trans ec) hu ⟨fun x hx => by
            simp only [refs, List.mem_cons, List.not_mem_nil, or_false] at hx
            rcases hx with rfl | rfl <;> assumption, fun g e => (by cases e), fun a q e => (by cases e), fun a q e => (by cases e), fun a q e => (by cases e)⟩ (fun h => by cases h) h7 rfl
      · have hb3 := of_decide_eq_false hb3
        refine s_if (b := decide (V.int way = .int 4)) (et_test (ev_op (ev_var rfl) ev_c (rv_eq rfl))) (fun hb4 Hb eb => ?_) (fun hb4 Hb eb => ?_)
        · -- by corners
          have e5b := (e39.trans ea).trans eb
          have hpb := hp6.mono ((e69.trans ea).trans eb)
          have hcut4 : cutV (ps.map V.int) (some 4) none = (ps.drop 4).map V.int := by
            have := cut_from (xs := ps.map V.int) (a := 4) (by rw [List.length_map]; omega)
            rw [← List.map_drop] at this
            exact this
          have hcor : EvR (tCall (spDCorners K) [] E0 (tCons (tSl (rSlL K) (tVar 4) (tPart (tC (.int 4))) tNoPart) tNil)) [some (.ref l), some (.ref ln), some (.ref lf), some (.int (i : Int)), some (.ref lp), some v5, some (.ref la), some (.str (nmAt (dnms c n) a)), some (.str (nmAt (dnms c n) b)), some (.int way), z10] Hb
              (fun v H' => ∃ lc cs, v = .ref lc ∧ Hb lc = none ∧ CsAt K H' lc cs ∧ CsOk cs) := fun G e Q q => (er_dgsl (K := K) (ev_var rfl) hpb (eo_some ev_c) eo_none hcut4 fun x hx => List.mem_of_mem_drop hx) G e _ fun v G2 e2 ⟨l4, hv, h4⟩ => by
            subst hv
            exact ⟨l4, ps.drop 4, rfl, h4, by rw [List.length_drop, hplen], fun p cs H' hp e3 hcs hok => q _ H' (e2.trans e3) ⟨p, cs, rfl, fresh_back (e.trans e2) hp, hcs, hok⟩⟩
          refine ⟨_, rfl, hcor Hb (Ex.refl Hb) _ fun v Hc ec ⟨lc, cs, hv, nlc, hcs, hok⟩ => ?_⟩
          subst hv
          refine ⟨by show 3 ≤ sizeLine; decide, fun q hq => ?_⟩
          have eq' : Ex Hc (upd Hc q (.tup [.str "by", .str (nmAt (dnms c n) a), .ref lc])) := Ex.new hq
          have mm : MadeAt K CL CZ (dnms c n) (upd Hc q (.tup [.str "by", .str (nmAt (dnms c n) a), .ref lc])) (.ref q) [lc] (.by_ a cs) := ⟨q, lc, rfl, rfl, SqT.of upd_same, hcs.mono eq', hok⟩
          have e5d := (e5b.trans ec).trans eq'
          refine s_appR ((e35.trans e5d) _ _ hacc) (ev_var rfl) (er_col (hname e5d rfl rfl rfl) (ev_var rfl) mm) (by omega) fun u Hd ed hu => ?_
          refine ColInv.step ek hacc hlen hE ok nf ((e35.trans e5d).trans ed) hu ⟨fun x hx => by
            simp only [refs, List.mem_cons, List.not_mem_nil, or_false] at hx
            subst hx
            exact hai, fun g e => (by cases e), fun a q e => (by cases e), fun a q e => (by cases e), fun a q e => (by cases e; exact hok)⟩ (fun h => ?_) h7 rfl
          simp only [List.mem_cons, List.not_mem_nil, or_false] at h
          subst h
          rw [(e35.trans e5b) _ _ hacc] at nlc
          cases nlc
        · have hb4 : way ≠ 4 := fun z => absurd (congrArg V.int z) (of_decide_eq_false hb4)
          have e5b := (e39.trans ea).trans eb
          have hpb := hp6.mono ((e69.trans ea).trans eb)
          have q4 := mod_r (i := ps.getD 4 0) (j := 60) (by decide)
          have q5 := mod_r (i := ps.getD 5 0) (j := 12) (by decide)
          have qok : QOk (Rat.divInt (ps.getD 4 0 % 60 - 20) (1 + ps.getD 5 0 % 12)) := ⟨Bd.quot (by omega) (dvd_27720 (by omega) (by omega)) (by omega) (by omega)⟩
          have hlow : EW K (tCall (spLow K) [] E0 (tCons (tOp (rI0 fun i j => .int (i - j)) (tOp (rI (fun _ j => 0 < j) fun i j => .int (i % j)) (tOp (rIxL K) (tVar 4) (tC (.int 4))) (tC (.int 60))) (tC (.int 20))) (tCons (tOp (rI0 fun i j => .int (i + j)) (tC (.int 1)) (tOp (rI (fun _ j => 0 < j) fun i j => .int (i % j)) (tOp (rIxL K) (tVar 4) (tC (.int 5))) (tC (.int 12)))) tNil)))
              [some (.ref l), some (.ref ln), some (.ref lf), some (.int (i : Int)), some (.ref lp), some v5, some (.ref la), some (.str (nmAt (dnms c n) a)), some (.str (nmAt (dnms c n) b)), some (.int way), z10] Hb (Rat.divInt (ps.getD 4 0 % 60 - 20) (1 + ps.getD 5 0 % 12)) :=
            ew_low (ev_sub (ev_mod (ev_dg (i := 4) (ev_var rfl) hpb ev_c (by omega)) ev_c (by decide)) ev_c) (ev_add ev_c (ev_mod (ev_dg (i := 5) (ev_var rfl) hpb ev_c (by omega)) ev_c (by decide))) (by omega) (lt8000 (by omega) (by omega))
          generalize Rat.divInt (ps.getD 4 0 % 60 - 20) (1 + ps.getD 5 0 % 12) = qq at *
          rcases (show way = 2 ∨ way = 3 by omega) with hw | hw
          · subst hw
            refine (ev_pickV (K := K) (v := .str "times") (z := 0) (ti := tOp (rI0 fun i j => .int (i - j)) (tVar 9) (tC (.int 2))) (ea_cons ev_c (ea_cons ev_c ea_nil)) (fun G1 g1 => ev_is (ev_sub (ev_var rfl) ev_c) rfl) rfl (by decide) (by decide)) Hb (Ex.refl Hb) _ fun Hc ec => ⟨_, rfl, hlow Hc ec _ fun v Hd ed ⟨cq, hv, hcq⟩ => ?_⟩
            subst hv
            refine ⟨by show 3 ≤ sizeLine; decide, fun q hq => ?_⟩
            have eq' : Ex Hd (upd Hd q (.tup [.str "times", .str (nmAt (dnms c n) a), .ref cq])) := Ex.new hq
            have mm : MadeAt K CL CZ (dnms c n) (upd Hd q (.tup [.str "times", .str (nmAt (dnms c n) a), .ref cq])) (.ref q) [] (.times a qq) := ⟨q, cq, rfl, rfl, SqT.of upd_same, hcq.mono eq'⟩
            have e5d := ((e5b.trans ec).trans ed).trans eq'
            refine s_appR ((e35.trans e5d) _ _ hacc) (ev_var rfl) (er_col (hname e5d rfl rfl rfl) (ev_var rfl) mm) (by omega) fun u He ee hu => ?_
            exact ColInv.step ek hacc hlen hE ok nf ((e35.trans e5d).trans ee) hu ⟨fun x hx => by
              simp only [refs, List.mem_cons, List.not_mem_nil, or_false] at hx
              subst hx
              exact hai, fun g e => (by cases e), fun a q e => (by cases e; exact qok), fun a q e => (by cases e), fun a q e => (by cases e)⟩ (fun h => by cases h) h7 rfl
          · subst hw
            refine (ev_pickV (K := K) (v := .str "along") (z := 1) (ti := tOp (rI0 fun i j => .int (i - j)) (tVar 9) (tC (.int 2))) (ea_cons ev_c (ea_cons ev_c ea_nil)) (fun G1 g1 => ev_is (ev_sub (ev_var rfl) ev_c) rfl) rfl (by decide) (by decide)) Hb (Ex.refl Hb) _ fun Hc ec => ⟨_, rfl, hlow Hc ec _ fun v Hd ed ⟨cq, hv, hcq⟩ => ?_⟩
            subst hv
            refine ⟨by show 3 ≤ sizeLine; decide, fun q hq => ?_⟩
            have eq' : Ex Hd (upd Hd q (.tup [.str "along", .str (nmAt (dnms c n) a), .ref cq])) := Ex.new hq
            have mm : MadeAt K CL CZ (dnms c n) (upd Hd q (.tup [.str "along", .str (nmAt (dnms c n) a), .ref cq])) (.ref q) [] (.along a qq) := ⟨q, cq, rfl, rfl, SqT.of upd_same, hcq.mono eq'⟩
            have e5d := ((e5b.trans ec).trans ed).trans eq'
            refine s_appR ((e35.trans e5d) _ _ hacc) (ev_var rfl) (er_col (hname e5d rfl rfl rfl) (ev_var rfl) mm) (by omega) fun u He ee hu => ?_
            exact ColInv.step ek hacc hlen hE ok nf ((e35.trans e5d).trans ee) hu ⟨fun x hx => by
              simp only [refs, List.mem_cons, List.not_mem_nil, or_false] at hx
              subst hx
              exact hai, fun g e => (by cases e), fun a q e => (by cases e), fun a q e => (by cases e; exact qok), fun a q e => (by cases e)⟩ (fun h => by cases h) h7 rfl
    · refine s_appR ((e35.trans e6) _ _ hacc) (ev_var rfl) (er_col (hname e6 rfl rfl rfl) (ev_var rfl) (m5.mono e6)) (by omega) fun u Hc ec hu => ?_
      exact ColInv.step ek hacc hlen hE ok nf ((e35.trans e6).trans ec) hu mok5 nf5 h7 rfl
  · rintro σ' H' ⟨z3, z4, z5, z6, z7, z8, z9, z10, acc, ms, fpf, rfl, ek, hacc, hlen, hE, ok, nf⟩
    have hlen : ms.length = n := hlen
    have hE : Each n (fun k => IsCol K CL CZ (dnms c n) (nmAt (dnms c n) k) (made ms k) (fpf k)) acc H' := hE
    have nf : ∀ k : Nat, k < n → lf ∉ fpf k := nf
    refine ⟨_, rfl, k lf (dnms c n) ms fpf H' hlf0 (fun u o hu => ek _ _ (e12 _ _ hu) (ne_of_none hu hlf0)) ⟨acc, hacc, by rw [hlen]; exact hE⟩ (dnms_ok n7 hlen) ok (by omega) (fun k hk => nf k (by omega)) fun k hk => by
      rw [dnms_at (by omega)]
      exact lay_all9 ⟨_, Nat.mod_lt _ (by decide)⟩⟩
end
end Tb

/-! ## TbLaw6 -/
set_option Elab.async false
set_option linter.all false
set_option maxRecDepth 100000
set_option maxHeartbeats 4000000
namespace Tb
open PySem PySem.Spec PyProof.Rows L2 Evl
theorem GapOk.sinv {g : Rat} (h : GapOk g) : Sm g⁻¹ := h.inv.sm1 (by decide +kernel)
theorem along_back (f : Int → Rat) (q : Rat) : q - sumF f (-14) 14 = alongF f q (-14) := by
  unfold alongF
  rw [if_pos (by decide)]
  show q - sumF f (-14) 14 = q + (0 - sumF f (-14) 14)
  grind
theorem back_sm {ms : List Made} (h : TabOk ms) {a : Nat} (ha : a < ms.length) {q : Rat} (hq : QOk q) {j : Nat} (hj : j ≤ 14) : Sm (q - sumF (Tb.val ms a) (-14) j) := by
  have hb := Bk_big a
  have s := sumF_bd (f := Tb.val ms a) (M := Mk a) (B := Bk a) (by omega) j (-14) fun r h3 h4 => val_bd h a ha r (by omega) (by omega)
  have q1 : Bd (Mk a * FF) 40 q := hq.bd.mono (Int.dvd_trans (by decide +kernel) (Int.dvd_mul_left ..)) (Int.le_refl _)
  refine (q1.sub (s.mono (Int.dvd_mul_right ..) (Int.le_refl _))).smt (smB_k a (by have := h.n7; omega)) (c := FF) rfl (Int.dvd_mul_right ..) ?_
  have h40 : (j : Int) ≤ 40 := by omega
  have : Bk a * (j : Int) ≤ Bk a * 40 := Int.mul_le_mul_of_nonneg_left h40 (by omega)
  show _ ≤ Bk a * (1000000 * 1000000)
  omega
theorem cut_to {xs : List V} {b : Nat} (hb : b ≤ xs.length) : cutV xs none (some (b : Int)) = xs.take b := by
  unfold cutV
  rw [HT.sIx_none, HT.sIx_nat xs.length xs.length b, Nat.min_eq_left hb]
  rfl
def ARunL (K : PySem.W.Frag) : List Made × Nat × Nat × Rat → List V → Hp → Prop := fun d vs H => ∃ l c xs, vs = [.ref l, .ref c, .int (-14)] ∧ H l = some (.lst xs) ∧ RowW K (Tb.val d.1 d.2.2.1) (-14) 25 xs H ∧ WAt K H c d.2.2.2 ∧ TabOk d.1 ∧ d.2.1 < d.1.length ∧ made d.1 d.2.1 = .along d.2.2.1 d.2.2.2
def spRunL (K : PySem.W.Frag) : Sp := spL (ARunL K) fun d => RowW K (Tb.val d.1 d.2.1) (-14) 25
section
variable {P : Program} {w : World} {K : PySem.W.Frag} {mg : Str → Option Value} {base : Heap} {CL CZ CT NO MA : Addr} {f : Addr} {fd : FuncData}
theorem sc_l_bent : FnScope ["_law_corners", "_law_here", "_law_k", "_law_one", "_law_other", "_law_run_here", "_law_share"] ["_law_corners", "_law_here"] (defScope s_l_bent) := ⟨rfl, rfl, rfl, by decide +kernel, rfl, by decide +kernel, by decide +kernel⟩
theorem ok_l_bent (T : Txt K w mg CL CZ CT NO MA) (h_l_add : FnAdd P w K mg base) (h_l_take : FnTake P w K mg base) (h_l_by : FnBy P w K mg base) (h_l_less : FnLess P w K mg base)
    (F : FunD K "_law_bent" "_law_bent" (defArgs s_l_bent) (defBody s_l_bent) (defScope s_l_bent) [] [] f fd) : FnOk P w K mg base CX0 3 f fd ["_law_corners", "_law_here"] (spBent K) := by
  refine F.ok sc_l_bent abent_len (fun cdv A outer s H vs Q E hr h => ?_)
  obtain ⟨⟨cs, t⟩, ⟨l, c, M, B, rfl, hl, ok, hc, tm⟩, k⟩ := h
  refine ⟨_, PSs.nox (pss_cons (ps_set (i := 2) sc_l_bent.nd rfl (Or.inl rfl) pe_int)
    (pss_cons (ps_while PassesOwn.never (PW.pt (pw_and (pt_cmpR op_lt (pe_op op_add (pv 2) pe_int) (pe_callB call_len_seq (by rfl) T.f_len (by decide +kernel) (pa_cons (pv 0) pa_nil)) (nomark _)) (pw_and1 (pt_not (pt_val (pe_fn h_l_less (hr.mono (by decide)) rfl (pa_cons (pv 1) (pa_cons (pe_ix ix_tup (pe_ix ix_list (pv 0) (pe_op op_add (pv 2) pe_int) (fun _ _ => rfl)) pe_int (fun _ _ => rfl)) pa_nil)))))))) (pss_one (ps_set (i := 2) sc_l_bent.nd rfl (Or.inl rfl) (pe_op op_add (pv 2) pe_int))))
    (pss_cons (ps_par (i := 3) (j := 4) rfl sc_l_bent.nd rfl rfl (by decide) rfl rfl (pa_cons (pe_ix ix_list (pv 0) (pv 2) (fun _ _ => rfl)) (pa_cons (pe_ix ix_list (pv 0) (pe_op op_add (pv 2) pe_int) (fun _ _ => rfl)) pa_nil)) rfl)
    (pss_cons (ps_set (i := 5) sc_l_bent.nd rfl (Or.inl rfl) (pe_fn h_l_take (hr.mono (by decide)) rfl (pa_cons (pe_ix ix_tup (pv 4) pe_int (fun _ _ => rfl)) (pa_cons (pe_ix ix_tup (pv 3) pe_int (fun _ _ => rfl)) pa_nil))))
    (pss_cons (ps_set (i := 6) sc_l_bent.nd rfl (Or.inl rfl) (pe_fn h_l_by (hr.mono (by decide)) rfl (pa_cons (pe_fn h_l_take (hr.mono (by decide)) rfl (pa_cons (pv 1) (pa_cons (pe_ix ix_tup (pv 3) pe_int (fun _ _ => rfl)) pa_nil))) (pa_cons (pe_tup (pa_cons (pe_ix ix_tup (pv 5) pe_int (fun _ _ => rfl)) (pa_cons (pe_ix ix_tup (pv 5) pe_int (fun _ _ => rfl)) pa_nil))) pa_nil))))
    (pss_one (ps_ret (pe_fn h_l_add (hr.mono (by decide)) rfl (pa_cons (pe_ix ix_tup (pv 3) pe_int (fun _ _ => rfl)) (pa_cons (pe_fn h_l_by (hr.mono (by decide)) rfl (pa_cons (pv 6) (pa_cons (pe_fn h_l_take (hr.mono (by decide)) rfl (pa_cons (pe_ix ix_tup (pv 4) pe_int (fun _ _ => rfl)) (pa_cons (pe_ix ix_tup (pv 3) pe_int (fun _ _ => rfl)) pa_nil))) pa_nil))) pa_nil)))))))))), ?_⟩
  have ok : CsOk cs := ok
  have tm : Tame t M B := tm
  have n2 := ok.n2
  refine q_asg ev_c fun H1 e1 => ?_
  refine q_while (fun m σ' H' => ∃ at_ : Nat, σ' = [some (.ref l), some (.ref c), some (.int (at_ : Nat)), none, none, none, none] ∧ at_ + m = cs.length ∧ at_ + 1 < cs.length ∧ segF cs t m at_ = seg cs t ∧ Ex H H') cs.length ⟨0, rfl, by omega, by omega, rfl, e1⟩ ?_
  rintro m σ' H' ⟨at_, rfl, hm, h1, hs, e⟩
  have htest : EvT (tAnd (tTest (tOp (rI0 fun i j => .bl (decide (i < j))) (tOp (rI0 fun i j => .int (i + j)) (tVar 2) (tC (.int 2))) (tCB (rLenS K) (tCons (tVar 0) tNil)))) (tNot (tB (tCall (spB2 K Any2 fun q r => decide (q < r)) [] E0 (tCons (tVar 1) (tCons (tOp (rIxT K) (tOp (rIxL K) (tVar 0) (tOp (rI0 fun i j => .int (i + j)) (tVar 2) (tC (.int 1)))) (tC (.int 0))) tNil))))))
      [some (.ref l), some (.ref c), some (.int (at_ : Nat)), none, none, none, none] H' (decide (at_ + 2 < cs.length ∧ ¬ t < cx cs (at_ + 1))) := by
    refine et_is (et_and (et_test (ev_op (ev_op (ev_var rfl) ev_c rv_I0) (ev_lenC (ev_var rfl) (hl.mono e)) rv_I0)) fun hlt => et_not (et_B (ev_b2 (ew_var rfl (hc.mono e)) (ew_cx (er_ixC (z := at_ + 1) (ev_var rfl) (hl.mono e) (ev_is (ev_op (ev_var rfl) ev_c rv_I0) (by simp)) h1)) tm.s (ok.sx h1) trivial))) ?_
    have a1 : decide ((at_ : Int) + 2 < (cs.length : Int)) = decide (at_ + 2 < cs.length) := decide_eq_decide.mpr (by omega)
    rw [a1, Bool.decide_and, decide_not]
    rfl
  refine ⟨_, htest, fun hb H2 e2 => ?_, fun hb H2 e2 => ?_⟩
  · have hb := of_decide_eq_true hb
    obtain ⟨m', rfl⟩ : ∃ m', m = m' + 1 := ⟨m - 1, by omega⟩
    refine ⟨fun σ2 H3 => ∃ m2, m2 < m' + 1 ∧ ∃ at_ : Nat, σ2 = [some (.ref l), some (.ref c), some (.int (at_ : Nat)), none, none, none, none] ∧ at_ + m2 = cs.length ∧ at_ + 1 < cs.length ∧ segF cs t m2 at_ = seg cs t ∧ Ex H H3, fun σ2 H3 h => h, ?_⟩
    refine s_asg (v := .int ((at_ + 1 : Nat) : Int)) (ev_is (ev_op (ev_var rfl) ev_c rv_I0) (by simp)) fun H3 e3 => ⟨m', by omega, at_ + 1, rfl, by omega, by omega, ?_, (e.trans e2).trans e3⟩
    rw [← hs, segF_go hb]
  · have hb := of_decide_eq_false hb
    have es : seg cs t = at_ := by rw [← hs, segF_stop hb]
    have e2' := e.trans e2
    have ix0 : EvR (tOp (rIxL K) (tVar 0) (tVar 2)) [some (.ref l), some (.ref c), some (.int (at_ : Nat)), none, none, none, none] H2 (IsC K (cs.getD at_ (0, 0))) := er_ixC (z := at_) (ev_var rfl) (hl.mono e2') (ev_var rfl) (show at_ < cs.length by omega)
    have ix1 : EvR (tOp (rIxL K) (tVar 0) (tOp (rI0 fun i j => .int (i + j)) (tVar 2) (tC (.int 1)))) [some (.ref l), some (.ref c), some (.int (at_ : Nat)), none, none, none, none] H2 (IsC K (cs.getD (at_ + 1) (0, 0))) := er_ixC (z := at_ + 1) (ev_var rfl) (hl.mono e2') (ev_is (ev_op (ev_var rfl) ev_c rv_I0) (by simp)) h1
    refine ix0 H2 (Ex.refl H2) _ fun v1 H3 e3 c1 => ix1 H3 e3 _ fun v2 H4 e4 c2 => ⟨v1, v2, rfl, ?_⟩
    have c1 : IsC K (cs.getD at_ (0, 0)) v1 H4 := isc_mon _ _ _ e4 c1
    have e24 := e2'.trans (e3.trans e4)
    have gp := ok.gap at_ h1
    refine q_asgW (ew_2 (ew_cx (er_c rfl c2)) (ew_cx (er_c rfl c1)) (ok.sx h1) (ok.sx (by omega)) trivial) fun a H5 e5 wa => ?_
    have wa : WAt K H5 a (cx cs (at_ + 1) - cx cs at_) := wa
    have c1 := isc_mon _ _ _ e5 c1
    have c2 : IsC K (cs.getD (at_ + 1) (0, 0)) v2 H5 := isc_mon _ _ _ e5 c2
    refine q_asgW (q := (t - cx cs at_) * (cx cs (at_ + 1) - cx cs at_)⁻¹) (ew_2 (ew_2 (ew_var rfl (hc.mono (e24.trans e5))) (ew_cx (er_c rfl c1)) tm.s (ok.sx (by omega)) trivial) (ew_pair (ev_den (ev_var rfl) wa) (ev_num (ev_var rfl) wa) (inv_num gp.pos).symm (inv_den gp.pos).symm) (bent_s1 tm ok (by omega)) gp.sinv trivial) fun b H6 e6 wb => ?_
    have c1 := isc_mon _ _ _ e6 c1
    have c2 : IsC K (cs.getD (at_ + 1) (0, 0)) v2 H6 := isc_mon _ _ _ e6 c2
    have s2 := bent_s2 tm ok h1
    have s3 := bent_s3 tm ok h1
    rw [Rat.div_def] at s2 s3
    refine s_retR (ew_2 (ew_cy (er_c rfl c1)) (ew_2 (ew_var rfl wb) (ew_2 (ew_cy (er_c rfl c2)) (ew_cy (er_c rfl c1)) (ok.sy h1) (ok.sy (by omega)) trivial) s2 (ok.sdy h1) trivial) (ok.sy (by omega)) s3 trivial) fun v H7 e7 hv => k v H7 ((e24.trans (e5.trans e6)).trans e7) ?_
    show IsW K (bent cs t) v H7
    unfold bent
    rw [es, Rat.div_def]
    exact hv
theorem sc_l_run : FnScope ["_law_some", "_law_begin", "_law_first", "_law_here", "_law_one", "_law_found"] ["_law_some", "_law_begin", "_law_first"] (defScope s_l_run) := ⟨rfl, rfl, rfl, by decide +kernel, rfl, by decide +kernel, by decide +kernel⟩
theorem ok_l_run (T : Txt K w mg CL CZ CT NO MA) (h_l_add : FnAdd P w K mg base) (h_l_take : FnTake P w K mg base)
    (F : FunD K "_law_run" "_law_run" (defArgs s_l_run) (defBody s_l_run) (defScope s_l_run) [] [] f fd) : FnOk P w K mg base CX0 3 f fd ["_law_some", "_law_begin", "_law_first"] (spRunL K) := by
  refine F.ok sc_l_run (fun vs H Q E h => ?_) (fun cdv A outer s H vs Q E hr h => ?_)
  · obtain ⟨_, ⟨_, _, _, rfl, _⟩, _⟩ := h
    rfl
  obtain ⟨⟨ms, kk, a, q⟩, ⟨l, c, xs, rfl, hl, hx, hc, ok, hk, hm⟩, k⟩ := h
  refine ⟨_, PSs.nox (pss_cons (ps_set (i := 3) sc_l_run.nd rfl (Or.inl rfl) (pv 1))
    (pss_cons (ps_for PassesOwn.never rfl (pi_list (pe_slice sl_list (pv 0) po_none (po_some (pe_op op_sub pe_int (pv 2))))) (pg_name (i := 4) sc_l_run.nd rfl (Or.inl rfl))
    (pss_one (ps_set (i := 3) sc_l_run.nd rfl (Or.inl rfl) (pe_fn h_l_take (hr.mono (by decide)) rfl (pa_cons (pv 3) (pa_cons (pv 4) pa_nil))))))
    (pss_cons (ps_set (i := 5) sc_l_run.nd rfl (Or.inl rfl) (pe_lst pa_nil))
    (pss_cons (ps_for PassesOwn.never rfl (pi_list (pv 0)) (pg_name (i := 4) sc_l_run.nd rfl (Or.inl rfl))
    (pss_cons (ps_expr (pe_bm PySem.F.plainAttrs_list PySem.F.slot_list_append PySem.F.type_list_append mt_append (pv 5) (pa_cons (pv 3) pa_nil)))
      (pss_one (ps_set (i := 3) sc_l_run.nd rfl (Or.inl rfl) (pe_fn h_l_add (hr.mono (by decide)) rfl (pa_cons (pv 3) (pa_cons (pv 4) pa_nil)))))))
    (pss_one (ps_ret (pv 5))))))), ?_⟩
  have hx : Each 39 (fun i => IsW K (Tb.val ms a (-14 + (i : Int)))) xs H := hx
  have ok : TabOk ms := ok
  have hk : kk < ms.length := hk
  have hm : made ms kk = .along a q := hm
  have hak : a < kk := ok.wf kk a (by rw [hm]; simp [refs])
  have ha : a < ms.length := by omega
  have hq := ok.along kk a q hm
  have fe : ∀ row, Tb.val ms kk row = alongF (Tb.val ms a) q row := fun row => by
    rw [val_eq ok.wf kk, hm] <;> rfl
  have hxl : xs.length = 39 := hx.1
  refine q_asg (ev_var rfl) fun H1 e1 => ?_
  have hl1 := e1 _ _ hl
  have sl := el_sl (K := K) (lo := none) (hi := some 14) (ev_var (i := 0) rfl : Ev (tVar 0) [some (.ref l), some (.ref c), some (.int (-14)), some (.ref c), none, none] H1 (.ref l)) eo_none (eo_some (ev_is (ev_sub (ev_c : Ev (tC (.int 0)) _ _ _) (ev_var (i := 2) rfl)) rfl)) (sq_of hl1)
  have hct : cutV xs none (some 14) = xs.take 14 := cut_to (b := 14) (by omega)
  rw [hct] at sl
  have htk : (xs.take 14).length = 14 := by rw [List.length_take, hxl]; rfl
  refine q_forNLn sl (fun p i σ' H' => ∃ b z, σ' = [some (.ref l), some (.ref c), some (.int (-14)), some (.ref b), z, none] ∧ Ex H1 H' ∧ H' p = some (.lst (xs.take 14)) ∧ WAt K H' b (q - sumF (Tb.val ms a) (-14) i)) (fun p H2 np e2 hp => ⟨c, none, rfl, e2, hp, ?_⟩) (fun p i σ' H' _ ⟨_, _, _, _, h, _⟩ => sq_of h) ?_ ?_
  · have : q - sumF (Tb.val ms a) (-14) 0 = q := by
      show q - 0 = q
      grind
    rw [this]
    exact (hc.mono e1).mono e2
  · rintro p i x σ' H' hxi ⟨b, z, rfl, e, hp, hb⟩
    have hi : i < 14 := by
      have := (List.getElem?_eq_some_iff.mp hxi).1
      omega
    rw [List.getElem?_take, if_pos hi] at hxi
    obtain ⟨y, rfl, hy⟩ := isw_mon _ _ _ (e1.trans e) (hx.2 i x hxi)
    have s2 := (val_tame ok ha (row := -14 + (i : Int)) (by omega) (by omega)).s
    refine s_asgR (ew_2 (ew_var rfl hb) (ew_var rfl hy) (back_sm ok ha hq (by omega)) s2 trivial) fun v H3 e3 ⟨b', hv, hb'⟩ => ?_
    subst hv
    refine ⟨b', _, rfl, e.trans e3, e3 _ _ hp, ?_⟩
    have : q - sumF (Tb.val ms a) (-14) (i + 1) = q - sumF (Tb.val ms a) (-14) i - Tb.val ms a (-14 + (i : Int)) := by
      show q - (sumF (Tb.val ms a) (-14) i + Tb.val ms a (-14 + (i : Int))) = _
      grind
    rw [this]
    exact hb'
  · rintro p σ' H' ⟨b, z, rfl, e, hp, hb⟩
    rw [htk, along_back, ← fe] at hb
    refine q_asgL (el_lst ea_nil (by decide)) fun lf H2 nlf e2 hlf => ?_
    have e12 := (e1.trans e).trans e2
    have nl : l ≠ lf := ne_of_none (e _ _ hl1) nlf
    refine q_forLn (K := K) (a := l) (xs := xs) (ev_var rfl) (sq_of (e12 _ _ hl)) (fun i σ' H' => ∃ b z acc, σ' = [some (.ref l), some (.ref c), some (.int (-14)), some (.ref b), z, some (.ref lf)] ∧ Ek lf H2 H' ∧ H' lf = some (.lst acc) ∧ Each i (fun j => IsW K (Tb.val ms kk (-14 + (j : Int)))) acc H' ∧ WAt K H' b (Tb.val ms kk (-14 + (i : Int))))
      (fun H3 e3 => ⟨b, z, [], rfl, ekx e3, e3 _ _ hlf, ⟨rfl, fun i x hx => by simp at hx⟩, ?_⟩) (fun i σ' H' _ ⟨_, _, _, _, ek, _⟩ => sq_of (ek _ _ (e12 _ _ hl) nl)) ?_ ?_
    · have : (-14 : Int) + ((0 : Nat) : Int) = -14 := by omega
      rw [this]
      exact (hb.mono e2).mono e3
    · rintro i x σ' H' hxi ⟨b, z, acc, rfl, ek, hacc, hE, hb⟩
      have hi : i < 39 := by
        have := (List.getElem?_eq_some_iff.mp hxi).1
        omega
      have hl2 := e12 _ _ hl
      obtain ⟨y, rfl, hy⟩ := isw_monL _ _ _ _ _ hlf ek (isw_mon _ _ _ e12 (hx.2 i x hxi))
      have s1 := (val_tame ok hk (row := -14 + (i : Int)) (by omega) (by omega)).s
      have s2 := (val_tame ok ha (row := -14 + (i : Int)) (by omega) (by omega)).s
      refine q_appR (R := fun v _ => v = .ref b) hacc (ev_var rfl) (er_of (ev_var rfl) fun _ _ => rfl) (by rw [hE.1]; omega) fun v H5 e5 hv => ?_
      subst hv
      have hacc5 := e5 _ _ hacc
      have ku : Ek lf H5 (upd H5 lf (.lst (acc ++ [.ref b]))) := Ek.upd
      refine s_asgR (ew_2 (ew_var rfl (ku.watL hacc5 (hb.mono e5))) (ew_var rfl (ku.watL hacc5 (hy.mono e5))) s1 s2 trivial) fun v H6 e6 ⟨c6, hv6, hc6⟩ => ?_
      subst hv6
      refine ⟨c6, _, acc ++ [.ref b], rfl, ((ek.trans (ekx e5)).set).trans (ekx e6), e6 _ _ upd_same, (((hE.ex e5 isw_mons).app hacc5 ku isw_monLs ⟨b, rfl, hb.mono e5⟩).ex e6 isw_mons), ?_⟩
      have e1' : (-14 : Int) + ((i + 1 : Nat) : Int) = (-14 + (i : Int)) + 1 := by omega
      rw [e1', fe, along_step, ← fe]
      exact hc6
    · rintro σ' H' ⟨b, z, acc, rfl, ek, hacc, hE, hb⟩
      rw [hxl] at hE
      have nlf0 : H lf = none := fresh_back (e1.trans e) nlf
      exact ⟨_, rfl, k lf acc H' nlf0 (fun u o hu => ek _ _ (e12 _ _ hu) (ne_of_none hu nlf0)) hacc hE⟩
end
end Tb

/-! ## TbLaw7 -/
set_option Elab.async false
set_option linter.all false
set_option maxRecDepth 100000
set_option maxHeartbeats 4000000
namespace Tb
open PySem PySem.Spec PyProof.Rows L2 Evl
def DueAt (K : PySem.W.Frag) (H : Hp) (d : Addr) (nm : List Str) (ms : List Made) (i : Nat) : Prop := ∃ kvs : List (Key × V), H d = some (.dK kvs) ∧ kvs.length ≤ i ∧ ∀ k : Nat, k < i → ∃ p xs, valV kvs (Sum.inr (nmAt nm k) : Key) = some (.ref p) ∧ H p = some (.lst xs) ∧ RowW K (Tb.val ms k) (-14) 25 xs H
section
variable {K : PySem.W.Frag} {CL CZ : Addr} {σ : L2.St} {H H' : Hp} {ta tb te td ty tv tl : TE} {d l : Addr} {nm : List Str} {ms : List Made} {kvs : List (Key × V)} {s : Str} {D : Ends} {i : Nat}
theorem DueAt.mono (h : DueAt K H d nm ms i) (e : Ex H H') : DueAt K H' d nm ms i := by
  obtain ⟨kvs, h1, h2, h3⟩ := h
  exact ⟨kvs, e _ _ h1, h2, fun k hk => by
    obtain ⟨p, xs, a1, a2, a3⟩ := h3 k hk
    exact ⟨p, xs, a1, e _ _ a2, Each.ex a3 e isw_mons⟩⟩
/-- another list may change -/
theorem DueAt.ekl {q : Addr} {ys : List V} (h : DueAt K H d nm ms i) (hq : H q = some (.lst ys)) (n : ∀ kvs, H d = some (.dK kvs) → ∀ k : Nat, k < i → valV kvs (Sum.inr (nmAt nm k) : Key) ≠ some (.ref q)) (e : Ek q H H') : DueAt K H' d nm ms i := by
  obtain ⟨kvs, h1, h2, h3⟩ := h
  exact ⟨kvs, e _ _ h1 (ne_of h1 hq (by intro z; cases z)), h2, fun k hk => by
    obtain ⟨p, xs, a1, a2, a3⟩ := h3 k hk
    refine ⟨p, xs, a1, e _ _ a2 (fun z => n kvs h1 k hk (by rw [a1, z])), Each.ekl a3 hq e isw_monLs⟩⟩
theorem s_dputN {R : List V → Hp → Prop} (hv : EvN tv σ H R) (hd : Ev td σ H (.ref d)) (h : H d = some (.dK kvs)) (hy : Ev ty σ H (.str s)) (hl : kvs.length < 100000) (m : ∀ xs H1 H2, Ex H1 H2 → R xs H1 → R xs H2)
    (k : ∀ p xs H1, H p = none → Ex H H1 → H1 p = some (.lst xs) → R xs H1 → D.nx σ (upd H1 d (.dK (putK kvs (Sum.inr s : Key) (.ref p))))) : sDPut td ty tv D σ H := hv H (Ex.refl H) _ fun p xs H1 n e1 hp r => hd H1 e1 _ fun H2 e2 => hy H2 (e1.trans e2) _ fun H3 e3 =>
  ⟨d, _, rfl, DPut.k (k := (Sum.inr s : Key)) (((e1.trans e2).trans e3) _ _ h) (sz_lt hl), k p xs H3 n ((e1.trans e2).trans e3) ((e2.trans e3) _ _ hp) (m xs _ _ (e2.trans e3) r)⟩
theorem roww_mon {f : Int → Rat} {lo hi : Int} : ∀ xs (H1 H2 : Hp), Ex H1 H2 → RowW K f lo hi xs H1 → RowW K f lo hi xs H2 := fun xs H1 H2 e h => Each.ex h e isw_mons
/-- i columns reckoned -/
def DInv (K : PySem.W.Frag) (H2 : Hp) (l d : Addr) (nm : List Str) (ms : List Made) (i : Nat) (σ' : L2.St) (H' : Hp) : Prop := ∃ (z4 z5 z6 z7 z8 : Option V), σ' = [some (.ref l), some (.int (-14)), some (.int 25), some (.ref d), z4, z5, z6, z7, z8] ∧ Ek d H2 H' ∧ DueAt K H' d nm ms i
theorem DInv.step {H2 H5 : Hp} {σ' : L2.St} {z4 z5 z6 z7 z8 : Option V} {p : Addr} {xs : List V} (ek : Ek d H2 H') (hD : H' d = some (.dK kvs)) (hkl : kvs.length ≤ i) (hall : ∀ k : Nat, k < i → ∃ p xs, valV kvs (Sum.inr (nmAt nm k) : Key) = some (.ref p) ∧ H' p = some (.lst xs) ∧ RowW K (Tb.val ms k) (-14) 25 xs H')
    (e5 : Ex H' H5) (hp : H5 p = some (.lst xs)) (hx : RowW K (Tb.val ms i) (-14) 25 xs H5) (hin : i < nm.length) (nd : nm.Nodup) (hσ : σ' = [some (.ref l), some (.int (-14)), some (.int 25), some (.ref d), z4, z5, z6, z7, z8]) :
    DInv K H2 l d nm ms (i + 1) σ' (upd H5 d (.dK (putK kvs (Sum.inr (nmAt nm i) : Key) (.ref p)))) := by
  have ku : Ek d H5 (upd H5 d (.dK (putK kvs (Sum.inr (nmAt nm i) : Key) (.ref p)))) := Ek.upd
  have d5 := e5 _ _ hD
  have row : ∀ {f : Int → Rat} {ys : List V}, RowW K f (-14) 25 ys H5 → RowW K f (-14) 25 ys (upd H5 d (.dK (putK kvs (Sum.inr (nmAt nm i) : Key) (.ref p)))) := fun h => ⟨h.1, fun j y hy => by
    obtain ⟨a, ha, hw⟩ := h.2 j y hy
    exact ⟨a, ha, ku.watG d5 odd_dK hw⟩⟩
  have ne : ∀ {q : Addr} {ys : List V}, H5 q = some (.lst ys) → q ≠ d := fun h => ne_of h d5 (by intro z; cases z)
  refine ⟨_, _, _, _, _, hσ, (ek.trans (ekx e5)).trans ku, _, upd_same, Nat.le_trans (length_putK _ _ _) (by omega), fun k hk => ?_⟩
  rw [valV_put]
  by_cases c : k = i
  · subst c
    rw [if_pos rfl]
    exact ⟨p, xs, rfl, ku _ _ hp (ne hp), row hx⟩
  · have hk' : k < i := by omega
    have nn : (Sum.inr (nmAt nm k) : Key) ≠ Sum.inr (nmAt nm i) := fun z => by
      have z := Sum.inr.inj z
      have := nmAt_take hk' (Nat.le_of_lt hin)
      rw [z] at this
      exact nm_notin nd hin this
    rw [if_neg nn]
    obtain ⟨q, ys, a1, a2, a3⟩ := hall k hk'
    exact ⟨q, ys, a1, ku _ _ (e5 _ _ a2) (ne (e5 _ _ a2)), row (roww_mon _ _ _ e5 a3)⟩
end
def spAll (K : PySem.W.Frag) (CL CZ : Addr) : Sp := fun vs H Q _ => ∃ l nm ms fpf, vs = [.ref l, .int (-14), .int 25] ∧ ColsAt K CL CZ H l nm ms fpf ∧ NmOk nm ms ∧ TabOk ms ∧ ∀ d H', H d = none → Ex H H' → DueAt K H' d nm ms ms.length → Q (.ref d) H'
section
variable {P : Program} {w : World} {K : PySem.W.Frag} {mg : Str → Option Value} {base : Heap} {CL CZ CT NO MA : Addr} {f : Addr} {fd : FuncData}
theorem sc_l_all_worths : FnScope ["_law_columns", "_law_first", "_law_end", "_law_found", "_law_name", "_law_made", "_law_row", "_law_one", "_law_other"] ["_law_columns", "_law_first", "_law_end"] (defScope s_l_all_worths) := ⟨rfl, rfl, rfl, by decide +kernel, rfl, by decide +kernel, by decide +kernel⟩
theorem ok_l_all_worths (T : Txt K w mg CL CZ CT NO MA) (h_l_add : FnAdd P w K mg base) (h_l_take : FnTake P w K mg base) (h_l_by : FnBy P w K mg base)
    (h_l_bent : Fn P w K mg base 3 "_law_bent" ["_law_corners", "_law_here"] (spBent K)) (h_l_run : Fn P w K mg base 3 "_law_run" ["_law_some", "_law_begin", "_law_first"] (spRunL K))
    (h_Line_value : Me P w K mg base CL 7 "value" ["self", "row"] (spLVal K CL)) (h_Zones_value : Me P w K mg base CZ 5 "value" ["self", "row"] (spZVal K CZ))
    (F : FunD K "_law_all_worths" "_law_all_worths" (defArgs s_l_all_worths) (defBody s_l_all_worths) (defScope s_l_all_worths) [] [] f fd) : FnOk P w K mg base CX0 8 f fd ["_law_columns", "_law_first", "_law_end"] (spAll K CL CZ) := by
  refine F.ok sc_l_all_worths (fun vs H Q E h => ?_) (fun cdv A outer s H vs Q E hr h => ?_)
  · obtain ⟨_, _, _, _, rfl, _⟩ := h
    rfl
  obtain ⟨l, nm, ms, fpf, rfl, ⟨us, hl, hE⟩, hN, ok, k⟩ := h
  have hu := hu_of hr
  refine ⟨_, PSs.nox (pss_cons (ps_set (i := 3) sc_l_all_worths.nd rfl (Or.inl rfl) pe_dnewK)
    (pss_cons (ps_for PassesOwn.never rfl (pi_list (pv 0)) (pg_tup rfl (pgs_cons (pg_name (i := 4) sc_l_all_worths.nd rfl (Or.inl rfl)) (pgs_cons (pg_name (i := 5) sc_l_all_worths.nd rfl (Or.inr rfl)) pgs_nil)))
    (pss_one (ps_if (pt_not (pt_val (pe_callB call_isi (by rfl) T.f_isinstance (by decide +kernel) (pa_cons (pv 5) (pa_cons (pe_ty (n := "tuple") (by rfl) T.f_tuple (by decide +kernel)) pa_nil))))) (pss_one (ps_dput hu (pv 3) (pv 4) (pe_lc (own := [("_law_row", 6)]) (g := gName 6) (tt := tYes) rfl sc_l_all_worths.nd (pi_range2 rfl T.f_range (pa_cons (pv 1) (pa_cons (pv 2) pa_nil))) (blkOk_by (own := [("_law_row", 6)]) (N := ["_law_columns", "_law_first", "_law_end", "_law_found", "_law_name", "_law_made", "_law_row", "_law_one", "_law_other"]) (sc := defScope s_l_all_worths) (by decide +kernel)) (fun _ _ _ _ _ => (pg_name (i := 6) sc_l_all_worths.nd rfl (Or.inl rfl))) (fun _ _ _ _ _ => pts_nil) (fun _ _ _ _ _ => (PE.or (pe_me h_Line_value T.c_Line (hr.mono (by omega)) (pv 5) (pa_cons (pv 6) pa_nil)) (pe_me h_Zones_value T.c_Zones (hr.mono (by omega)) (pv 5) (pa_cons (pv 6) pa_nil))))) rfl)) (pss_one (ps_if (pt_cmpR op_eq (pe_ix ix_tup (pv 5) pe_int (fun _ _ => rfl)) pe_str (nomark _)) (pss_one (ps_dput hu (pv 3) (pv 4) (pe_lc (own := [("_law_one", 7), ("_law_other", 8)]) (g := gTup _ 2 (gCons (gName 7) (gCons (gName 8) gNil))) (tt := tYes) rfl sc_l_all_worths.nd (pi_zip rfl T.f_zip (pa_cons (pe_dget hu (pv 3) (pe_ix ix_tup (pv 5) pe_int (fun _ _ => rfl)) (fun _ _ => rfl)) (pa_cons (pe_dget hu (pv 3) (pe_ix ix_tup (pv 5) pe_int (fun _ _ => rfl)) (fun _ _ => rfl)) pa_nil))) (blkOk_by (own := [("_law_one", 7), ("_law_other", 8)]) (N := ["_law_columns", "_law_first", "_law_end", "_law_found", "_law_name", "_law_made", "_law_row", "_law_one", "_law_other"]) (sc := defScope s_l_all_worths) (by decide +kernel)) (fun _ _ _ _ _ => (pg_tup rfl (pgs_cons (pg_name (i := 7) sc_l_all_worths.nd rfl (Or.inl rfl)) (pgs_cons (pg_name (i := 8) sc_l_all_worths.nd rfl (Or.inl rfl)) pgs_nil)))) (fun _ _ _ _ _ => pts_nil) (fun _ _ _ _ _ => (pe_fn h_l_add (hr.mono (by decide)) rfl (pa_cons (pv 7) (pa_cons (pv 8) pa_nil))))) rfl)) (pss_one (ps_if (pt_cmpR op_eq (pe_ix ix_tup (pv 5) pe_int (fun _ _ => rfl)) pe_str (nomark _)) (pss_one (ps_dput hu (pv 3) (pv 4) (pe_lc (own := [("_law_one", 7), ("_law_other", 8)]) (g := gTup _ 2 (gCons (gName 7) (gCons (gName 8) gNil))) (tt := tYes) rfl sc_l_all_worths.nd (pi_zip rfl T.f_zip (pa_cons (pe_dget hu (pv 3) (pe_ix ix_tup (pv 5) pe_int (fun _ _ => rfl)) (fun _ _ => rfl)) (pa_cons (pe_dget hu (pv 3) (pe_ix ix_tup (pv 5) pe_int (fun _ _ => rfl)) (fun _ _ => rfl)) pa_nil))) (blkOk_by (own := [("_law_one", 7), ("_law_other", 8)]) (N := ["_law_columns", "_law_first", "_law_end", "_law_found", "_law_name", "_law_made", "_law_row", "_law_one", "_law_other"]) (sc := defScope s_l_all_worths) (by decide +kernel)) (fun _ _ _ _ _ => (pg_tup rfl (pgs_cons (pg_name (i := 7) sc_l_all_worths.nd rfl (Or.inl rfl)) (pgs_cons (pg_name (i := 8) sc_l_all_worths.nd rfl (Or.inl rfl)) pgs_nil)))) (fun _ _ _ _ _ => pts_nil) (fun _ _ _ _ _ => (pe_fn h_l_take (hr.mono (by decide)) rfl (pa_cons (pv 7) (pa_cons (pv 8) pa_nil))))) rfl)) (pss_one (ps_if (pt_cmpR op_eq (pe_ix ix_tup (pv 5) pe_int (fun _ _ => rfl)) pe_str (nomark _)) (pss_one (ps_dput hu (pv 3) (pv 4) (pe_lc (own := [("_law_one", 7)]) (g := gName 7) (tt := tYes) rfl sc_l_all_worths.nd (pi_list (pe_dget hu (pv 3) (pe_ix ix_tup (pv 5) pe_int (fun _ _ => rfl)) (fun _ _ => rfl))) (blkOk_by (own := [("_law_one", 7)]) (N := ["_law_columns", "_law_first", "_law_end", "_law_found", "_law_name", "_law_made", "_law_row", "_law_one", "_law_other"]) (sc := defScope s_l_all_worths) (by decide +kernel)) (fun _ _ _ _ _ => (pg_name (i := 7) sc_l_all_worths.nd rfl (Or.inl rfl))) (fun _ _ _ _ _ => pts_nil) (fun _ _ _ _ _ => (pe_fn h_l_by (hr.mono (by decide)) rfl (pa_cons (pv 7) (pa_cons (pe_ix (ix_tupB (K := K)) (pv 5) pe_int (fun _ _ => rfl)) pa_nil))))) rfl)) (pss_one (ps_if (pt_cmpR op_eq (pe_ix ix_tup (pv 5) pe_int (fun _ _ => rfl)) pe_str (nomark _)) (pss_one (ps_dput hu (pv 3) (pv 4) (pe_lc (own := [("_law_one", 7)]) (g := gName 7) (tt := tYes) rfl sc_l_all_worths.nd (pi_list (pe_dget hu (pv 3) (pe_ix ix_tup (pv 5) pe_int (fun _ _ => rfl)) (fun _ _ => rfl))) (blkOk_by (own := [("_law_one", 7)]) (N := ["_law_columns", "_law_first", "_law_end", "_law_found", "_law_name", "_law_made", "_law_row", "_law_one", "_law_other"]) (sc := defScope s_l_all_worths) (by decide +kernel)) (fun _ _ _ _ _ => (pg_name (i := 7) sc_l_all_worths.nd rfl (Or.inl rfl))) (fun _ _ _ _ _ => pts_nil) (fun _ _ _ _ _ => (pe_fn h_l_bent (hr.mono (by decide)) rfl (pa_cons (pe_ix (ix_tupB (K := K)) (pv 5) pe_int (fun _ _ => rfl)) (pa_cons (pv 7) pa_nil))))) rfl)) (pss_one (ps_dput hu (pv 3) (pv 4) (pe_fn h_l_run (hr.mono (by decide)) rfl (pa_cons (pe_dget hu (pv 3) (pe_ix ix_tup (pv 5) pe_int (fun _ _ => rfl)) (fun _ _ => rfl)) (pa_cons (pe_ix ix_tup (pv 5) pe_int (fun _ _ => rfl)) (pa_cons (pv 1) pa_nil)))) rfl)))))))))))))
    (pss_one (ps_ret (pv 3))))), ?_⟩
  have n7 := ok.n7
  have nl := hN.len
  have hlen : us.length = ms.length := hE.1
  have hdn : EvR tDNewK (start ["_law_columns", "_law_first", "_law_end", "_law_found", "_law_name", "_law_made", "_law_row", "_law_one", "_law_other"] [V.ref l, V.int (-14), V.int 25]) H fun v H2 => ∃ d, v = .ref d ∧ H d = none ∧ H2 d = some (.dK []) := fun G e Q q d hd => q _ _ (Ex.new hd) ⟨d, rfl, fresh_back e hd, upd_same⟩
  refine q_asgR hdn fun v H2 e2 ⟨d, hv, nd, hd⟩ => ?_
  subst hv
  have nld : l ≠ d := ne_of_none hl nd
  have hl2 := e2 _ _ hl
  refine q_forL (K := K) (a := l) (xs := us) (ev_var rfl) (sq_of hl2) (DInv K H2 l d nm ms) (fun H3 e3 => ⟨none, none, none, none, none, rfl, ekx e3, [], e3 _ _ hd, Nat.le_refl _, fun k hk => absurd hk (Nat.not_lt_zero k)⟩)
    (fun i σ' H' _ ⟨_, _, _, _, _, _, ek, _⟩ => sq_of (ek _ _ hl2 nld)) ?_ ?_
  · rintro i x σ' H' hx ⟨z4, z5, z6, z7, z8, rfl, ek, kvs, hD, hkl, hall⟩
    have hi : i < ms.length := by
      have := (List.getElem?_eq_some_iff.mp hx).1
      omega
    have hin : i < nm.length := by omega
    have c2 := iscol_mon _ _ _ e2 (hE.2 i x hx)
    obtain ⟨q, v, rfl, hq, hm⟩ := c2.ekg hd odd_dK (c2.nin hd fun ys z => by cases z) ek
    have kl5 : kvs.length < 100000 := by omega
    refine ⟨q, _, rfl, hq, rfl, _, _, rfl, _, _, rfl, rfl, ?_⟩
    have fe : Tb.val ms i = ev (Tb.val ms) (made ms i) := val_eq ok.wf i
    have dget : ∀ {σ : L2.St} {G : Hp} {td ty : TE} {a : Nat}, Ex H' G → Ev td σ G (.ref d) → Ev ty σ G (.str (nmAt nm a)) → a < i → ∃ p xs, Ev (tDGet td ty) σ G (.ref p) ∧ G p = some (.lst xs) ∧ RowW K (Tb.val ms a) (-14) 25 xs G := fun {σ G td ty a} eG h1 h2 ha => by
      obtain ⟨p, xs, a1, a2, a3⟩ := hall a ha
      exact ⟨p, xs, ev_dget h1 (eG _ _ hD) h2 a1, eG _ _ a2, roww_mon _ _ _ eG a3⟩
    have sm : ∀ a : Nat, a < i → ∀ j : Nat, j < 39 → Sm (Tb.val ms a (-14 + (j : Int))) := fun a ha j hj => (val_tame ok (k := a) (by omega) (row := -14 + (j : Int)) (by omega) (by omega)).s
    have lt39 : ∀ {f : Int → Rat} {xs : List V} {G : Hp} {j : Nat} {x : V}, RowW K f (-14) 25 xs G → xs[j]? = some x → j < 39 := fun {f xs G j x} h hx => by
      have := (List.getElem?_eq_some_iff.mp hx).1
      rw [h.1] at this
      exact this
    refine s_if (b := !isTup (made ms i)) (et_not (et_B (ev_isTup T (ev_var rfl) hm))) (fun hb H3 e3 => ?_) (fun hb H3 e3 => ?_)
    · cases e : made ms i with
      | base g =>
        rw [e] at hm fe
        refine s_dputN (R := RowW K (Tb.val ms i) (-14) 25) (en_lcR2 (R := fun j => IsW K (Tb.val ms i (-14 + (j : Int)))) (lo := -14) (hi := 25) isw_mons isw_monLs (ea_cons (ev_var rfl) (ea_cons (ev_var rfl) ea_nil)) (by decide) (fun _ => rfl) fun j hj => ?_) (ev_var rfl) (e3 _ _ hD) (ev_var rfl) kl5 roww_mon
          fun p xs H4 np e4 hp hr => DInv.step ek hD hkl hall (e3.trans e4) hp hr hin hN.nd rfl
        have he : Tb.val ms i (-14 + (j : Int)) = g (-14 + (j : Int)) := by rw [fe] <;> rfl
        rw [he]
        exact er_base (ev_var rfl) (hm.mono e3) (ev_var rfl) (by omega) (by omega)
      | _ =>
        rw [e] at hb
        cases hb
    · have ht : isTup (made ms i) = true := by
        cases h : isTup (made ms i) with
        | true => rfl
        | false =>
          rw [h] at hb
          cases hb
      obtain ⟨p, z, rfl, h3, h3d⟩ := (hm.mono e3).third ht
      have x0 : ∀ {σ : L2.St} {G : Hp}, Ex H3 G → σ[5]? = some (some (.ref p)) → Ev (tOp (rIxT K) (tVar 5) (tC (.int 0))) σ G (.str (word (made ms i))) := fun e3 h => ev_op (ev_var h) ev_c (rv_ixT (ex_t e3 h3) rfl)
      have x1 : ∀ {σ : L2.St} {G : Hp}, Ex H3 G → σ[5]? = some (some (.ref p)) → Ev (tOp (rIxT K) (tVar 5) (tC (.int 1))) σ G (.str (nmAt nm (ref1 (made ms i)))) := fun e3 h => ev_op (ev_var h) ev_c (rv_ixT (ex_t e3 h3) rfl)
      have x2 : ∀ {σ : L2.St} {G : Hp}, Ex H3 G → σ[5]? = some (some (.ref p)) → Ev (tOp (rIxT K) (tVar 5) (tC (.int 2))) σ G z := fun e3 h => ev_op (ev_var h) ev_c (rv_ixT (ex_t e3 h3) rfl)
      have wf := ok.wf i
      refine s_if (b := decide (V.str (word (made ms i)) = V.str "sum")) (et_test (ev_op (x0 (Ex.refl H3) rfl) ev_c (rv_eq rfl))) (fun hb3 H4 e4 => ?_) (fun hb3 H4 e4 => ?_)
      · cases e : made ms i with
        | sum a b =>
          rw [e] at h3d fe wf
          simp only [e] at x1 x2
          subst h3d
          have ha : a < i := wf a (by simp [refs])
          have hb : b < i := wf b (by simp [refs])
          obtain ⟨p1, xs1, g1, l1, r1⟩ := dget (e3.trans e4) (ev_var (i := 3) rfl : Ev (tVar 3) [some (.ref l), some (.int (-14)), some (.int 25), some (.ref d), some (.str (nmAt nm i)), some (.ref p), z6, z7, z8] H4 (.ref d)) (x1 e4 rfl) ha
          obtain ⟨p2, xs2, g2, l2, r2⟩ := dget (e3.trans e4) (ev_var (i := 3) rfl : Ev (tVar 3) [some (.ref l), some (.int (-14)), some (.int 25), some (.ref d), some (.str (nmAt nm i)), some (.ref p), z6, z7, z8] H4 (.ref d)) (x2 e4 rfl) hb
          have len1 : xs1.length = 39 := r1.1
          have len2 : xs2.length = 39 := r2.1
          have en := en_lcZ (K := K) (R := fun j => IsW K (Tb.val ms i (-14 + (j : Int)))) (te := tCall (spW2 K Any2 (· + ·)) [] E0 (tCons (tVar 7) (tCons (tVar 8) tNil))) (vs := [7, 8]) (j := 7) (j2 := 8) isw_mons isw_monLs (ea_cons g1 (ea_cons g2 ea_nil)) (sq_of l1) (sq_of l2) (by omega) (by omega) (fun _ _ => rfl) fun j x y G eG hx hy => by
            obtain ⟨x', rfl, hx'⟩ := isw_mon _ _ _ eG (r1.2 j x hx)
            obtain ⟨y', rfl, hy'⟩ := isw_mon _ _ _ eG (r2.2 j y hy)
            have hj := lt39 r1 hx
            have he : Tb.val ms i (-14 + (j : Int)) = Tb.val ms a (-14 + (j : Int)) + Tb.val ms b (-14 + (j : Int)) := by rw [fe] <;> rfl
            show EW K _ _ _ (Tb.val ms i (-14 + (j : Int)))
            rw [he]
            exact ew_2 (ew_var rfl hx') (ew_var rfl hy') (sm a ha j hj) (sm b hb j hj) trivial
          rw [len1] at en
          exact s_dputN (R := Each 39 fun j => IsW K (Tb.val ms i (-14 + (j : Int)))) en (ev_var rfl) ((e3.trans e4) _ _ hD) (ev_var rfl) kl5 (fun _ _ _ e h => Each.ex h e isw_mons) fun p xs H5 np e5 hp hr => DInv.step ek hD hkl hall ((e3.trans e4).trans e5) hp hr hin hN.nd rfl
        | base g =>
          rw [e] at ht
          cases ht
        | less a b =>
          rw [e] at hb3
          exact (wn hb3 (show ("less" : Str) ≠ "sum" by decide +kernel)).elim
        | times a b =>
          rw [e] at hb3
          exact (wn hb3 (show ("times" : Str) ≠ "sum" by decide +kernel)).elim
        | along a b =>
          rw [e] at hb3
          exact (wn hb3 (show ("along" : Str) ≠ "sum" by decide +kernel)).elim
        | by_ a b =>
          rw [e] at hb3
          exact (wn hb3 (show ("by" : Str) ≠ "sum" by decide +kernel)).elim
      refine s_if (b := decide (V.str (word (made ms i)) = V.str "less")) (et_test (ev_op (x0 e4 rfl) ev_c (rv_eq rfl))) (fun hb4 H5 e5 => ?_) (fun hb4 H5 e5 => ?_)
      · cases e : made ms i with
        | less a b =>
          rw [e] at h3d fe wf
          simp only [e] at x1 x2
          subst h3d
          have ha : a < i := wf a (by simp [refs])
          have hb : b < i := wf b (by simp [refs])
          have e35 := (e3.trans e4).trans e5
          obtain ⟨p1, xs1, g1, l1, r1⟩ := dget e35 (ev_var (i := 3) rfl : Ev (tVar 3) [some (.ref l), some (.int (-14)), some (.int 25), some (.ref d), some (.str (nmAt nm i)), some (.ref p), z6, z7, z8] H5 (.ref d)) (x1 (e4.trans e5) rfl) ha
          obtain ⟨p2, xs2, g2, l2, r2⟩ := dget e35 (ev_var (i := 3) rfl : Ev (tVar 3) [some (.ref l), some (.int (-14)), some (.int 25), some (.ref d), some (.str (nmAt nm i)), some (.ref p), z6, z7, z8] H5 (.ref d)) (x2 (e4.trans e5) rfl) hb
          have len1 : xs1.length = 39 := r1.1
          have len2 : xs2.length = 39 := r2.1
          have en := en_lcZ (K := K) (R := fun j => IsW K (Tb.val ms i (-14 + (j : Int)))) (te := tCall (spW2 K Any2 (· - ·)) [] E0 (tCons (tVar 7) (tCons (tVar 8) tNil))) (vs := [7, 8]) (j := 7) (j2 := 8) isw_mons isw_monLs (ea_cons g1 (ea_cons g2 ea_nil)) (sq_of l1) (sq_of l2) (by omega) (by omega) (fun _ _ => rfl) fun j x y G eG hx hy => by
            obtain ⟨x', rfl, hx'⟩ := isw_mon _ _ _ eG (r1.2 j x hx)
            obtain ⟨y', rfl, hy'⟩ := isw_mon _ _ _ eG (r2.2 j y hy)
            have hj := lt39 r1 hx
            have he : Tb.val ms i (-14 + (j : Int)) = Tb.val ms a (-14 + (j : Int)) - Tb.val ms b (-14 + (j : Int)) := by rw [fe] <;> rfl
            show EW K _ _ _ (Tb.val ms i (-14 + (j : Int)))
            rw [he]
            exact ew_2 (ew_var rfl hx') (ew_var rfl hy') (sm a ha j hj) (sm b hb j hj) trivial
          rw [len1] at en
          exact s_dputN (R := Each 39 fun j => IsW K (Tb.val ms i (-14 + (j : Int)))) en (ev_var rfl) (e35 _ _ hD) (ev_var rfl) kl5 (fun _ _ _ e h => Each.ex h e isw_mons) fun p xs H6 np e6 hp hr => DInv.step ek hD hkl hall (e35.trans e6) hp hr hin hN.nd rfl
        | base g =>
          rw [e] at ht
          cases ht
        | sum a b =>
          rw [e] at hb4
          exact (wn hb4 (show ("sum" : Str) ≠ "less" by decide +kernel)).elim
        | times a b =>
          rw [e] at hb4
          exact (wn hb4 (show ("times" : Str) ≠ "less" by decide +kernel)).elim
        | along a b =>
          rw [e] at hb4
          exact (wn hb4 (show ("along" : Str) ≠ "less" by decide +kernel)).elim
        | by_ a b =>
          rw [e] at hb4
          exact (wn hb4 (show ("by" : Str) ≠ "less" by decide +kernel)).elim
      have e35 := (e3.trans e4).trans e5
      have e45 := e4.trans e5
      refine s_if (b := decide (V.str (word (made ms i)) = V.str "times")) (et_test (ev_op (x0 e45 rfl) ev_c (rv_eq rfl))) (fun hb5 H6 e6 => ?_) (fun hb5 H6 e6 => ?_)
      · cases e : made ms i with
        | times a qq =>
          rw [e] at h3d fe wf
          simp only [e] at x1 x2
          obtain ⟨cq, rfl, hcq⟩ := h3d
          have ha : a < i := wf a (by simp [refs])
          have sq := (ok.times i a qq e).s
          obtain ⟨p1, xs1, g1, l1, r1⟩ := dget (e35.trans e6) (ev_var (i := 3) rfl : Ev (tVar 3) [some (.ref l), some (.int (-14)), some (.int 25), some (.ref d), some (.str (nmAt nm i)), some (.ref p), z6, z7, z8] H6 (.ref d)) (x1 (e45.trans e6) rfl) ha
          have len1 : xs1.length = 39 := r1.1
          have en := en_lcL (K := K) (R := fun j => IsW K (Tb.val ms i (-14 + (j : Int)))) (te := tCall (spW2 K Any2 (· * ·)) [] E0 (tCons (tVar 7) (tCons (tOp (rIxT K) (tVar 5) (tC (.int 2))) tNil))) (vs := [7]) (j := 7) isw_mons isw_monLs g1 (sq_of l1) (by omega) (fun _ => rfl) fun j x G eG hx => by
            obtain ⟨x', rfl, hx'⟩ := isw_mon _ _ _ eG (r1.2 j x hx)
            have hj := lt39 r1 hx
            have he : Tb.val ms i (-14 + (j : Int)) = Tb.val ms a (-14 + (j : Int)) * qq := by rw [fe] <;> rfl
            show EW K _ _ _ (Tb.val ms i (-14 + (j : Int)))
            rw [he]
            exact ew_2 (ew_var rfl hx') (ew_of (x2 ((e45.trans e6).trans eG) rfl) (hcq.mono ((e45.trans e6).trans eG))) (sm a ha j hj) sq trivial
          rw [len1] at en
          exact s_dputN (R := Each 39 fun j => IsW K (Tb.val ms i (-14 + (j : Int)))) en (ev_var rfl) ((e35.trans e6) _ _ hD) (ev_var rfl) kl5 (fun _ _ _ e h => Each.ex h e isw_mons) fun p xs H7 np e7 hp hr => DInv.step ek hD hkl hall ((e35.trans e6).trans e7) hp hr hin hN.nd rfl
        | base g =>
          rw [e] at ht
          cases ht
        | sum a b =>
          rw [e] at hb5
          exact (wn hb5 (show ("sum" : Str) ≠ "times" by decide +kernel)).elim
        | less a b =>
          rw [e] at hb5
          exact (wn hb5 (show ("less" : Str) ≠ "times" by decide +kernel)).elim
        | along a b =>
          rw [e] at hb5
          exact (wn hb5 (show ("along" : Str) ≠ "times" by decide +kernel)).elim
        | by_ a b =>
          rw [e] at hb5
          exact (wn hb5 (show ("by" : Str) ≠ "times" by decide +kernel)).elim
      have e36 := e35.trans e6
      have e46 := e45.trans e6
      refine s_if (b := decide (V.str (word (made ms i)) = V.str "by")) (et_test (ev_op (x0 e46 rfl) ev_c (rv_eq rfl))) (fun hb6 H7 e7 => ?_) (fun hb6 H7 e7 => ?_)
      · cases e : made ms i with
        | by_ a cs =>
          rw [e] at h3d fe wf
          simp only [e] at x1 x2
          obtain ⟨lc, rfl, hcs, cok, _⟩ := h3d
          have ha : a < i := wf a (by simp [refs])
          obtain ⟨p1, xs1, g1, l1, r1⟩ := dget (e36.trans e7) (ev_var (i := 3) rfl : Ev (tVar 3) [some (.ref l), some (.int (-14)), some (.int 25), some (.ref d), some (.str (nmAt nm i)), some (.ref p), z6, z7, z8] H7 (.ref d)) (x1 (e46.trans e7) rfl) ha
          have len1 : xs1.length = 39 := r1.1
          have en := en_lcL (K := K) (R := fun j => IsW K (Tb.val ms i (-14 + (j : Int)))) (te := tCall (spBent K) [] E0 (tCons (tOp (rIxT K) (tVar 5) (tC (.int 2))) (tCons (tVar 7) tNil))) (vs := [7]) (j := 7) isw_mons isw_monLs g1 (sq_of l1) (by omega) (fun _ => rfl) fun j x G eG hx => by
            obtain ⟨x', rfl, hx'⟩ := isw_mon _ _ _ eG (r1.2 j x hx)
            have hj := lt39 r1 hx
            have tm := val_tame ok (k := a) (by omega) (row := -14 + (j : Int)) (by omega) (by omega)
            have he : Tb.val ms i (-14 + (j : Int)) = bent cs (Tb.val ms a (-14 + (j : Int))) := by rw [fe] <;> rfl
            show EW K _ _ _ (Tb.val ms i (-14 + (j : Int)))
            rw [he]
            exact er_call2 (A := ABent K) (B := fun d => IsW K (bent d.1 d.2)) (R1 := fun v _ => v = .ref lc) (R2 := fun v _ => v = .ref x') (cs, Tb.val ms a (-14 + (j : Int))) (er_of (x2 ((e46.trans e7).trans eG) rfl) fun _ _ => rfl) (er_of (ev_var rfl) fun _ _ => rfl) eq_mon fun u y G2 eG2 hu hy =>
              ⟨lc, x', _, _, by rw [hu, hy], hcs.mono (((e46.trans e7).trans eG).trans eG2), cok, hx'.mono eG2, tm⟩
          rw [len1] at en
          exact s_dputN (R := Each 39 fun j => IsW K (Tb.val ms i (-14 + (j : Int)))) en (ev_var rfl) ((e36.trans e7) _ _ hD) (ev_var rfl) kl5 (fun _ _ _ e h => Each.ex h e isw_mons) fun p xs H8 np e8 hp hr => DInv.step ek hD hkl hall ((e36.trans e7).trans e8) hp hr hin hN.nd rfl
        | base g =>
          rw [e] at ht
          cases ht
        | sum a b =>
          rw [e] at hb6
          exact (wn hb6 (show ("sum" : Str) ≠ "by" by decide +kernel)).elim
        | less a b =>
          rw [e] at hb6
          exact (wn hb6 (show ("less" : Str) ≠ "by" by decide +kernel)).elim
        | along a b =>
          rw [e] at hb6
          exact (wn hb6 (show ("along" : Str) ≠ "by" by decide +kernel)).elim
        | times a b =>
          rw [e] at hb6
          exact (wn hb6 (show ("times" : Str) ≠ "by" by decide +kernel)).elim
      have e37 := e36.trans e7
      have e47 := e46.trans e7
      cases e : made ms i with
      | along a qq =>
        rw [e] at h3d fe wf
        simp only [e] at x1 x2
        obtain ⟨cq, rfl, hcq⟩ := h3d
        have ha : a < i := wf a (by simp [refs])
        obtain ⟨p1, xs1, g1, l1, r1⟩ := dget e37 (ev_var (i := 3) rfl : Ev (tVar 3) [some (.ref l), some (.int (-14)), some (.int 25), some (.ref d), some (.str (nmAt nm i)), some (.ref p), z6, z7, z8] H7 (.ref d)) (x1 e47 rfl) ha
        have en : EvN (tCall (spRunL K) [] E0 (tCons (tDGet (tVar 3) (tOp (rIxT K) (tVar 5) (tC (.int 1)))) (tCons (tOp (rIxT K) (tVar 5) (tC (.int 2))) (tCons (tVar 1) tNil)))) [some (.ref l), some (.int (-14)), some (.int 25), some (.ref d), some (.str (nmAt nm i)), some (.ref p), z6, z7, z8] H7 (RowW K (Tb.val ms i) (-14) 25) := fun G eG Q q =>
          (ea_cons g1 (ea_cons (x2 e47 rfl) (ea_cons (ev_var rfl) ea_nil))) G eG _ fun G2 e2 => ⟨(ms, i, a, qq), ⟨p1, cq, xs1, rfl, (eG.trans e2) _ _ l1, roww_mon _ _ _ (eG.trans e2) r1, hcq.mono (e47.trans (eG.trans e2)), ok, hi, e⟩, fun p xs G3 np e3 hp hr => q p xs G3 (fresh_back e2 np) (e2.trans e3) hp hr⟩
        exact s_dputN (R := Each 39 fun j => IsW K (Tb.val ms i (-14 + (j : Int)))) en (ev_var rfl) (e37 _ _ hD) (ev_var rfl) kl5 (fun _ _ _ e h => Each.ex h e isw_mons) fun p xs H8 np e8 hp hr => DInv.step ek hD hkl hall (e37.trans e8) hp hr hin hN.nd rfl
      | base g =>
        rw [e] at ht
        cases ht
      | sum a b =>
        rw [e] at hb3
        exact absurd rfl (of_decide_eq_false hb3)
      | less a b =>
        rw [e] at hb4
        exact absurd rfl (of_decide_eq_false hb4)
      | times a b =>
        rw [e] at hb5
        exact absurd rfl (of_decide_eq_false hb5)
      | by_ a b =>
        rw [e] at hb6
        exact absurd rfl (of_decide_eq_false hb6)
  · rintro σ' H' ⟨z4, z5, z6, z7, z8, rfl, ek, hdue⟩
    rw [hlen] at hdue
    exact ⟨_, rfl, k d H' nd (fun u o hu => ek _ _ (e2 _ _ hu) (ne_of_none hu nd)) hdue⟩
end
end Tb

/-! ## TbLaw8 -/
set_option Elab.async false
set_option linter.all false
set_option maxRecDepth 100000
set_option maxHeartbeats 4000000
namespace Tb
open PySem PySem.Spec PyProof.Rows L2 Evl
/-! ### equal things compared -/
section
variable {K : PySem.W.Frag} {σ : L2.St} {H H' : Hp} {ta tb te tl : TE} {a : Addr} {v : V}
theorem eqv_shaped {d : PyData} (s : SeqAt.shaped d = true) : PyData.eqv d d = true := by
  have h : (d.canLay0 && decide (d.depth ≤ 64)) = true := s
  exact SeqAt.eqv_refl d (Bool.and_eq_true_iff.mp h).1
theorem shaped_of {d : PyData} (h : d.canLay0 = true) (k : d.depth ≤ 64) : SeqAt.shaped d = true := by
  show (d.canLay0 && decide (d.depth ≤ 64)) = true
  rw [Bool.and_eq_true]
  exact ⟨h, decide_eq_true k⟩
theorem ev_neR {R1 R2 : V → Hp → Prop} {d : PyData} (ha : EvR ta σ H R1) (hb : EvR tb σ H R2) (m : Mon R1) (k1 : ∀ v H1, R1 v H1 → Dp K H1 v d) (k2 : ∀ v H1, R2 v H1 → Dp K H1 v d) (s : SeqAt.shaped d = true) : Ev (tOp (rNeD K) ta tb) σ H (.bl false) := fun H1 e1 Q k =>
  ha H1 e1 _ fun v H2 e2 r1 => hb H2 (e1.trans e2) _ fun u H3 e3 r2 => ⟨d, d, k1 v H3 (m v _ _ e3 r1), k2 u H3 r2, s, s, by
    rw [eqv_shaped s]
    exact k H3 (e2.trans e3)⟩
theorem dpall_of : ∀ (xs : List V) (ds : List PyData), xs.length = ds.length → (∀ (i : Nat) x d, xs[i]? = some x → ds[i]? = some d → Dp K H x d) → DpAll K H xs ds
  | [], [], _, _ => .nil
  | [], _ :: _, h, _ => by cases h
  | _ :: _, [], h, _ => by cases h
  | x :: xs, d :: ds, h, k => .cons (k 0 x d rfl rfl) (dpall_of xs ds (Nat.succ.inj h) fun i x d hx hd => k (i + 1) x d hx hd)
theorem lay_all : ∀ {ds : List PyData}, (∀ d ∈ ds, d.canLay0 = true) → PyData.canLayAll0 ds = true
  | [], _ => by simp [PyData.canLayAll0]
  | d :: ds, h => by simp [PyData.canLayAll0, h d (List.mem_cons_self ..), lay_all fun x hx => h x (List.mem_cons_of_mem _ hx)]
theorem depth_all {n : Nat} : ∀ {ds : List PyData}, (∀ d ∈ ds, d.depth ≤ n) → PyData.depthAll ds ≤ n
  | [], _ => by simp [PyData.depthAll]
  | d :: ds, h => by
    have h1 := h d (List.mem_cons_self ..)
    have h2 := depth_all fun x hx => h x (List.mem_cons_of_mem _ hx)
    simp only [PyData.depthAll]
    omega
theorem wd_lay {q : Rat} : (wd q).canLay0 = true := by simp [wd, PyData.canLay0, PyData.canLayAll0]
theorem wd_depth {q : Rat} : (wd q).depth ≤ 2 := by simp [wd, PyData.depth, PyData.depthAll]
/-- a list of worths -/
def wsD (n : Nat) (g : Nat → Rat) : PyData := .list ((List.range n).map fun i => wd (g i))
theorem wsD_shaped {n : Nat} {g : Nat → Rat} : SeqAt.shaped (wsD n g) = true := by
  refine shaped_of ?_ ?_
  · show PyData.canLay0 (.list _) = true
    simp only [PyData.canLay0]
    refine lay_all fun d hd => ?_
    obtain ⟨i, _, rfl⟩ := List.mem_map.mp hd
    exact wd_lay
  · have := depth_all (n := 2) (ds := (List.range n).map fun i => wd (g i)) fun d hd => by
      obtain ⟨i, _, rfl⟩ := List.mem_map.mp hd
      exact wd_depth
    show PyData.depth (.list _) ≤ 64
    simp only [PyData.depth]
    omega
def RWs (K : PySem.W.Frag) (n : Nat) (g : Nat → Rat) : V → Hp → Prop := fun v H => ∃ p xs, v = .ref p ∧ H p = some (.lst xs) ∧ Each n (fun i => IsW K (g i)) xs H
theorem rws_mon {n : Nat} {g : Nat → Rat} : Mon (RWs K n g) := fun v H H' e ⟨p, xs, h1, h2, h3⟩ => ⟨p, xs, h1, e _ _ h2, h3.ex e isw_mons⟩
theorem rws_dp {n : Nat} {g : Nat → Rat} : ∀ v H1, RWs K n g v H1 → Dp K H1 v (wsD n g) := fun v H1 ⟨p, xs, h1, h2, h3⟩ => by
  subst h1
  refine .lst (sq_of h2) (dpall_of _ _ (by rw [h3.1]; simp) fun i x d hx hd => ?_)
  obtain ⟨a, rfl, hw⟩ := h3.2 i x hx
  have hi := (List.getElem?_eq_some_iff.mp hx).1
  rw [h3.1] at hi
  have : d = wd (g i) := by
    rw [List.getElem?_map, List.getElem?_range hi] at hd
    exact (Option.some.inj hd).symm
  subst this
  exact dp_w hw
theorem er_ofN {n : Nat} {g : Nat → Rat} (h : EvN te σ H (Each n fun i => IsW K (g i))) : EvR te σ H (RWs K n g) := fun H1 e1 Q q => h H1 e1 _ fun p xs H2 _ e2 h2 r => q _ H2 e2 ⟨p, xs, rfl, h2, r⟩
/-- a list of names -/
def nsD (nm : List Str) : PyData := .list (nm.map PyData.str)
theorem nsD_shaped {nm : List Str} (h : ∀ s ∈ nm, (PyData.str s).canLay0 = true) : SeqAt.shaped (nsD nm) = true := by
  refine shaped_of ?_ ?_
  · show PyData.canLay0 (.list _) = true
    simp only [PyData.canLay0]
    refine lay_all fun d hd => ?_
    obtain ⟨s, hs, rfl⟩ := List.mem_map.mp hd
    exact h s hs
  · have := depth_all (n := 0) (ds := nm.map PyData.str) fun d hd => by
      obtain ⟨s, _, rfl⟩ := List.mem_map.mp hd
      simp [PyData.depth]
    show PyData.depth (.list _) ≤ 64
    simp only [PyData.depth]
    omega
def RNs (nm : List Str) : V → Hp → Prop := fun v H => ∃ p, v = .ref p ∧ H p = some (.lst (nm.map V.str))
theorem rns_mon {nm : List Str} : Mon (RNs nm) := fun v H H' e ⟨p, h1, h2⟩ => ⟨p, h1, e _ _ h2⟩
theorem rns_dp {nm : List Str} : ∀ v H1, RNs nm v H1 → Dp K H1 v (nsD nm) := fun v H1 ⟨p, h1, h2⟩ => by
  subst h1
  refine .lst (sq_of h2) (dpall_of _ _ (by simp) fun i x d hx hd => ?_)
  rw [List.getElem?_map] at hx hd
  cases e : nm[i]? with
  | none =>
    rw [e] at hx
    cases hx
  | some s =>
    rw [e] at hx hd
    cases hx
    cases hd
    exact .str s
/-- a rule as data -/
def csD (cs : List (Rat × Rat)) : PyData := .list (cs.map fun c => .tuple [wd c.1, wd c.2])
def madeD (nm : List Str) : Made → PyData
  | .base _ => .none
  | .sum a b => .tuple [.str "sum", .str (nmAt nm a), .str (nmAt nm b)]
  | .less a b => .tuple [.str "less", .str (nmAt nm a), .str (nmAt nm b)]
  | .times a q => .tuple [.str "times", .str (nmAt nm a), wd q]
  | .along a q => .tuple [.str "along", .str (nmAt nm a), wd q]
  | .by_ a cs => .tuple [.str "by", .str (nmAt nm a), csD cs]
theorem csD_lay {cs : List (Rat × Rat)} : (csD cs).canLay0 = true := by
  show PyData.canLay0 (.list _) = true
  simp only [PyData.canLay0]
  refine lay_all fun d hd => ?_
  obtain ⟨c, _, rfl⟩ := List.mem_map.mp hd
  simp [PyData.canLay0, PyData.canLayAll0, wd_lay]
theorem csD_depth {cs : List (Rat × Rat)} : (csD cs).depth ≤ 10 := by
  have := depth_all (n := 5) (ds := cs.map fun c => .tuple [wd c.1, wd c.2]) fun d hd => by
    obtain ⟨c, _, rfl⟩ := List.mem_map.mp hd
    have h1 := wd_depth (q := c.1)
    have h2 := wd_depth (q := c.2)
    simp only [PyData.depth, PyData.depthAll]
    omega
  show PyData.depth (.list _) ≤ 10
  simp only [PyData.depth]
  omega
theorem csD_dp {l : Addr} {cs : List (Rat × Rat)} (h : CsAt K H l cs) : Dp K H (.ref l) (csD cs) := by
  obtain ⟨vs, h1, h2⟩ := h
  refine .lst (sq_of h1) (dpall_of _ _ (by rw [h2.1]; simp) fun i x d hx hd => ?_)
  obtain ⟨p, a, b, rfl, h3, h4, h5⟩ := h2.2 i x hx
  have hi := (List.getElem?_eq_some_iff.mp hx).1
  rw [h2.1] at hi
  have hg : cs.getD i (0, 0) = cs[i] := by simp [hi]
  have : d = .tuple [wd (cs.getD i (0, 0)).1, wd (cs.getD i (0, 0)).2] := by
    rw [List.getElem?_map, List.getElem?_eq_getElem hi] at hd
    rw [hg]
    exact (Option.some.inj hd).symm
  subst this
  exact .tup h3 (.cons (dp_w h4) (.cons (dp_w h5) .nil))
variable {CL CZ : Addr} {nm : List Str} {fp : List Addr} {m : Made}
theorem made_dp (h : MadeAt K CL CZ nm H v fp m) (ht : isTup m = true) : Dp K H v (madeD nm m) := by
  cases m with
  | base g => cases ht
  | sum a b =>
    obtain ⟨p, rfl, h2, h3⟩ := h
    exact .tup h3 (.cons (.str _) (.cons (.str _) (.cons (.str _) .nil)))
  | less a b =>
    obtain ⟨p, rfl, h2, h3⟩ := h
    exact .tup h3 (.cons (.str _) (.cons (.str _) (.cons (.str _) .nil)))
  | times a q =>
    obtain ⟨p, c, rfl, h2, h3, h4⟩ := h
    exact .tup h3 (.cons (.str _) (.cons (.str _) (.cons (dp_w h4) .nil)))
  | along a q =>
    obtain ⟨p, c, rfl, h2, h3, h4⟩ := h
    exact .tup h3 (.cons (.str _) (.cons (.str _) (.cons (dp_w h4) .nil)))
  | by_ a cs =>
    obtain ⟨p, l, rfl, h2, h3, h4, h5⟩ := h
    exact .tup h3 (.cons (.str _) (.cons (.str _) (.cons (csD_dp h4) .nil)))
theorem made_shaped (h : ∀ a, a ∈ refs m → (PyData.str (nmAt nm a)).canLay0 = true) : SeqAt.shaped (madeD nm m) = true := by
  have w1 : (PyData.str "sum").canLay0 = true := by decide +kernel
  have w2 : (PyData.str "less").canLay0 = true := by decide +kernel
  have w3 : (PyData.str "times").canLay0 = true := by decide +kernel
  have w4 : (PyData.str "along").canLay0 = true := by decide +kernel
  have w5 : (PyData.str "by").canLay0 = true := by decide +kernel
  have three : ∀ {x y z : PyData}, x.canLay0 = true → y.canLay0 = true → z.canLay0 = true → x.depth ≤ 20 → y.depth ≤ 20 → z.depth ≤ 20 → SeqAt.shaped (.tuple [x, y, z]) = true := fun {x y z} h1 h2 h3 d1 d2 d3 => by
    refine shaped_of ?_ ?_
    · simp [PyData.canLay0, PyData.canLayAll0, h1, h2, h3]
    · simp only [PyData.depth, PyData.depthAll]
      omega
  have sd : ∀ s : Str, (PyData.str s).depth ≤ 20 := fun s => by simp [PyData.depth]
  have qd : ∀ q : Rat, (wd q).depth ≤ 20 := fun q => Nat.le_trans wd_depth (by decide)
  cases m with
  | base g => rfl
  | sum a b => exact three w1 (h a (by simp [refs])) (h b (by simp [refs])) (sd _) (sd _) (sd _)
  | less a b => exact three w2 (h a (by simp [refs])) (h b (by simp [refs])) (sd _) (sd _) (sd _)
  | times a q => exact three w3 (h a (by simp [refs])) wd_lay (sd _) (sd _) (qd _)
  | along a q => exact three w4 (h a (by simp [refs])) wd_lay (sd _) (sd _) (qd _)
  | by_ a cs => exact three w5 (h a (by simp [refs])) csD_lay (sd _) (sd _) (Nat.le_trans csD_depth (by decide))
/-! ### handed things of which lists may be cleared -/
def WkAt (K : PySem.W.Frag) (CL CZ : Addr) (nm : List Str) (H : Hp) (v : V) (fp : List Addr) (m : Made) : Prop :=
  (∃ g, m = .base g) ∧ (∃ p C x fs, v = .ref p ∧ (C = CL ∨ C = CZ) ∧ Ins H p C (x :: fs)) ∨
  (∃ p x y z, isTup m = true ∧ isBy m = false ∧ v = .ref p ∧ SqT K H p [x, y, z] ∧ ((∃ s, z = .str s) ∨ ∃ c q, z = .ref c ∧ WAt K H c q)) ∨
  (∃ p x y l ys, isTup m = true ∧ isBy m = true ∧ v = .ref p ∧ fp = [l] ∧ SqT K H p [x, y, .ref l] ∧ H l = some (.lst ys))
theorem MadeAt.wk (h : MadeAt K CL CZ nm H v fp m) : WkAt K CL CZ nm H v fp m := by
  cases m with
  | base g =>
    refine .inl ⟨⟨g, rfl⟩, ?_⟩
    rcases h with ⟨p, L, rfl, h2, h3⟩ | ⟨p, Z, lb, ls, lm, rfl, h2, h3⟩
    · obtain ⟨l, h, s, t, b, g0, _⟩ := h2.ex
      exact ⟨p, CL, _, _, rfl, .inl rfl, g0⟩
    · obtain ⟨r, g, g0, _⟩ := h2.ex
      exact ⟨p, CZ, _, _, rfl, .inr rfl, g0⟩
  | sum a b =>
    obtain ⟨p, rfl, h2, h3⟩ := h
    exact .inr (.inl ⟨p, _, _, _, rfl, rfl, rfl, h3, .inl ⟨_, rfl⟩⟩)
  | less a b =>
    obtain ⟨p, rfl, h2, h3⟩ := h
    exact .inr (.inl ⟨p, _, _, _, rfl, rfl, rfl, h3, .inl ⟨_, rfl⟩⟩)
  | times a q =>
    obtain ⟨p, c, rfl, h2, h3, h4⟩ := h
    exact .inr (.inl ⟨p, _, _, _, rfl, rfl, rfl, h3, .inr ⟨c, q, rfl, h4⟩⟩)
  | along a q =>
    obtain ⟨p, c, rfl, h2, h3, h4⟩ := h
    exact .inr (.inl ⟨p, _, _, _, rfl, rfl, rfl, h3, .inr ⟨c, q, rfl, h4⟩⟩)
  | by_ a cs =>
    obtain ⟨p, l, rfl, h2, h3, ⟨ys, h4, _⟩, h5⟩ := h
    exact .inr (.inr ⟨p, _, _, l, ys, rfl, rfl, rfl, h2, h3, h4⟩)
theorem WkAt.mono (h : WkAt K CL CZ nm H v fp m) (e : Ex H H') : WkAt K CL CZ nm H' v fp m := by
  rcases h with ⟨g, p, C, x, fs, h1, h2, h3⟩ | ⟨p, x, y, z, t, b, h1, h2, h3⟩ | ⟨p, x, y, l, ys, t, b, h1, h2, h3, h4⟩
  · exact .inl ⟨g, p, C, x, fs, h1, h2, h3.mono e⟩
  · refine .inr (.inl ⟨p, x, y, z, t, b, h1, ex_t e h2, ?_⟩)
    rcases h3 with h3 | ⟨c, q, h3, h4⟩
    · exact .inl h3
    · exact .inr ⟨c, q, h3, h4.mono e⟩
  · exact .inr (.inr ⟨p, x, y, l, ys, t, b, h1, h2, ex_t e h3, e _ _ h4⟩)
/-- a list is cleared -/
theorem WkAt.clr {q : Addr} {xs : List V} (h : WkAt K CL CZ nm H v fp m) (hq : H q = some (.lst xs)) : WkAt K CL CZ nm (upd H q (.lst [])) v fp m := by
  have e : Ek q H (upd H q (.lst [])) := Ek.upd
  rcases h with ⟨g, p, C, x, fs, h1, h2, h3⟩ | ⟨p, x, y, z, t, b, h1, h2, h3⟩ | ⟨p, x, y, l, ys, t, b, h1, h2, h3, h4⟩
  · exact .inl ⟨g, p, C, x, fs, h1, h2, e.insG hq odd_lst h3⟩
  · refine .inr (.inl ⟨p, x, y, z, t, b, h1, e.tupG hq odd_lst h2, ?_⟩)
    rcases h3 with h3 | ⟨c, q, h3, h4⟩
    · exact .inl h3
    · exact .inr ⟨c, q, h3, e.watG hq odd_lst h4⟩
  · by_cases c : l = q
    · subst c
      exact .inr (.inr ⟨p, x, y, l, [], t, b, h1, h2, e.tupG hq odd_lst h3, upd_same⟩)
    · exact .inr (.inr ⟨p, x, y, l, ys, t, b, h1, h2, e.tupG hq odd_lst h3, e _ _ h4 c⟩)
variable {CT NO MA : Addr} {w : World} {mg : Str → Option Value}
theorem WkAt.ty (T : Txt K w mg CL CZ CT NO MA) (h : WkAt K CL CZ nm H v fp m) : ∀ H1, Ex H H1 → ∃ t, TyX K H1 v t ∧ PySem.W.kitOne K t (.type "tuple") = some (isTup m) := fun H1 e => by
  rcases h.mono e with ⟨⟨g, rfl⟩, p, C, x, fs, rfl, rfl | rfl, ⟨dx, h3⟩⟩ | ⟨p, x, y, z, t, b, rfl, h2, h3⟩ | ⟨p, x, y, l, ys, t, b, rfl, h2, h3, h4⟩
  · exact ⟨_, T.y_line h3, T.i_lt⟩
  · exact ⟨_, T.y_zones h3, T.i_zt⟩
  · rw [t]
    exact ⟨_, wat_ty h2, kit_ty k_tt⟩
  · rw [t]
    exact ⟨_, wat_ty h3, kit_ty k_tt⟩
/-- [e for x, y in list], where what holds of an item may lean on the new list's own address -/
theorem en_lcLF {R : Addr → Nat → V → Hp → Prop} {xs : List V} {j j2 : Nat} {vs : List Nat} (m : ∀ p i, Mon (R p i)) (ml : ∀ p i v (H H' : Hp) ys, H p = some (.lst ys) → Ek p H H' → R p i v H → R p i v H') (h : Ev tl σ H (.ref a)) (hx : SqL K H a xs) (hz : xs.length ≤ 50000)
    (hw : ∀ x y, wipe (((wipe σ vs).set j (some x)).set j2 (some y)) vs = wipe σ vs)
    (he : ∀ (p : Addr) (i : Nat) (v : V), H p = none → xs[i]? = some v → ∃ q x y, v = .ref q ∧ SqT K H q [x, y] ∧ ∀ H' acc, Ex H H' → H' p = some (.lst acc) → EvR te (((wipe σ vs).set j (some x)).set j2 (some y)) H' (R p i)) :
    ∀ H1, Ex H H1 → ∀ Q : VK, (∀ p ys H2, H1 p = none → Ex H1 H2 → H2 p = some (.lst ys) → Each xs.length (R p) ys H2 → Q (.ref p) H2) → tLc (iList K tl) (g2 K j j2) tYes te vs σ H1 Q := fun H0 e Q q => h H0 e _ fun H1 e1 => ⟨a, rfl, ⟨xs, ex_l (e.trans e1) hx⟩, fun Dl hD =>
  lc_list (xs := xs) (Lw H1 (R Dl) Dl) (lw_start hD) (fun i H' _ p => ex_l ((e.trans e1).trans p.2.1) hx) (fun i x H' hi p => by
    obtain ⟨q, x1, y1, rfl, hq, hE⟩ := he Dl i x (fresh_back (e.trans e1) hD) hi
    obtain ⟨p1, p2, acc, p3, p4⟩ := p
    refine ⟨q, [x1, y1], rfl, ex_t ((e.trans e1).trans p2) hq, rfl, x1, [y1], rfl, y1, [], rfl, rfl, hw x1 y1, ?_⟩
    show te _ H' fun y H4 => ∃ acc, H4 Dl = some (.lst acc) ∧ acc.length < sizeLine ∧ Lw H1 (R Dl) Dl (i + 1) (upd H4 Dl (.lst (acc ++ [y])))
    have hlt := (List.getElem?_eq_some_iff.mp hi).1
    refine hE H' acc ((e.trans e1).trans p2) p3 H' (Ex.refl H') _ fun y H4 e4 r => ⟨acc, e4 _ _ p3, sz_lt (by rw [p4.1]; omega), p1, Ex.mut (p2.trans e4) p1, acc ++ [y], upd_same, ?_⟩
    exact Each.snoc (p4.ex e4 (m Dl)) (fun k z _ hz => ml Dl k z _ _ _ (e4 _ _ p3) Ek.upd hz) (ml Dl i y _ _ _ (e4 _ _ p3) Ek.upd r))
    (fun H' ⟨p1, p2, acc, p3, p4⟩ => q Dl acc H' (fresh_back e1 p1) (e1.trans p2) p3 p4)⟩
/-- xs.clear() -/
theorem s_clr {D : Ends} {l : Addr} {xs : List V} (ha : Ev ta σ H (.ref l)) (hl : H l = some (.lst xs)) (k : ∀ H1, Ex H H1 → H1 l = some (.lst xs) → D.nx σ (upd H1 l (.lst []))) : tDrop (tBM0 K "list" rClear ta) D σ H := ha H (Ex.refl H) _ fun H1 e1 => ⟨Or.inl ⟨rfl, xs, sq_of (e1 _ _ hl)⟩, l, xs, rfl, rfl, e1 _ _ hl, k H1 e1 (e1 _ _ hl)⟩
theorem q_clr {D : Ends} {tz : TS} {l : Addr} {xs : List V} (ha : Ev ta σ H (.ref l)) (hl : H l = some (.lst xs)) (k : ∀ H1, Ex H H1 → H1 l = some (.lst xs) → tz D σ (upd H1 l (.lst []))) : tSeq (tDrop (tBM0 K "list" rClear ta)) tz D σ H := s_clr (D := { D with nx := tz D }) ha hl k
/-- a new list cleared -/
theorem q_clrN {D : Ends} {tz : TS} {R : List V → Hp → Prop} (ha : EvN ta σ H R) (k : ∀ H1, Ex H H1 → tz D σ H1) : tSeq (tDrop (tBM0 K "list" rClear ta)) tz D σ H := ha H (Ex.refl H) _ fun p xs H1 n e1 hp _ => ⟨Or.inl ⟨rfl, xs, sq_of hp⟩, p, xs, rfl, rfl, hp, k _ (Ex.mut e1 n)⟩
end
end Tb

/-! ## TbLaw9 -/
set_option Elab.async false
set_option linter.all false
set_option maxRecDepth 100000
set_option maxHeartbeats 4000000
namespace Tb
open PySem PySem.Spec PyProof.Rows L2 Evl
def spLaw (K : PySem.W.Frag) : Sp := fun vs H Q _ => ∃ (a : Addr) (ns : List Int), vs = [.ref a] ∧ SqL K H a (ns.map V.int) ∧ ∀ H', Q (.bl true) H'
def isD (cs : List Int) : PyData := .list (cs.map PyData.int)
theorem isD_shaped (cs : List Int) : SeqAt.shaped (isD cs) = true := by
  refine shaped_of ?_ ?_
  · show PyData.canLay0 (.list _) = true
    simp only [PyData.canLay0]
    refine lay_all fun d hd => ?_
    obtain ⟨s, hs, rfl⟩ := List.mem_map.mp hd
    simp [PyData.canLay0]
  · have := depth_all (n := 0) (ds := cs.map PyData.int) fun d hd => by
      obtain ⟨s, _, rfl⟩ := List.mem_map.mp hd
      simp [PyData.depth]
    show PyData.depth (.list _) ≤ 64
    simp only [PyData.depth]
    omega
theorem cut_2 {xs : List V} : cutV xs none (some 2) = xs.take 2 := by
  unfold cutV
  rw [HT.sIx_none, show HT.sIx xs.length xs.length (some 2) = min 2 xs.length from HT.sIx_nat xs.length xs.length 2]
  show List.take (min 2 xs.length - 0) (List.drop 0 xs) = xs.take 2
  rw [List.drop_zero, Nat.sub_zero]
  rcases Nat.le_total 2 xs.length with h | h
  · rw [Nat.min_eq_left h]
  · rw [Nat.min_eq_right h, List.take_length, List.take_of_length_le h]
section
variable {K : PySem.W.Frag} {CL CZ CT : Addr} {σ : L2.St} {H H' : Hp} {ta tb te tl ti : TE} {a l d t ln : Addr} {v : V} {nm : List Str} {ms : List Made} {fpf : Nat → List Addr} {D : Ends} {tz : TS} {E : XK}
theorem isD_dp {cs : List Int} (h : SqL K H a (cs.map V.int)) : Dp K H (.ref a) (isD cs) := .lst h (dpall_of _ _ (by simp) fun i x d hx hd => by
  rw [List.getElem?_map] at hx hd
  cases e : cs[i]? with
  | none =>
    rw [e] at hx
    cases hx
  | some s =>
    rw [e] at hx hd
    cases hx
    cases hd
    exact .int s)
theorem ColsAt.mono (h : ColsAt K CL CZ H l nm ms fpf) (e : Ex H H') : ColsAt K CL CZ H' l nm ms fpf := by
  obtain ⟨us, h1, h2⟩ := h
  exact ⟨us, e _ _ h1, h2.ex e fun _ => iscol_mon⟩
theorem q_asgX {i : Nat} {P : Addr → List V → Hp → Prop} (h : ∀ H1, Ex H H1 → ∀ Q : VK, (∀ p ys H2, H1 p = none → Ex H1 H2 → H2 p = some (.lst ys) → P p ys H2 → Q (.ref p) H2) → te σ H1 Q)
    (k : ∀ p ys H1, H p = none → Ex H H1 → H1 p = some (.lst ys) → P p ys H1 → tz D (σ.set i (some (.ref p))) H1) : tSeq (tAsg te (gName i)) tz D σ H := h H (Ex.refl H) _ k
theorem er_names {o : Addr} (hs : Ev ta σ H (.ref t)) (hT : TabAt K CL CZ CT H t nm ms fpf o) : EvR (tMeth CT "names" (spNames K CL CZ CT) [] E ta tNil) σ H (RNs nm) := fun H1 e1 Q q =>
  hs H1 e1 _ fun H2 e2 => by
    obtain ⟨d', kvs, ⟨dx, h1⟩, _⟩ := (hT.mono (e1.trans e2)).ex
    exact ⟨t, dx, _, rfl, h1, rfl, t, nm, ms, fpf, o, rfl, hT.mono (e1.trans e2), fun p H' n e hp => q _ H' (e2.trans e) ⟨p, rfl, hp⟩⟩
theorem en_names {o : Addr} (hs : Ev ta σ H (.ref t)) (hT : TabAt K CL CZ CT H t nm ms fpf o) : EvN (tMeth CT "names" (spNames K CL CZ CT) [] E ta tNil) σ H (fun _ _ => True) := fun H1 e1 Q q =>
  hs H1 e1 _ fun H2 e2 => by
    obtain ⟨d', kvs, ⟨dx, h1⟩, _⟩ := (hT.mono (e1.trans e2)).ex
    exact ⟨t, dx, _, rfl, h1, rfl, t, nm, ms, fpf, o, rfl, hT.mono (e1.trans e2), fun p H' n e hp => q p _ H' (fresh_back e2 n) (e2.trans e) hp trivial⟩
theorem er_rule2 {o : Addr} {k : Nat} (hs : Ev ta σ H (.ref t)) (hT : TabAt K CL CZ CT H t nm ms fpf o) (hN : NmOk nm ms) (hk : k < ms.length) (hn : Ev tb σ H (.str (nmAt nm k))) :
    EvR (tMeth CT "rule_of" (spRule K CL CZ CT) [] E ta (tCons tb tNil)) σ H fun v H' => ∃ fp, MadeAt K CL CZ nm H' v fp (made ms k) ∧ (isBy (made ms k) = true → ∀ l ∈ fp, H l = none) := fun H1 e1 Q q =>
  hs H1 e1 _ fun H2 e2 => by
    obtain ⟨d', kvs, ⟨dx, h1⟩, _⟩ := (hT.mono (e1.trans e2)).ex
    exact ⟨t, dx, _, rfl, h1, rfl, hn H2 (e1.trans e2) _ fun H3 e3 => ⟨t, nm, ms, fpf, o, k, rfl, hT.mono ((e1.trans e2).trans e3), hN, hk, fun v' fp' H4 e4 hm hf => q v' H4 ((e2.trans e3).trans e4) ⟨fp', hm, fun hb l hl => fresh_back ((e1.trans e2).trans e3) (hf hb l hl)⟩⟩⟩
/-- [due[name][z] for name in names] -/
theorem en_due {row z : Int} {td : TE} (hln : Ev (tVar 8) σ H (.ref ln)) (hn : H ln = some (.lst (nm.map V.str))) (hl : nm.length = ms.length) (h7 : ms.length ≤ 7) (hd : DueAt K H d nm ms ms.length) (hdv : ∀ x, Ev td ((wipe σ [4]).set 4 (some x)) H (.ref d)) (hw : ∀ x, wipe ((wipe σ [4]).set 4 (some x)) [4] = wipe σ [4])
    (h4 : ∀ x, ((wipe σ [4]).set 4 (some x))[4]? = some (some x)) (hi : ∀ x, Ev ti ((wipe σ [4]).set 4 (some x)) H (.int z)) (hz : z = row + 14) (r1 : -14 ≤ row) (r2 : row < 25) :
    EvN (tLc (iList K (tVar 8)) (gName 4) tYes (tOp (rIxL K) (tDGet td (tVar 4)) ti) [4]) σ H (Each ms.length fun i => IsW K (Tb.val ms i row)) := by
  have en := en_lcL (K := K) (R := fun i => IsW K (Tb.val ms i row)) (σ := σ) (H := H) (te := tOp (rIxL K) (tDGet td (tVar 4)) ti) (vs := [4]) (j := 4) (tl := tVar 8) isw_mons isw_monLs hln (sq_of hn) (by rw [List.length_map]; omega) hw fun i x H1 e1 hx => by
    obtain ⟨hi', rfl⟩ := str_at hx
    obtain ⟨kvs, k1, k2, k3⟩ := hd
    obtain ⟨p, xs, a1, a2, a3⟩ := k3 i (by omega)
    obtain ⟨j, hj⟩ := Int.eq_ofNat_of_zero_le (show 0 ≤ z by omega)
    have a3 : Each 39 (fun j => IsW K (Tb.val ms i (-14 + (j : Int)))) xs H := a3
    have e : Tb.val ms i row = Tb.val ms i (-14 + (j : Int)) := by
      congr 1
      omega
    rw [e]
    exact ew_ixE (g := fun j => Tb.val ms i (-14 + (j : Int))) (n := 39) (z := j) (ev_dget ((hdv _).mono e1) (e1 _ _ k1) (ev_var (h4 _)) a1) (e1 _ _ a2) (a3.ex e1 isw_mons) (ev_is ((hi _).mono e1) (congrArg V.int hj)) (by omega)
  rw [List.length_map, hl] at en
  exact en
end
/-- what the handed list's items are -/
def RHnd (K : PySem.W.Frag) (CL CZ : Addr) (Hc : Hp) (nm : List Str) (ms : List Made) (fpf : Nat → List Addr) (p : Addr) (k : Nat) (fp : List Addr) (v : V) (H : Hp) : Prop := ∃ q u, v = .ref q ∧ SqT K H q [.str (nmAt nm k), u] ∧ MadeAt K CL CZ nm H u fp (made ms k) ∧ p ∉ fp ∧ (isBy (made ms k) = true → ∀ l ∈ fp, Hc l = none) ∧ (isBy (made ms k) = false → fp = fpf k)
def rowsL : List Int := [-14, -3, -1, 0, 1, 2, 9, 24]
section
variable {P : Program} {w : World} {K : PySem.W.Frag} {mg : Str → Option Value} {base : Heap} {CL CZ CT NO MA : Addr} {f : Addr} {fd : FuncData}
theorem sc_law : FnScope ["_law_script", "_law_cells", "_law_cell_here", "_law_columns", "_law_name", "_law_made", "_law_handed", "_law_table", "_law_names", "_law_due", "_law_row", "_law_told"] ["_law_script"] (defScope s_law) := ⟨rfl, rfl, rfl, by decide +kernel, rfl, by decide +kernel, by decide +kernel⟩
theorem ok_law (T : Txt K w mg CL CZ CT NO MA) (h_l_digits : Fn P w K mg base 1 "_law_digits" ["_law_cell_here", "_law_many"] spDig) (h_l_drawn_columns : Fn P w K mg base 8 "_law_drawn_columns" ["_law_digits_here"] (spCols K CL CZ))
    (h_l_own : Fn P w K mg base 1 "_law_own" ["_law_made"] (spKept K CL CZ)) (h_mk_Table : MkP P w K mg base CT 5 ["self", "columns"] (spTabInit K CL CZ CT)) (h_Table_names : Me P w K mg base CT 1 "names" ["self"] (spNames K CL CZ CT))
    (h_l_all_worths : Fn P w K mg base 8 "_law_all_worths" ["_law_columns", "_law_first", "_law_end"] (spAll K CL CZ)) (h_Table_line : Me P w K mg base CT 44 "line" ["self", "row"] (spLineT K CL CZ CT))
    (h_Table_value : Me P w K mg base CT 43 "value" ["self", "name", "row"] (spVal K CL CZ CT 7)) (h_Table_rule_of : Me P w K mg base CT 2 "rule_of" ["self", "name"] (spRule K CL CZ CT))
    (h_Line_value : Me P w K mg base CL 7 "value" ["self", "row"] (spLVal K CL)) (h_Zones_value : Me P w K mg base CZ 5 "value" ["self", "row"] (spZVal K CZ))
    (F : FunD K "law" "law" (defArgs s_law) (defBody s_law) (defScope s_law) [] [] f fd) : FnOk P w K mg base CX0 46 f fd ["_law_script"] (spLaw K) := by
  refine F.ok sc_law (fun vs H Q E h => ?_) (fun cdv A outer s H vs Q E hr h => ?_)
  · obtain ⟨_, _, rfl, _⟩ := h
    rfl
  obtain ⟨a, ns, rfl, hS, k⟩ := h
  have hu := hu_of hr
  refine ⟨_, PSs.nox (pss_cons (ps_set (i := 1) sc_law.nd rfl (Or.inl rfl) (pe_slice sl_list (pv 0) po_none (po_some pe_int)))
    (pss_cons (ps_if (pt_cmpR (op_eqD hr.units) (pv 1) (pe_lst pa_nil) (nomark _)) (pss_one (ps_set (i := 1) sc_law.nd rfl (Or.inl rfl) (pe_lst (pa_cons pe_int (pa_cons pe_int pa_nil))))) pss_nil)
    (pss_cons (ps_for PassesOwn.never rfl (pi_list (pv 1)) (pg_name (i := 2) sc_law.nd rfl (Or.inl rfl))
    (pss_cons (ps_set (i := 3) sc_law.nd rfl (Or.inl rfl) (pe_fn h_l_drawn_columns (hr.mono (by decide)) rfl (pa_cons (pe_fn h_l_digits (hr.mono (by decide)) rfl (pa_cons (pv 2) (pa_cons pe_int pa_nil))) pa_nil)))
      (pss_cons (ps_setLc (i := 6) (own := [("_law_name", 4), ("_law_made", 5)]) (g := gTup _ 2 (gCons (gName 4) (gCons (gName 5) gNil))) (tt := tYes) rfl sc_law.nd rfl rfl (sw_true rfl rfl rfl (by decide +kernel)) (pi_list (pv 3)) (blkOk_by (own := [("_law_name", 4), ("_law_made", 5)]) (N := ["_law_script", "_law_cells", "_law_cell_here", "_law_columns", "_law_name", "_law_made", "_law_handed", "_law_table", "_law_names", "_law_due", "_law_row", "_law_told"]) (sc := defScope s_law) (by decide +kernel)) (fun _ _ _ _ _ => (pg_tup rfl (pgs_cons (pg_name (i := 4) sc_law.nd rfl (Or.inl rfl)) (pgs_cons (pg_name (i := 5) sc_law.nd rfl (Or.inl rfl)) pgs_nil)))) (fun _ _ _ _ _ => pts_nil) (fun _ _ _ _ _ => (pe_tup (pa_cons (pv 4) (pa_cons (pe_fn h_l_own (hr.mono (by decide)) rfl (pa_cons (pv 5) pa_nil)) pa_nil)))))
      (pss_cons (ps_set (i := 7) sc_law.nd rfl (Or.inl rfl) (pe_mk h_mk_Table (hr.mono (by decide)) rfl T.g_Table (pa_cons (pv 6) pa_nil)))
      (pss_cons (ps_for PassesOwn.never rfl (pi_list (pv 6)) (pg_tup rfl (pgs_cons (pg_name (i := 4) sc_law.nd rfl (Or.inl rfl)) (pgs_cons (pg_name (i := 5) sc_law.nd rfl (Or.inl rfl)) pgs_nil)))
      (pss_one (ps_if (PW.pt (pw_and (pt_val (pe_callB call_isi (by rfl) T.f_isinstance (by decide +kernel) (pa_cons (pv 5) (pa_cons (pe_ty (n := "tuple") (by rfl) T.f_tuple (by decide +kernel)) pa_nil)))) (pw_and1 (pt_val (pe_callB call_isi (by rfl) T.f_isinstance (by decide +kernel) (pa_cons (pe_ix ix_tup (pv 5) pe_int (fun _ _ => rfl)) (pa_cons (pe_ty (n := "list") (by rfl) T.f_list (by decide +kernel)) pa_nil))))))) (pss_one (ps_expr (pe_bm0 PySem.F.plainAttrs_list PySem.F.slot_list_clear PySem.F.type_list_clear mt_clear (pe_ix ix_tup (pv 5) pe_int (fun _ _ => rfl))))) pss_nil)))
      (pss_cons (ps_expr (pe_bm0 PySem.F.plainAttrs_list PySem.F.slot_list_clear PySem.F.type_list_clear mt_clear (pv 6)))
      (pss_cons (ps_setLc (i := 8) (own := [("_law_name", 4), ("_law_made", 5)]) (g := gTup _ 2 (gCons (gName 4) (gCons (gName 5) gNil))) (tt := tYes) rfl sc_law.nd rfl rfl (sw_true rfl rfl rfl (by decide +kernel)) (pi_list (pv 3)) (blkOk_by (own := [("_law_name", 4), ("_law_made", 5)]) (N := ["_law_script", "_law_cells", "_law_cell_here", "_law_columns", "_law_name", "_law_made", "_law_handed", "_law_table", "_law_names", "_law_due", "_law_row", "_law_told"]) (sc := defScope s_law) (by decide +kernel)) (fun _ _ _ _ _ => (pg_tup rfl (pgs_cons (pg_name (i := 4) sc_law.nd rfl (Or.inl rfl)) (pgs_cons (pg_name (i := 5) sc_law.nd rfl (Or.inl rfl)) pgs_nil)))) (fun _ _ _ _ _ => pts_nil) (fun _ _ _ _ _ => (pv 4)))
      (pss_cons (ps_if (pt_cmpR (op_neD hr.units) (pe_me0 h_Table_names T.c_Table (hr.mono (by decide)) (pv 7)) (pv 8) (nomark _)) (pss_one (ps_ret pe_bl)) pss_nil)
      (pss_cons (ps_set (i := 9) sc_law.nd rfl (Or.inr rfl) (pe_fn h_l_all_worths (hr.mono (by decide)) rfl (pa_cons (pv 3) (pa_cons (pe_op op_sub pe_int pe_int) (pa_cons pe_int pa_nil)))))
      (pss_cons (ps_for PassesOwn.never rfl (pi_list (pe_lst (pa_cons (pe_op op_sub pe_int pe_int) (pa_cons (pe_op op_sub pe_int pe_int) (pa_cons (pe_op op_sub pe_int pe_int) (pa_cons pe_int (pa_cons pe_int (pa_cons pe_int (pa_cons pe_int (pa_cons pe_int pa_nil)))))))))) (pg_name (i := 10) sc_law.nd rfl (Or.inr rfl))
      (pss_cons (ps_set (i := 11) sc_law.nd rfl (Or.inl rfl) (pe_me h_Table_line T.c_Table (hr.mono (by decide)) (pv 7) (pa_cons (pv 10) pa_nil)))
        (pss_cons (ps_if (PW.pt (pw_or (pt_cmpR (op_neD hr.units) (pv 11) (pe_lc (own := [("_law_name", 4)]) (g := gName 4) (tt := tYes) rfl sc_law.nd (pi_list (pv 8)) (blkOk_by (own := [("_law_name", 4)]) (N := ["_law_script", "_law_cells", "_law_cell_here", "_law_columns", "_law_name", "_law_made", "_law_handed", "_law_table", "_law_names", "_law_due", "_law_row", "_law_told"]) (sc := defScope s_law) (by decide +kernel)) (fun _ _ _ _ _ => (pg_name (i := 4) sc_law.nd rfl (Or.inl rfl))) (fun _ _ _ _ _ => pts_nil) (fun _ _ _ _ _ => (pe_ix (ix_listB (K := K)) (pe_dget hu (pv 9) (pv 4) (fun _ _ => rfl)) (pe_op op_add (pv 10) pe_int) (fun _ _ => rfl)))) (nomark _)) (pw_or1 (pt_cmpR (op_neD hr.units) (pe_me h_Table_value T.c_Table (hr.mono (by decide)) (pv 7) (pa_cons (pe_ix ix_list (pv 8) (pe_un un_neg pe_int) (fun _ _ => rfl)) (pa_cons (pv 10) pa_nil))) (pe_ix ix_list (pv 11) (pe_un un_neg pe_int) (fun _ _ => rfl)) (nomark _))))) (pss_one (ps_ret pe_bl)) pss_nil)
        (pss_one (ps_expr (pe_bm0 PySem.F.plainAttrs_list PySem.F.slot_list_clear PySem.F.type_list_clear mt_clear (pv 11)))))))
      (pss_cons (ps_for PassesOwn.never rfl (pi_list (pv 3)) (pg_tup rfl (pgs_cons (pg_name (i := 4) sc_law.nd rfl (Or.inl rfl)) (pgs_cons (pg_name (i := 5) sc_law.nd rfl (Or.inl rfl)) pgs_nil)))
      (pss_cons (ps_set (i := 11) sc_law.nd rfl (Or.inl rfl) (pe_me h_Table_rule_of T.c_Table (hr.mono (by decide)) (pv 7) (pa_cons (pv 4) pa_nil)))
        (pss_one (ps_if (pt_not (pt_val (pe_callB call_isi (by rfl) T.f_isinstance (by decide +kernel) (pa_cons (pv 5) (pa_cons (pe_ty (n := "tuple") (by rfl) T.f_tuple (by decide +kernel)) pa_nil))))) (pss_one (ps_if (pt_cmpR (op_neD hr.units) (PE.or (pe_me h_Line_value T.c_Line (hr.mono (by decide)) (pv 11) (pa_cons pe_int pa_nil)) (pe_me h_Zones_value T.c_Zones (hr.mono (by decide)) (pv 11) (pa_cons pe_int pa_nil))) (PE.or (pe_me h_Line_value T.c_Line (hr.mono (by decide)) (pv 5) (pa_cons pe_int pa_nil)) (pe_me h_Zones_value T.c_Zones (hr.mono (by decide)) (pv 5) (pa_cons pe_int pa_nil))) (nomark _)) (pss_one (ps_ret pe_bl)) pss_nil)) (pss_one (ps_if (pt_cmpR (op_neD hr.units) (pv 11) (pv 5) (nomark _)) (pss_one (ps_ret pe_bl)) (pss_one (ps_if (pt_val (pe_callB call_isi (by rfl) T.f_isinstance (by decide +kernel) (pa_cons (pe_ix ix_tup (pv 5) pe_int (fun _ _ => rfl)) (pa_cons (pe_ty (n := "list") (by rfl) T.f_list (by decide +kernel)) pa_nil)))) (pss_one (ps_expr (pe_bm0 PySem.F.plainAttrs_list PySem.F.slot_list_clear PySem.F.type_list_clear mt_clear (pe_ix ix_tup (pv 11) pe_int (fun _ _ => rfl))))) pss_nil))))))))
      (pss_cons (ps_expr (pe_bm0 PySem.F.plainAttrs_list PySem.F.slot_list_clear PySem.F.type_list_clear mt_clear (pe_me0 h_Table_names T.c_Table (hr.mono (by decide)) (pv 7))))
      (pss_one (ps_if (PW.pt (pw_or (pt_cmpR (op_neD hr.units) (pe_me h_Table_line T.c_Table (hr.mono (by decide)) (pv 7) (pa_cons pe_int pa_nil)) (pe_lc (own := [("_law_name", 4)]) (g := gName 4) (tt := tYes) rfl sc_law.nd (pi_list (pv 8)) (blkOk_by (own := [("_law_name", 4)]) (N := ["_law_script", "_law_cells", "_law_cell_here", "_law_columns", "_law_name", "_law_made", "_law_handed", "_law_table", "_law_names", "_law_due", "_law_row", "_law_told"]) (sc := defScope s_law) (by decide +kernel)) (fun _ _ _ _ _ => (pg_name (i := 4) sc_law.nd rfl (Or.inl rfl))) (fun _ _ _ _ _ => pts_nil) (fun _ _ _ _ _ => (pe_ix (ix_listB (K := K)) (pe_dget hu (pv 9) (pv 4) (fun _ _ => rfl)) pe_int (fun _ _ => rfl)))) (nomark _)) (pw_or1 (pt_cmpR (op_neD hr.units) (pe_me0 h_Table_names T.c_Table (hr.mono (by decide)) (pv 7)) (pv 8) (nomark _))))) (pss_one (ps_ret pe_bl)) pss_nil))))))))))))))
    (pss_one (ps_ret pe_bl))))), ?_⟩
  have s0 := el_sl (K := K) (lo := none) (hi := some 2) (ev_var (i := 0) rfl : Ev (tVar 0) [some (.ref a), none, none, none, none, none, none, none, none, none, none, none] H (.ref a)) eo_none (eo_some ev_c) hS
  rw [cut_2, ← List.map_take] at s0
  refine q_asgL s0 fun l1 H1 n1 e1 h1 => ?_
  generalize ns.take 2 = cs0 at *
  have htest : Ev (tOp (rEqD K) (tVar 1) (tLst tNil)) [some (.ref a), some (.ref l1), none, none, none, none, none, none, none, none, none, none] H1 (.bl (PyData.eqv (isD cs0) (isD []))) :=
    ev_opL (ev_var rfl) (el_lst ea_nil (by decide)) fun p H2 hp e2 => rv_val fun H3 e3 Q q => ⟨isD cs0, isD [], isD_dp (sq_of (e3 _ _ (e2 _ _ h1))), isD_dp (sq_of (e3 _ _ hp)), isD_shaped _, isD_shaped _, q⟩
  refine q_ifAsgR (R := fun v H => ∃ l cs, v = .ref l ∧ H l = some (.lst ((cs : List Int).map V.int))) (v0 := .ref l1) (et_test htest) (fun _ => fun G e Q q => (el_lst (vs := [.int 4, .int 19]) (ea_cons ev_c (ea_cons ev_c ea_nil)) (by show 2 ≤ 100000; decide)) G e _ fun p G2 n e2 hp => q _ G2 e2 ⟨p, [4, 19], rfl, hp⟩) rfl (fun G e => ⟨l1, cs0, rfl, e _ _ h1⟩) fun v H2 e2 ⟨l, cs, hv, hl⟩ => ?_
  subst hv
  refine q_forLn (K := K) (a := l) (xs := cs.map V.int) (ev_var rfl) (sq_of hl) (fun i σ' H' => ∃ (z2 z3 z4 z5 z6 z7 z8 z9 z10 z11 : Option V), σ' = [some (.ref a), some (.ref l), z2, z3, z4, z5, z6, z7, z8, z9, z10, z11] ∧ Ex H2 H')
    (fun G e => ⟨none, none, none, none, none, none, none, none, none, none, rfl, e⟩) (fun i σ' H' _ ⟨_, _, _, _, _, _, _, _, _, _, _, e⟩ => sq_of (e _ _ hl)) ?_ (fun σ' H' ⟨_, _, _, _, _, _, _, _, _, _, hσ, e⟩ => s_ret ev_c fun G e => k G)
  rintro i x σ' H0 hx ⟨z2, z3, z4, z5, z6, z7, z8, z9, z10, z11, rfl, e0⟩
  obtain ⟨c, _, rfl⟩ : ∃ c, c ∈ cs ∧ V.int c = x := List.mem_map.mp (List.mem_of_getElem? hx)
  have hcols : EvR (tCall (spCols K CL CZ) [] E0 (tCons (tCall spDig [] E0 (tCons (tVar 2) (tCons (tC (.int 240)) tNil))) tNil)) [some (.ref a), some (.ref l), some (.int c), z3, z4, z5, z6, z7, z8, z9, z10, z11] H0
      (fun v H' => ∃ p nm ms fpf, v = .ref p ∧ ColsAt K CL CZ H' p nm ms fpf ∧ NmOk nm ms ∧ TabOk ms ∧ 1 ≤ ms.length ∧ (∀ k : Nat, k < ms.length → p ∉ fpf k) ∧ ∀ k : Nat, k < ms.length → (PyData.str (nmAt nm k)).canLay0 = true) := fun G e Q q =>
    ⟨.int c, rfl, c, rfl, fun p xs G2 np e2 hp ⟨ds, hxs, hl2, hdg⟩ => ⟨p, ds, rfl, ⟨by rw [hp, hxs], hdg⟩, hl2, fun p' nm ms fpf G3 n3 e3 hc hN ok n1 nf lay => q _ G3 (e2.trans e3) ⟨p', nm, ms, fpf, rfl, hc, hN, ok, n1, nf, lay⟩⟩⟩
  refine q_asgR hcols fun v Hc ec ⟨lc, nm, ms, fpf, hv, hC, hN, ok, nn1, nf, lay⟩ => ?_
  subst hv
  have n7 := ok.n7
  have nl := hN.len
  obtain ⟨us, hlc, hE⟩ := id hC
  have ulen : us.length = ms.length := hE.1
  have hhand := en_lcLF (K := K) (R := fun p k v H => ∃ fp, RHnd K CL CZ Hc nm ms fpf p k fp v H) (σ := [some (.ref a), some (.ref l), some (.int c), some (.ref lc), z4, z5, z6, z7, z8, z9, z10, z11]) (H := Hc) (tl := tVar 3) (te := tTup (tCons (tVar 4) (tCons (tCall (spKept K CL CZ) [] E0 (tCons (tVar 5) tNil)) tNil))) (vs := [4, 5]) (j := 4) (j2 := 5)
    (fun p k v H H' e ⟨fp, q, u, h1, h2, h3, h4⟩ => ⟨fp, q, u, h1, ex_t e h2, h3.mono e, h4⟩) (fun p k v H H' ys hp e ⟨fp, q, u, h1, h2, h3, h4, h5⟩ => ⟨fp, q, u, h1, e.tupG hp odd_lst h2, h3.ekg hp odd_lst h4 e, h4, h5⟩) (ev_var rfl) (sq_of hlc) (by omega) (fun _ _ => rfl) fun p k v np hk => by
      obtain ⟨q, u, hq, hqt, hm⟩ := hE.2 k v hk
      refine ⟨q, _, u, hq, hqt, fun G acc eG hacc => fun G1 g1 Q kk => ?_⟩
      refine ⟨_, rfl, (er_kept (ev_var rfl) (hm.mono eG)) G1 g1 _ fun v' G2 g2 ⟨fp', m2, hK⟩ => ⟨by show 2 ≤ sizeLine; decide, fun r hr2 => kk _ _ (g2.trans (Ex.new hr2)) ⟨fp', r, v', rfl, SqT.of upd_same, m2.mono (Ex.new hr2), ?_, fun hb x hx => fresh_back eG (hK.1 hb x hx), fun hb => (hK.2 hb).2⟩⟩⟩
      intro hp
      cases hb : isBy (made ms k) with
      | true =>
        have := hK.1 hb p hp
        rw [hacc] at this
        cases this
      | false =>
        rw [(hK.2 hb).2] at hp
        exact hm.nin0 np hp
  refine q_asgX hhand fun lh hs Hh nlh eh hlh hR => ?_
  have hslen : hs.length = ms.length := by rw [hR.1, ulen]
  obtain ⟨fph, hph⟩ : ∃ fph : Nat → List Addr, ∀ k v, hs[k]? = some v → RHnd K CL CZ Hc nm ms fpf lh k (fph k) v Hh := by
    have : ∀ k : Nat, ∃ fp : List Addr, ∀ v, hs[k]? = some v → RHnd K CL CZ Hc nm ms fpf lh k fp v Hh := fun k => by
      cases e : hs[k]? with
      | none => exact ⟨[], fun v hv => by cases hv⟩
      | some u =>
        obtain ⟨fp, h⟩ := hR.2 k u e
        exact ⟨fp, fun v hv => by
          cases hv
          exact h⟩
    exact ⟨fun k => Classical.choose (this k), fun k => Classical.choose_spec (this k)⟩
  have hget : ∀ k : Nat, k < ms.length → ∃ v, hs[k]? = some v := fun k hk => ⟨hs[k]'(by omega), by simp⟩
  have hCh : ColsAt K CL CZ Hh lh nm ms fph := ⟨hs, hlh, hslen, fun k v hv => by
    obtain ⟨q, u, h1, h2, h3, _⟩ := hph k v hv
    exact ⟨q, u, h1, h2, h3⟩⟩
  have hmk : EvR (tMake CT (spTabInit K CL CZ CT) [] E0 (tCons (tVar 6) tNil)) [some (.ref a), some (.ref l), some (.int c), some (.ref lc), z4, z5, some (.ref lh), z7, z8, z9, z10, z11] Hh
      (fun v H' => ∃ t o fpt, v = .ref t ∧ TabAt K CL CZ CT H' t nm ms fpt o ∧ Hh o = none ∧ ∀ k : Nat, k < ms.length → (isBy (made ms k) = true → ∀ x ∈ fpt k, Hh x = none) ∧ (isBy (made ms k) = false → fpt k = fph k)) := fun G e Q q =>
    ⟨.ref lh, rfl, fun x dx hx hdx ndx => by
      have e0 : Ex Hh (upd (upd G dx (.own x)) x (.ins CT dx [])) := e.trans (new2 hx hdx ndx)
      exact ⟨x, dx, lh, nm, ms, fph, rfl, upd_same, hCh.mono e0, hN, ok, nn1, fun o fpt H' hT ho hf ek => ⟨rfl, q _ H' (Ek.ofNew hx hdx ndx ek) ⟨x, o, fpt, rfl, hT, fresh_back e0 ho, fun k hk => ⟨fun hb y hy => fresh_back e0 ((hf k hk).1 hb y hy), (hf k hk).2⟩⟩⟩⟩⟩
  refine q_asgR hmk fun v Ht et ⟨t, o, fpt, hv, hT, ho, hf⟩ => ?_
  subst hv
  have clr : ∀ (x : Addr) (ys : List V), Hh x = some (.lst ys) → Hc x = none → (∀ k : Nat, k < ms.length → isBy (made ms k) = false → x ∉ fpf k) → x ≠ o ∧ ∀ k : Nat, k < ms.length → x ∉ fpt k := fun x ys hx hxc hnf => by
    refine ⟨fun z => ?_, fun k hk hm => ?_⟩
    · rw [z, ho] at hx
      cases hx
    cases hb : isBy (made ms k) with
    | true =>
      rw [(hf k hk).1 hb x hm] at hx
      cases hx
    | false =>
      obtain ⟨v, hv⟩ := hget k hk
      obtain ⟨q, u, h1, h2, h3, h4, h5, h6⟩ := hph k v hv
      rw [(hf k hk).2 hb, h6 hb] at hm
      exact hnf k hk hb hm
  have nocol : ∀ x : Addr, Hc x = none → ∀ k : Nat, k < ms.length → x ∉ fpf k := fun x hxc k hk => by
    obtain ⟨q, u, _, _, hm⟩ := hE.2 k (us[k]'(by omega)) (by simp)
    exact hm.nin0 hxc
  refine q_forL (K := K) (a := lh) (xs := hs) (ev_var rfl) (sq_of (et _ _ hlh)) (fun i σ' H' => ∃ (z4 z5 : Option V), σ' = [some (.ref a), some (.ref l), some (.int c), some (.ref lc), z4, z5, some (.ref lh), some (.ref t), z8, z9, z10, z11] ∧ Ex Hc H' ∧ H' lh = some (.lst hs) ∧
      (∀ k v, hs[k]? = some v → ∃ q u, v = .ref q ∧ SqT K H' q [.str (nmAt nm k), u] ∧ WkAt K CL CZ nm H' u (fph k) (made ms k)) ∧ TabAt K CL CZ CT H' t nm ms fpt o)
    (fun G e => ⟨z4, z5, rfl, (eh.trans et).trans e, e _ _ (et _ _ hlh), fun k v hv => ?_, hT.mono e⟩) (fun i σ' H' _ ⟨_, _, _, _, h, _⟩ => sq_of h) ?_ ?_
  · obtain ⟨q, u, h1, h2, h3, _⟩ := hph k v hv
    exact ⟨q, u, h1, ex_t (et.trans e) h2, (h3.mono (et.trans e)).wk⟩
  · rintro i x σ' H' hx ⟨z4, z5, rfl, eC, hlhH, hall, hTH⟩
    have hi : i < ms.length := by
      have := (List.getElem?_eq_some_iff.mp hx).1
      omega
    obtain ⟨q, u, rfl, hq, hw⟩ := hall i x hx
    refine ⟨q, _, rfl, hq, rfl, _, _, rfl, _, _, rfl, rfl, ?_⟩
    refine s_when (b := isTup (made ms i) && isBy (made ms i)) (et_and (et_B (ev_isiT (t := .none) (ev_var rfl) (.ty "tuple") (hw.ty T))) fun ht => ?_) (fun hb G e => ?_) (fun hb G e => ?_)
    · rcases hw with ⟨⟨g, hg⟩, _⟩ | ⟨p, x, y, z, t1, b1, rfl, h2, h3⟩ | ⟨p, x, y, l2, ys, t1, b1, rfl, h2, h3, h4⟩
      · rw [hg] at ht
        cases ht
      · rw [b1]
        refine et_B (ev_isiT (t := .none) (ev_op (ev_var rfl) ev_c (rv_ixT h2 rfl)) (.ty "list") fun G e => ?_)
        rcases h3 with ⟨s, rfl⟩ | ⟨cc, qq, rfl, hcc⟩
        · exact ⟨_, .base (.str _), kit_ty k_sl⟩
        · exact ⟨_, wat_ty (ex_t e hcc), kit_ty k_tl⟩
      · rw [b1]
        exact et_B (ev_isiT (t := .none) (ev_op (ev_var rfl) ev_c (rv_ixT h3 rfl)) (.ty "list") fun G e => ⟨_, .base (.lst (e _ _ h4)), kit_ty k_ll⟩)
    · have hb2 := (Bool.and_eq_true_iff.mp hb)
      rcases hw with ⟨⟨g, hg⟩, _⟩ | ⟨p, x, y, z, t1, b1, rfl, h2, h3⟩ | ⟨p, x, y, l2, ys, t1, b1, rfl, h2, h3, h4⟩
      · rw [hg] at hb
        cases hb
      · rw [b1] at hb2
        cases hb2.2
      · obtain ⟨q', u', g1, g2, g3, g4, g5, g6⟩ := hph i (.ref q) hx
        have l2c : Hc l2 = none := g5 b1 l2 (by rw [h2]; simp)
        have l2n : l2 ≠ lh := fun z => g4 (by rw [h2, z]; simp)
        obtain ⟨ys0, l2h⟩ := g3.fpl l2 (by rw [h2]; simp)
        obtain ⟨c1, c2⟩ := clr l2 ys0 l2h l2c (fun k hk _ => nocol l2 l2c k hk)
        refine s_clr (ev_op (ev_var rfl) ev_c (rv_ixT (ex_t e h3) rfl)) (e _ _ h4) fun G2 e2 hG2 => ?_
        have e12 := e.trans e2
        have ku : Ek l2 G2 (upd G2 l2 (.lst [])) := Ek.upd
        refine ⟨_, _, rfl, Ex.mut (eC.trans e12) l2c, ku _ _ (e12 _ _ hlhH) l2n.symm, fun k v hv => ?_, (hTH.mono e12).ekl hG2 c1 c2 ku⟩
        obtain ⟨q, u, h1, h2, h3⟩ := hall k v hv
        exact ⟨q, u, h1, ku.tupG hG2 odd_lst (ex_t e12 h2), (h3.mono e12).clr hG2⟩
    · refine ⟨_, _, rfl, eC.trans e, e _ _ hlhH, fun k v hv => ?_, hTH.mono e⟩
      obtain ⟨q, u, h1, h2, h3⟩ := hall k v hv
      exact ⟨q, u, h1, ex_t e h2, h3.mono e⟩
  rintro σ' H' ⟨y4, y5, rfl, eC, hlhH, _, hTH⟩
  obtain ⟨c1, c2⟩ := clr lh hs hlh nlh (fun k hk _ => nocol lh nlh k hk)
  refine q_clr (ev_var rfl) hlhH fun G1 g1 hG1 => ?_
  have eHc : Ex Hc (upd G1 lh (.lst [])) := Ex.mut (eC.trans g1) nlh
  have hTn := (hTH.mono g1).ekl hG1 c1 c2 (Ek.upd (o := .lst []))
  generalize upd G1 lh (.lst []) = Hn at *
  have hX : TabX K CL CZ CT Hn t ⟨nm, ms, fpt, o, 0⟩ := ⟨hTn, hN, ok⟩
  have en := en_lcLT (K := K) (R := fun k v _ => v = .str (nmAt nm k)) (σ := [some (.ref a), some (.ref l), some (.int c), some (.ref lc), y4, y5, some (.ref lh), some (.ref t), z8, z9, z10, z11]) (H := Hn) (tl := tVar 3) (te := tVar 4) (vs := [4, 5]) (j := 4) (j2 := 5) (fun _ => eq_mon) (fun _ => eq_monL) (ev_var rfl) (sq_of (eHc _ _ hlc)) (by omega) (fun _ _ => rfl) fun k v hk => by
    obtain ⟨q, y, hq, hqt, hym⟩ := hE.2 k v hk
    exact ⟨q, _, y, hq, ex_t eHc hqt, er_of (ev_var rfl) fun _ _ => rfl⟩
  rw [ulen, ← nl] at en
  refine q_asgN en fun ln xs Hm nln em hln hxs => ?_
  have hln : Hm ln = some (.lst (nm.map V.str)) := by rw [hln, each_strs hxs]
  have layS : ∀ s ∈ nm, (PyData.str s).canLay0 = true := fun s hs => by
    obtain ⟨k, hk, rfl⟩ := List.mem_iff_getElem.mp hs
    have := lay k (by omega)
    have e : nmAt nm k = nm[k] := by
      unfold nmAt
      simp [hk]
    rw [e] at this
    exact this
  have hXm := hX.mono em
  refine q_when (b := false) (et_test (ev_neR (R1 := RNs nm) (R2 := RNs nm) (er_names (ev_var rfl) hXm.at_) (er_of (ev_var rfl) fun G e => ⟨ln, rfl, e _ _ hln⟩) rns_mon rns_dp rns_dp (nsD_shaped layS))) (fun h => by cases h) fun _ Hk ek => ?_
  have hCk : ColsAt K CL CZ Hk lc nm ms fpf := hC.mono ((eHc.trans em).trans ek)
  have hdue : EvR (tCall (spAll K CL CZ) [] E0 (tCons (tVar 3) (tCons (tOp (rI0 fun i j => .int (i - j)) (tC (.int 0)) (tC (.int 14))) (tCons (tC (.int 25)) tNil)))) [some (.ref a), some (.ref l), some (.int c), some (.ref lc), y4, y5, some (.ref lh), some (.ref t), some (.ref ln), z9, z10, z11] Hk (fun v H' => ∃ d, v = .ref d ∧ DueAt K H' d nm ms ms.length) := fun G e Q q =>
    (ea_cons (ev_var rfl) (ea_cons (ev_is (ev_sub ev_c ev_c) rfl) (ea_cons ev_c ea_nil)) : EvA (tCons (tVar 3) (tCons (tOp (rI0 fun i j => .int (i - j)) (tC (.int 0)) (tC (.int 14))) (tCons (tC (.int 25)) tNil))) [some (.ref a), some (.ref l), some (.int c), some (.ref lc), y4, y5, some (.ref lh), some (.ref t), some (.ref ln), z9, z10, z11] Hk [.ref lc, .int (-14), .int 25]) G e _ fun G2 e2 =>
      ⟨lc, nm, ms, fpf, rfl, hCk.mono (e.trans e2), hN, ok, fun d G3 nd e3 hd => q _ G3 (e2.trans e3) ⟨d, rfl, hd⟩⟩
  refine q_asgR hdue fun v Hd ed ⟨d, hv, hD⟩ => ?_
  subst hv
  have hXd := hXm.mono (ek.trans ed)
  have hlnd := (ek.trans ed) _ _ hln
  have hCd := hCk.mono ed
  have hdd0 := hXd.at_
  obtain ⟨d0, kvs0, i1, _⟩ := hdd0.ex
  have hrows : EvL (tLst (tCons (tOp (rI0 fun i j => .int (i - j)) (tC (.int 0)) (tC (.int 14))) (tCons (tOp (rI0 fun i j => .int (i - j)) (tC (.int 0)) (tC (.int 3))) (tCons (tOp (rI0 fun i j => .int (i - j)) (tC (.int 0)) (tC (.int 1))) (tCons (tC (.int 0)) (tCons (tC (.int 1)) (tCons (tC (.int 2)) (tCons (tC (.int 9)) (tCons (tC (.int 24)) tNil)))))))))
      [some (.ref a), some (.ref l), some (.int c), some (.ref lc), y4, y5, some (.ref lh), some (.ref t), some (.ref ln), some (.ref d), z10, z11] Hd (rowsL.map V.int) :=
    el_lst (ea_cons (ev_is (ev_sub ev_c ev_c) rfl) (ea_cons (ev_is (ev_sub ev_c ev_c) rfl) (ea_cons (ev_is (ev_sub ev_c ev_c) rfl) (ea_cons ev_c (ea_cons ev_c (ea_cons ev_c (ea_cons ev_c (ea_cons ev_c ea_nil)))))))) (by show 8 ≤ 100000; decide)
  refine q_forNLn hrows (fun p i σ' H' => ∃ (z10 z11 : Option V), σ' = [some (.ref a), some (.ref l), some (.int c), some (.ref lc), y4, y5, some (.ref lh), some (.ref t), some (.ref ln), some (.ref d), z10, z11] ∧ Ex Hd H' ∧ H' p = some (.lst (rowsL.map V.int)))
    (fun p G np e hp => ⟨z10, z11, rfl, e, hp⟩) (fun p i σ' H' _ ⟨_, _, _, _, h⟩ => sq_of h) ?_ ?_
  · rintro p i x σ' H' hx ⟨z10, z11, rfl, e, hp⟩
    obtain ⟨row, hrow, rfl⟩ : ∃ r, r ∈ rowsL ∧ V.int r = x := List.mem_map.mp (List.mem_of_getElem? hx)
    have hb := (show ∀ r ∈ rowsL, -14 ≤ r ∧ r ≤ 24 by decide) row hrow
    have hXr := hXd.mono e
    have hlnr := e _ _ hlnd
    have hDr := hD.mono e
    refine q_asgN (en_methA (A := ALineT K CL CZ CT) (B := fun d => Each d.1.ms.length fun i => IsW K (Tb.val d.1.ms i d.2)) (⟨nm, ms, fpt, o, 0⟩, row) (ev_var rfl) (i1.mono e) rfl (ea_cons (ev_var rfl) ea_nil) fun G g => ⟨t, rfl, hXr.mono g, hb.1, show row ≤ 25 by omega⟩) fun pt ts H3 npt e3 hpt hts => ?_
    have hts : Each ms.length (fun i => IsW K (Tb.val ms i row)) ts H3 := hts
    have dueN : ∀ G, Ex H3 G → EvN (tLc (iList K (tVar 8)) (gName 4) tYes (tOp (rIxL K) (tDGet (tVar 9) (tVar 4)) (tOp (rI0 fun i j => .int (i + j)) (tVar 10) (tC (.int 14)))) [4]) [some (.ref a), some (.ref l), some (.int c), some (.ref lc), y4, y5, some (.ref lh), some (.ref t), some (.ref ln), some (.ref d), some (.int row), some (.ref pt)] G (Each ms.length fun i => IsW K (Tb.val ms i row)) := fun G g =>
      en_due (d := d) (z := row + 14) (ev_var rfl) ((e3.trans g) _ _ hlnr) nl n7 (hDr.mono (e3.trans g)) (fun _ => ev_var rfl) (fun _ => rfl) (fun _ => rfl) (fun _ => ev_add (ev_var rfl) ev_c) rfl hb.1 (by omega)
    have hlast : ms.length - 1 < ms.length := by omega
    refine q_when (b := false) (et_is (et_or (a := false) (et_test (ev_neR (R1 := RWs K ms.length fun i => Tb.val ms i row) (R2 := RWs K ms.length fun i => Tb.val ms i row) (er_of (ev_var rfl) fun G e => ⟨pt, ts, rfl, e _ _ hpt, hts.ex e isw_mons⟩) (er_ofN (dueN H3 (Ex.refl H3))) rws_mon rws_dp rws_dp wsD_shaped)) (b := false) fun _ => et_test (ev_bF (ev_neW (q := Tb.val ms (ms.length - 1) row) (r := Tb.val ms (ms.length - 1) row) ?_ ?_) (by rw [eqv_shaped shaped_w]; rfl))) rfl) (fun h => by cases h) fun _ H4 e4 => ?_
    · have hnl : (nm.map V.str)[(nm.map V.str).length - 1]? = some (.str (nmAt nm (ms.length - 1))) := by
        rw [List.length_map, nl, List.getElem?_map]
        have : nm[ms.length - 1]? = some (nmAt nm (ms.length - 1)) := by
          unfold nmAt
          have h : ms.length - 1 < nm.length := by omega
          simp [h]
        rw [this] <;> rfl
      exact er_methA (A := AVal K CL CZ CT 7) (B := fun d => IsW K (d.1.f d.2)) (⟨nm, ms, fpt, o, ms.length - 1⟩, row) (ev_var rfl) (i1.mono (e.trans e3)) rfl (ea_cons (ev_op (ev_var rfl) (ev_un ev_c ru_neg) (rv_ixL (sq_of (e3 _ _ hlnr)) (atI_end hnl))) (ea_cons (ev_var rfl) ea_nil)) fun G g => ⟨t, rfl, ((hXr.mono e3).mono g).in_ hlast, hb.1, show row ≤ 25 by omega⟩
    · have : ms.length = (ms.length - 1) + 1 := by omega
      rw [this] at hts
      exact ew_lastE (g := fun i => Tb.val ms i row) (ev_var rfl) hpt hts (ev_un ev_c ru_neg)
    · refine s_clr (ev_var rfl) (e4 _ _ hpt) fun G g hG => ?_
      have e34 := e3.trans (e4.trans g)
      exact ⟨_, _, rfl, Ex.mut (e.trans e34) (fresh_back e npt), Ex.mut e34 npt _ _ hp⟩
  rintro p0 σ' Hr ⟨y10, y11, rfl, er, _⟩
  have hXr := hXd.mono er
  have hCr := hCd.mono er
  obtain ⟨us2, hlc2, hE2⟩ := hCr
  have ulen2 : us2.length = ms.length := hE2.1
  refine q_forL (K := K) (a := lc) (xs := us2) (ev_var rfl) (sq_of hlc2) (fun i σ' H' => ∃ (z4 z5 z11 : Option V), σ' = [some (.ref a), some (.ref l), some (.int c), some (.ref lc), z4, z5, some (.ref lh), some (.ref t), some (.ref ln), some (.ref d), y10, z11] ∧ Ex Hr H')
    (fun G e => ⟨y4, y5, y11, rfl, e⟩) (fun i σ' H' _ ⟨_, _, _, _, e⟩ => sq_of (e _ _ hlc2)) ?_ ?_
  · rintro i x σ' H' hx ⟨z4, z5, z11, rfl, e⟩
    have hi : i < ms.length := by
      have := (List.getElem?_eq_some_iff.mp hx).1
      omega
    obtain ⟨q, u, rfl, hq, hm⟩ := iscol_mon _ _ _ e (hE2.2 i x hx)
    refine ⟨q, _, rfl, hq, rfl, _, _, rfl, _, _, rfl, rfl, ?_⟩
    refine q_asgR (er_rule2 (ev_var rfl) (hXr.at_.mono e) hN hi (ev_var rfl)) fun v H3 e3 ⟨fp', hm', hfr⟩ => ?_
    have hm3 := hm.mono e3
    refine s_if (b := !isTup (made ms i)) (et_not (et_B (ev_isTup T (ev_var rfl) hm3))) (fun hb H4 e4 => ?_) (fun hb H4 e4 => ?_)
    · cases em2 : made ms i with
      | base g =>
        rw [em2] at hm3 hm'
        refine s_when (b := false) (et_test (ev_bF (ev_neW (er_base (ev_var rfl) (hm'.mono e4) ev_c (by decide) (by decide)) (er_base (ev_var rfl) (hm3.mono e4) ev_c (by decide) (by decide))) (by rw [eqv_shaped shaped_w]; rfl))) (fun h => by cases h) fun _ H5 e5 => ⟨_, _, _, rfl, e.trans ((e3.trans e4).trans e5)⟩
      | _ =>
        rw [em2] at hb
        cases hb
    · have ht : isTup (made ms i) = true := by
        cases h : isTup (made ms i) with
        | true => rfl
        | false =>
          rw [h] at hb
          cases hb
      refine s_if (b := false) (et_test (ev_neR (R1 := fun v H => MadeAt K CL CZ nm H v fp' (made ms i)) (R2 := fun v H => MadeAt K CL CZ nm H v (fpf i) (made ms i)) (d := madeD nm (made ms i)) (er_of (ev_var rfl) fun G g => hm'.mono (e4.trans g)) (er_of (ev_var rfl) fun G g => hm3.mono (e4.trans g)) (fun _ _ _ e h => h.mono e) (fun _ _ h => made_dp h ht) (fun _ _ h => made_dp h ht)
        (made_shaped fun b hb => lay b (by have := ok.wf i b hb; omega)))) (fun h => by cases h) fun _ H5 e5 => ?_
      have e45 := e4.trans e5
      obtain ⟨p, z, hpz, h3, ty⟩ := (hm3.mono e45).three ht
      subst hpz
      refine s_when (b := isBy (made ms i)) (et_B (ev_isiT (t := .none) (ev_op (ev_var rfl) ev_c (rv_ixT h3 rfl)) (.ty "list") ty)) (fun hb2 H6 e6 => ?_) (fun _ H6 e6 => ⟨_, _, _, rfl, e.trans ((e3.trans e45).trans e6)⟩)
      cases em2 : made ms i with
      | by_ b cs2 =>
        rw [em2] at hm'
        obtain ⟨p2, l2, rfl, rfl, h3', ⟨ws, h4', _⟩, _⟩ := hm'
        have nl2 : H' l2 = none := hfr hb2 l2 (by simp)
        have e46 := e45.trans e6
        refine s_clr (ev_op (ev_var rfl) ev_c (rv_ixT (ex_t e46 h3') rfl)) (e46 _ _ h4') fun G g hG => ⟨_, _, _, rfl, e.trans (Ex.mut ((e3.trans e46).trans g) nl2)⟩
      | _ =>
        rw [em2] at hb2
        cases hb2
  rintro σ' Hs ⟨x4, x5, x11, rfl, es⟩
  have hXs := hXr.mono es
  refine q_clrN (en_names (ev_var rfl) hXs.at_) fun Hu eu => ?_
  have hXu := hXs.mono eu
  have e_ru := es.trans eu
  have hlnu := (er.trans e_ru) _ _ hlnd
  have hDu := hD.mono (er.trans e_ru)
  have iu := i1.mono (er.trans e_ru)
  refine s_when (b := false) (et_is (et_or (a := false) (b := false) (et_test (ev_neR (R1 := RWs K ms.length fun i => Tb.val ms i 7) (R2 := RWs K ms.length fun i => Tb.val ms i 7) (er_ofN (en_methA (A := ALineT K CL CZ CT) (B := fun d => Each d.1.ms.length fun i => IsW K (Tb.val d.1.ms i d.2)) (⟨nm, ms, fpt, o, 0⟩, 7) (ev_var rfl) iu rfl (ea_cons ev_c ea_nil) fun G g => ⟨t, rfl, hXu.mono g, show (-14 : Int) ≤ 7 by decide, show (7 : Int) ≤ 25 by decide⟩))
    (er_ofN (en_due (d := d) (z := 21) (row := 7) (ev_var rfl) hlnu nl n7 hDu (fun _ => ev_var rfl) (fun _ => rfl) (fun _ => rfl) (fun _ => ev_c) (by decide) (by decide) (by decide))) rws_mon rws_dp rws_dp wsD_shaped)) fun _ => et_test (ev_neR (R1 := RNs nm) (R2 := RNs nm) (er_names (ev_var rfl) hXu.at_) (er_of (ev_var rfl) fun G e => ⟨ln, rfl, e _ _ hlnu⟩) rns_mon rns_dp rns_dp (nsD_shaped layS))) rfl) (fun h => by cases h) fun _ Hv ev2 => ?_
  exact ⟨_, _, _, _, _, _, _, _, _, _, rfl, e0.trans ((((((ec.trans eHc).trans em).trans ek).trans ed).trans er).trans (e_ru.trans ev2))⟩
end
end Tb

/-! ## TbHd -/
set_option Elab.async false
set_option linter.all false
set_option maxRecDepth 100000
set_option maxHeartbeats 0
namespace Tb
open PySem PySem.Spec PyProof.Rows L2
def d_is_whole : He.DefD := ⟨("is_whole", none), "is_whole", "is_whole", defArgs s_is_whole, defBody s_is_whole, defScope s_is_whole, [], []⟩
def d_common_part : He.DefD := ⟨("common_part", none), "common_part", "common_part", defArgs s_common_part, defBody s_common_part, defScope s_common_part, [], []⟩
def d_is_worth : He.DefD := ⟨("is_worth", none), "is_worth", "is_worth", defArgs s_is_worth, defBody s_is_worth, defScope s_is_worth, [], []⟩
def d_worth : He.DefD := ⟨("worth", none), "worth", "worth", defArgs s_worth, defBody s_worth, defScope s_worth, [.int 1], []⟩
def d_plus : He.DefD := ⟨("plus", none), "plus", "plus", defArgs s_plus, defBody s_plus, defScope s_plus, [], []⟩
def d_minus : He.DefD := ⟨("minus", none), "minus", "minus", defArgs s_minus, defBody s_minus, defScope s_minus, [], []⟩
def d_times : He.DefD := ⟨("times", none), "times", "times", defArgs s_times, defBody s_times, defScope s_times, [], []⟩
def d_over : He.DefD := ⟨("over", none), "over", "over", defArgs s_over, defBody s_over, defScope s_over, [], []⟩
def d_is_less : He.DefD := ⟨("is_less", none), "is_less", "is_less", defArgs s_is_less, defBody s_is_less, defScope s_is_less, [], []⟩
def d_rounds_in : He.DefD := ⟨("rounds_in", none), "rounds_in", "rounds_in", defArgs s_rounds_in, defBody s_rounds_in, defScope s_rounds_in, [], []⟩
def d_rest_of : He.DefD := ⟨("rest_of", none), "rest_of", "rest_of", defArgs s_rest_of, defBody s_rest_of, defScope s_rest_of, [], []⟩
def d_Line_init : He.DefD := ⟨("Line", some "__init__"), "__init__", "Line.__init__", defArgs s_Line_init, defBody s_Line_init, defScope s_Line_init, [], [("up", .bl true)]⟩
def d_Line_phase_of : He.DefD := ⟨("Line", some "phase_of"), "phase_of", "Line.phase_of", defArgs s_Line_phase_of, defBody s_Line_phase_of, defScope s_Line_phase_of, [], []⟩
def d_Line_phase : He.DefD := ⟨("Line", some "phase"), "phase", "Line.phase", defArgs s_Line_phase, defBody s_Line_phase, defScope s_Line_phase, [], []⟩
def d_Line_rises : He.DefD := ⟨("Line", some "rises"), "rises", "Line.rises", defArgs s_Line_rises, defBody s_Line_rises, defScope s_Line_rises, [], []⟩
def d_Line_value : He.DefD := ⟨("Line", some "value"), "value", "Line.value", defArgs s_Line_value, defBody s_Line_value, defScope s_Line_value, [], []⟩
def d_are_rising : He.DefD := ⟨("are_rising", none), "are_rising", "are_rising", defArgs s_are_rising, defBody s_are_rising, defScope s_are_rising, [], []⟩
def d_are_steps : He.DefD := ⟨("are_steps", none), "are_steps", "are_steps", defArgs s_are_steps, defBody s_are_steps, defScope s_are_steps, [], []⟩
def d_Zones_init : He.DefD := ⟨("Zones", some "__init__"), "__init__", "Zones.__init__", defArgs s_Zones_init, defBody s_Zones_init, defScope s_Zones_init, [], []⟩
def d_Zones_zone_of : He.DefD := ⟨("Zones", some "zone_of"), "zone_of", "Zones.zone_of", defArgs s_Zones_zone_of, defBody s_Zones_zone_of, defScope s_Zones_zone_of, [], []⟩
def d_Zones_evened : He.DefD := ⟨("Zones", some "evened"), "evened", "Zones.evened", defArgs s_Zones_evened, defBody s_Zones_evened, defScope s_Zones_evened, [], []⟩
def d_Zones_place_of : He.DefD := ⟨("Zones", some "place_of"), "place_of", "Zones.place_of", defArgs s_Zones_place_of, defBody s_Zones_place_of, defScope s_Zones_place_of, [], []⟩
def d_Zones_value : He.DefD := ⟨("Zones", some "value"), "value", "Zones.value", defArgs s_Zones_value, defBody s_Zones_value, defScope s_Zones_value, [], []⟩
def d_is_name : He.DefD := ⟨("is_name", none), "is_name", "is_name", defArgs s_is_name, defBody s_is_name, defScope s_is_name, [], []⟩
def d_are_corners : He.DefD := ⟨("are_corners", none), "are_corners", "are_corners", defArgs s_are_corners, defBody s_are_corners, defScope s_are_corners, [], []⟩
def d_is_made : He.DefD := ⟨("is_made", none), "is_made", "is_made", defArgs s_is_made, defBody s_is_made, defScope s_is_made, [], []⟩
def d_between : He.DefD := ⟨("between", none), "between", "between", defArgs s_between, defBody s_between, defScope s_between, [], []⟩
def d_Table_init : He.DefD := ⟨("Table", some "__init__"), "__init__", "Table.__init__", defArgs s_Table_init, defBody s_Table_init, defScope s_Table_init, [], []⟩
def d_Table_names : He.DefD := ⟨("Table", some "names"), "names", "Table.names", defArgs s_Table_names, defBody s_Table_names, defScope s_Table_names, [], []⟩
def d_Table_rule_of : He.DefD := ⟨("Table", some "rule_of"), "rule_of", "Table.rule_of", defArgs s_Table_rule_of, defBody s_Table_rule_of, defScope s_Table_rule_of, [], []⟩
def d_Table_value : He.DefD := ⟨("Table", some "value"), "value", "Table.value", defArgs s_Table_value, defBody s_Table_value, defScope s_Table_value, [], []⟩
def d_Table_summed : He.DefD := ⟨("Table", some "summed"), "summed", "Table.summed", defArgs s_Table_summed, defBody s_Table_summed, defScope s_Table_summed, [], []⟩
def d_Table_stretch : He.DefD := ⟨("Table", some "stretch"), "stretch", "Table.stretch", defArgs s_Table_stretch, defBody s_Table_stretch, defScope s_Table_stretch, [], []⟩
def d_Table_worths : He.DefD := ⟨("Table", some "worths"), "worths", "Table.worths", defArgs s_Table_worths, defBody s_Table_worths, defScope s_Table_worths, [], []⟩
def d_Table_run : He.DefD := ⟨("Table", some "run"), "run", "Table.run", defArgs s_Table_run, defBody s_Table_run, defScope s_Table_run, [], []⟩
def d_Table_line : He.DefD := ⟨("Table", some "line"), "line", "Table.line", defArgs s_Table_line, defBody s_Table_line, defScope s_Table_line, [], []⟩
def d_kept : He.DefD := ⟨("kept", none), "kept", "kept", defArgs s_kept, defBody s_kept, defScope s_kept, [], []⟩
def d_l_digits : He.DefD := ⟨("_law_digits", none), "_law_digits", "_law_digits", defArgs s_l_digits, defBody s_l_digits, defScope s_l_digits, [], []⟩
def d_l_low : He.DefD := ⟨("_law_low", none), "_law_low", "_law_low", defArgs s_l_low, defBody s_l_low, defScope s_l_low, [], []⟩
def d_l_add : He.DefD := ⟨("_law_add", none), "_law_add", "_law_add", defArgs s_l_add, defBody s_l_add, defScope s_l_add, [], []⟩
def d_l_take : He.DefD := ⟨("_law_take", none), "_law_take", "_law_take", defArgs s_l_take, defBody s_l_take, defScope s_l_take, [], []⟩
def d_l_by : He.DefD := ⟨("_law_by", none), "_law_by", "_law_by", defArgs s_l_by, defBody s_l_by, defScope s_l_by, [], []⟩
def d_l_less : He.DefD := ⟨("_law_less", none), "_law_less", "_law_less", defArgs s_l_less, defBody s_l_less, defScope s_l_less, [], []⟩
def d_l_unit : He.DefD := ⟨("_law_unit", none), "_law_unit", "_law_unit", defArgs s_l_unit, defBody s_l_unit, defScope s_l_unit, [], []⟩
def d_l_drawn_line : He.DefD := ⟨("_law_drawn_line", none), "_law_drawn_line", "_law_drawn_line", defArgs s_l_drawn_line, defBody s_l_drawn_line, defScope s_l_drawn_line, [], []⟩
def d_l_drawn_zones : He.DefD := ⟨("_law_drawn_zones", none), "_law_drawn_zones", "_law_drawn_zones", defArgs s_l_drawn_zones, defBody s_l_drawn_zones, defScope s_l_drawn_zones, [], []⟩
def d_l_base : He.DefD := ⟨("_law_base", none), "_law_base", "_law_base", defArgs s_l_base, defBody s_l_base, defScope s_l_base, [], []⟩
def d_l_drawn_corners : He.DefD := ⟨("_law_drawn_corners", none), "_law_drawn_corners", "_law_drawn_corners", defArgs s_l_drawn_corners, defBody s_l_drawn_corners, defScope s_l_drawn_corners, [], []⟩
def d_l_drawn_columns : He.DefD := ⟨("_law_drawn_columns", none), "_law_drawn_columns", "_law_drawn_columns", defArgs s_l_drawn_columns, defBody s_l_drawn_columns, defScope s_l_drawn_columns, [], []⟩
def d_l_bent : He.DefD := ⟨("_law_bent", none), "_law_bent", "_law_bent", defArgs s_l_bent, defBody s_l_bent, defScope s_l_bent, [], []⟩
def d_l_all_worths : He.DefD := ⟨("_law_all_worths", none), "_law_all_worths", "_law_all_worths", defArgs s_l_all_worths, defBody s_l_all_worths, defScope s_l_all_worths, [], []⟩
def d_l_run : He.DefD := ⟨("_law_run", none), "_law_run", "_law_run", defArgs s_l_run, defBody s_l_run, defScope s_l_run, [], []⟩
def d_l_own : He.DefD := ⟨("_law_own", none), "_law_own", "_law_own", defArgs s_l_own, defBody s_l_own, defScope s_l_own, [], []⟩
def d_law : He.DefD := ⟨("law", none), "law", "law", defArgs s_law, defBody s_law, defScope s_law, [], []⟩
def fn : List He.DefD := [d_is_whole, d_common_part, d_is_worth, d_worth, d_plus, d_minus, d_times, d_over, d_is_less, d_rounds_in, d_rest_of, d_Line_init, d_Line_phase_of, d_Line_phase, d_Line_rises, d_Line_value, d_are_rising, d_are_steps, d_Zones_init, d_Zones_zone_of, d_Zones_evened, d_Zones_place_of, d_Zones_value, d_is_name, d_are_corners, d_is_made, d_between, d_Table_init, d_Table_names, d_Table_rule_of, d_Table_value, d_Table_summed, d_Table_stretch, d_Table_worths, d_Table_run, d_Table_line, d_kept, d_l_digits, d_l_low, d_l_add, d_l_take, d_l_by, d_l_less, d_l_unit, d_l_drawn_line, d_l_drawn_zones, d_l_base, d_l_drawn_corners, d_l_drawn_columns, d_l_bent, d_l_all_worths, d_l_run, d_l_own, d_law]
def fa : List He.Fa := [.glo "is_whole",
  .glo "common_part",
  .glo "is_worth",
  .glo "worth",
  .glo "plus",
  .glo "minus",
  .glo "times",
  .glo "over",
  .glo "is_less",
  .glo "rounds_in",
  .glo "rest_of",
  .glo "are_rising",
  .glo "are_steps",
  .glo "is_name",
  .glo "are_corners",
  .glo "is_made",
  .glo "between",
  .glo "kept",
  .glo "_law_digits",
  .glo "_law_low",
  .glo "_law_add",
  .glo "_law_take",
  .glo "_law_by",
  .glo "_law_less",
  .glo "_law_unit",
  .glo "_law_drawn_line",
  .glo "_law_drawn_zones",
  .glo "_law_base",
  .glo "_law_drawn_corners",
  .glo "_law_drawn_columns",
  .glo "_law_bent",
  .glo "_law_all_worths",
  .glo "_law_run",
  .glo "_law_own",
  .glo "law",
  .glo "Line",
  .cls "Line",
  .mkr "Line",
  .glo "Zones",
  .cls "Zones",
  .mkr "Zones",
  .glo "Table",
  .cls "Table",
  .mkr "Table",
  .glo "NOUGHT",
  .glo "MADE",
  .noat "Line" "low",
  .noat "Line" "high",
  .noat "Line" "step",
  .noat "Line" "turn",
  .noat "Line" "begin",
  .noat "Zones" "ring",
  .noat "Zones" "borders",
  .noat "Zones" "steps",
  .noat "Zones" "marks",
  .noat "Zones" "begin",
  .noat "Table" "made",
  .noat "Table" "order",
  .meth "Line" "phase_of",
  .meth "Line" "phase",
  .meth "Line" "rises",
  .meth "Line" "value",
  .meth "Zones" "zone_of",
  .meth "Zones" "evened",
  .meth "Zones" "place_of",
  .meth "Zones" "value",
  .meth "Table" "names",
  .meth "Table" "rule_of",
  .meth "Table" "value",
  .meth "Table" "summed",
  .meth "Table" "stretch",
  .meth "Table" "worths",
  .meth "Table" "run",
  .meth "Table" "line",
  .free "isinstance",
  .free "int",
  .free "bool",
  .free "abs",
  .free "len",
  .free "tuple",
  .free "list",
  .free "str",
  .free "all",
  .free "max",
  .free "enumerate",
  .free "zip",
  .free "range",
  .int "MOST_ZONES" 12,
  .int "MOST_COLUMNS" 12,
  .int "MOST_CORNERS" 12,
  .int "MOST_SUMMED" 5000,
  .str "SMALL" "abcdefghijklmnopqrstuvwxyz"]
def ts : List He.Tab := [((fun K => He.ga K "MADE"), ["sum", "less", "times", "along", "by"])]
def kit (K : PySem.W.Frag) (t u : Value) (b : Bool) : Bool := decide (PySem.W.kitOne K t u = some b)
def oty (K : PySem.W.Frag) (C : Addr) : Bool := decide (PySem.W.findIn K (.ref C) "__class__" = some (some (.builtin "object.__class__"))) && decide (PySem.W.mroIn K C (.type "object") = some true)
def keyB (K : PySem.W.Frag) (s : PySem.Str) : Bool := match PySem.W.nsIn K (He.ga K "MADE") s with
  | some (some _) => true
  | _ => false
def ex (K : PySem.W.Frag) : Bool := ((["sum", "less", "times", "along", "by"] : List PySem.Str).all (keyB K)) && (He.tupB K "NOUGHT" [.int 0, .int 1] &&
  (decide (PySem.W.specialIn K (.builtin "object.__class__") "__get__" = some (some (.builtin "getset_descriptor.__get__"))) && (decide (PySem.W.takesIn K (.builtin "object.__class__") = some true) &&
  (oty K (He.ga K "Line") && (oty K (He.ga K "Zones") &&
  (kit K (.ref (He.ga K "Line")) (.ref (He.ga K "Line")) true && (kit K (.ref (He.ga K "Zones")) (.ref (He.ga K "Line")) false && (kit K (.ref (He.ga K "Zones")) (.ref (He.ga K "Zones")) true &&
  (kit K (.type "tuple") (.ref (He.ga K "Line")) false && (kit K (.type "tuple") (.ref (He.ga K "Zones")) false &&
  (kit K (.ref (He.ga K "Line")) (.type "tuple") false && kit K (.ref (He.ga K "Zones")) (.type "tuple") false)))))))))))
def names0 : List PySem.Str := ["_wall", "SkyError", "NoWorth", "NoRule", "NoColumn", "NoReturn", "TooMany", "NOUGHT", "is_whole", "common_part", "is_worth", "worth", "plus", "minus", "times"]
def names1 : List PySem.Str := ["over", "is_less", "rounds_in", "rest_of", "Line", "MOST_ZONES", "are_rising", "are_steps", "Zones", "SMALL", "MOST_COLUMNS", "MOST_CORNERS", "MOST_SUMMED", "MADE", "is_name"]
def names2 : List PySem.Str := ["are_corners", "is_made", "between", "Table", "both_return", "kept", "_law_cell", "_law_digits", "_law_low", "_law_add", "_law_take", "_law_by", "_law_less", "_law_unit", "_law_drawn_line"]
def names3 : List PySem.Str := ["_law_one_on", "_law_drawn_zones", "_law_on", "_law_base", "_law_drawn_corners", "_law_drawn_columns", "_law_bent", "_law_all_worths", "_law_run", "_law_own"]
def names : List PySem.Str := names0 ++ (names1 ++ (names2 ++ (names3)))
abbrev R : PySem.W.OpenRow := PySem.W.OpenLaw.row PySem.Challenge.rw_tabletsky_k21_whole_tables_row_by_row
abbrev qv : Program := PySem.W.view R.prog [61]
abbrev hk : PySem.W.Hook := He.hookX 5 fa fn ts [] ex
def ob (s : PySem.W.SharedT) : He.AlX := He.obsX 5 fa fn ts [] ex (HandSHeadRun.getT s)
theorem ob_eq (s : PySem.W.SharedT) : ob s = hk.obs s.abs := He.obsX_eq (HandSHeadRun.getT_eq s)
theorem runF (w : World) : HandSHeadRun.RunEq R qv hk ob 6000 names (w.withFollow "special-get-raises" false) := by
  intro os
  kernel_rfl
theorem runT (w : World) : HandSHeadRun.RunEq R qv hk ob 6000 names (w.withFollow "special-get-raises" true) := by
  intro os
  kernel_rfl
theorem run (w : World) : HandSHeadRun.RunEq R qv hk ob 6000 names w := PySem.W.byRow2 "special-get-raises" (P := fun w => HandSHeadRun.RunEq R qv hk ob 6000 names w) runF runT w
end Tb

/-! ## TbAll -/
set_option Elab.async false
set_option linter.all false
set_option maxRecDepth 100000
set_option maxHeartbeats 4000000
namespace Tb
open PySem PySem.Spec PyProof.Rows L2
theorem fun_kbN {K : PySem.W.Frag} {x qual : Str} {params : Arguments} {body : List Stmt} {scope : Scope} {kws : List (Str × V)} {f : Addr} {fd : FuncData} {ps : List Str} (F : FunD K x qual params body scope [] kws f fd) (n : Nat) (ks : List Str)
    (h : ∀ (kV doc pm : Value) (an : Option Addr) (cdv ct : Value) (us ws : List Value), us.length = n → ws.length = ks.length → bindArgs (PySem.W.fnOf x qual params body scope .none kV doc pm an cdv ct) ⟨us, ks.zip ws⟩ = pure (ps.zip (us ++ ws))) :
    KBn K fd ps n ks (fun us ws => us ++ ws) (fun vs zs => vs ++ zs) := by
  obtain ⟨oc, od, dV, kV, doc, pm, an, cdv, ct, osl, rfl, lk, hcd, hD, hK⟩ := F.ex
  rcases hD with ⟨_, rfl⟩ | ⟨e, _⟩
  · exact ⟨fun s us ws X l1 l2 => .of_eq (h kV doc pm an cdv ct us ws l1 l2), fun r1 r2 => r1.append r2⟩
  · exact absurd rfl e
theorem txt {w : World} {K : PySem.W.Frag} {h : Heap} {mg : Str → Option Value} (X : K.In h) (G : h.Ns mainGlobals mg) (c : He.SaysX fa fn ts [] ex w h K) :
    Txt K w mg (He.ga K "Line") (He.ga K "Zones") (He.ga K "Table") (He.ga K "NOUGHT") (He.ga K "MADE") := by
  have D := c.t.d
  have hx := c.more
  unfold ex kit oty at hx
  simp only [Bool.and_eq_true, decide_eq_true_eq] at hx
  obtain ⟨x1, x2, x3, x4, ⟨x5, x6⟩, ⟨x7, x8⟩, x9, x10, x11, x12, x13, x14, x15⟩ := hx
  have k_Line : Cls K (He.ga K "Line") := He.cls_ok (D.fact 36 (f := .cls "Line") rfl)
  have k_Zones : Cls K (He.ga K "Zones") := He.cls_ok (D.fact 39 (f := .cls "Zones") rfl)
  have k_Table : Cls K (He.ga K "Table") := He.cls_ok (D.fact 42 (f := .cls "Table") rfl)
  exact {
    f_isinstance := He.free_ok X G (D.fact 74 (f := .free "isinstance") rfl)
    f_int := He.free_ok X G (D.fact 75 (f := .free "int") rfl)
    f_bool := He.free_ok X G (D.fact 76 (f := .free "bool") rfl)
    f_abs := He.free_ok X G (D.fact 77 (f := .free "abs") rfl)
    f_len := He.free_ok X G (D.fact 78 (f := .free "len") rfl)
    f_tuple := He.free_ok X G (D.fact 79 (f := .free "tuple") rfl)
    f_list := He.free_ok X G (D.fact 80 (f := .free "list") rfl)
    f_str := He.free_ok X G (D.fact 81 (f := .free "str") rfl)
    f_all := He.free_ok X G (D.fact 82 (f := .free "all") rfl)
    f_max := He.free_ok X G (D.fact 83 (f := .free "max") rfl)
    f_enumerate := He.free_ok X G (D.fact 84 (f := .free "enumerate") rfl)
    f_zip := He.free_ok X G (D.fact 85 (f := .free "zip") rfl)
    f_range := He.free_ok X G (D.fact 86 (f := .free "range") rfl)
    g_Line := He.glo_ok X G (D.fact 35 (f := .glo "Line") rfl)
    g_Zones := He.glo_ok X G (D.fact 38 (f := .glo "Zones") rfl)
    g_Table := He.glo_ok X G (D.fact 41 (f := .glo "Table") rfl)
    g_NOUGHT := He.glo_ok X G (D.fact 44 (f := .glo "NOUGHT") rfl)
    g_MADE := He.glo_ok X G (D.fact 45 (f := .glo "MADE") rfl)
    nought := fun H => He.tupB_ok x2 H
    made := c.t.tab 0 (t := ((fun K => He.ga K "MADE"), ["sum", "less", "times", "along", "by"])) rfl
    keys := fun s hs => by
      have h := List.all_eq_true.mp x1 s hs
      unfold keyB at h
      cases e : PySem.W.nsIn K (He.ga K "MADE") s with
      | none =>
        rw [e] at h
        cases h
      | some r =>
        cases r with
        | none =>
          rw [e] at h
          cases h
        | some u => exact ⟨u, rfl⟩
    zones := He.int_ok X G (D.fact 87 (f := .int "MOST_ZONES" 12) rfl)
    columns := He.int_ok X G (D.fact 88 (f := .int "MOST_COLUMNS" 12) rfl)
    corners := He.int_ok X G (D.fact 89 (f := .int "MOST_CORNERS" 12) rfl)
    summed := He.int_ok X G (D.fact 90 (f := .int "MOST_SUMMED" 5000) rfl)
    small := He.str_ok X G (D.fact 91 (f := .str "SMALL" "abcdefghijklmnopqrstuvwxyz") rfl)
    c_Line := k_Line
    c_Zones := k_Zones
    c_Table := k_Table
    l_low := He.noat_ok (D.fact 46 (f := .noat "Line" "low") rfl)
    l_high := He.noat_ok (D.fact 47 (f := .noat "Line" "high") rfl)
    l_step := He.noat_ok (D.fact 48 (f := .noat "Line" "step") rfl)
    l_turn := He.noat_ok (D.fact 49 (f := .noat "Line" "turn") rfl)
    l_begin := He.noat_ok (D.fact 50 (f := .noat "Line" "begin") rfl)
    z_ring := He.noat_ok (D.fact 51 (f := .noat "Zones" "ring") rfl)
    z_borders := He.noat_ok (D.fact 52 (f := .noat "Zones" "borders") rfl)
    z_steps := He.noat_ok (D.fact 53 (f := .noat "Zones" "steps") rfl)
    z_marks := He.noat_ok (D.fact 54 (f := .noat "Zones" "marks") rfl)
    z_begin := He.noat_ok (D.fact 55 (f := .noat "Zones" "begin") rfl)
    t_made := He.noat_ok (D.fact 56 (f := .noat "Table" "made") rfl)
    t_order := He.noat_ok (D.fact 57 (f := .noat "Table" "order") rfl)
    y_line := fun e => .base (.ins e k_Line x5 x3 x4 x6)
    y_zones := fun e => .base (.ins e k_Zones x7 x3 x4 x8)
    i_ll := x9
    i_zl := x10
    i_zz := x11
    i_tl := x12
    i_tz := x13
    i_lt := x14
    i_zt := x15
  }
theorem facts {P : Program} {w : World} {K : PySem.W.Frag} {h : Heap} {mg : Str → Option Value} {f : Addr} (X : K.In h) (G : h.Ns mainGlobals mg) (hfa : mg ("law" : Str) = some (.ref f)) (c : He.SaysX fa fn ts [] ex w h K) :
    ∃ fd : FuncData, (∀ (s : Shared) (v : Value), BindsTo s fd ⟨[v], []⟩ [("_law_script", v)]) ∧ ∀ base : Heap, K.In base → base.Ns mainGlobals mg → FnOk P w K mg base CX0 46 f fd ["_law_script"] (spLaw K) := by
  have D := c.t.d
  have T := txt X G c
  obtain ⟨fd_is_whole, F_is_whole⟩ := D.def_ 0 (d := d_is_whole) rfl
  obtain ⟨fd_common_part, F_common_part⟩ := D.def_ 1 (d := d_common_part) rfl
  obtain ⟨fd_is_worth, F_is_worth⟩ := D.def_ 2 (d := d_is_worth) rfl
  obtain ⟨fd_worth, F_worth⟩ := D.def_ 3 (d := d_worth) rfl
  obtain ⟨fd_plus, F_plus⟩ := D.def_ 4 (d := d_plus) rfl
  obtain ⟨fd_minus, F_minus⟩ := D.def_ 5 (d := d_minus) rfl
  obtain ⟨fd_times, F_times⟩ := D.def_ 6 (d := d_times) rfl
  obtain ⟨fd_over, F_over⟩ := D.def_ 7 (d := d_over) rfl
  obtain ⟨fd_is_less, F_is_less⟩ := D.def_ 8 (d := d_is_less) rfl
  obtain ⟨fd_rounds_in, F_rounds_in⟩ := D.def_ 9 (d := d_rounds_in) rfl
  obtain ⟨fd_rest_of, F_rest_of⟩ := D.def_ 10 (d := d_rest_of) rfl
  obtain ⟨fd_Line_init, F_Line_init⟩ := D.def_ 11 (d := d_Line_init) rfl
  obtain ⟨fd_Line_phase_of, F_Line_phase_of⟩ := D.def_ 12 (d := d_Line_phase_of) rfl
  obtain ⟨fd_Line_phase, F_Line_phase⟩ := D.def_ 13 (d := d_Line_phase) rfl
  obtain ⟨fd_Line_rises, F_Line_rises⟩ := D.def_ 14 (d := d_Line_rises) rfl
  obtain ⟨fd_Line_value, F_Line_value⟩ := D.def_ 15 (d := d_Line_value) rfl
  obtain ⟨fd_are_rising, F_are_rising⟩ := D.def_ 16 (d := d_are_rising) rfl
  obtain ⟨fd_are_steps, F_are_steps⟩ := D.def_ 17 (d := d_are_steps) rfl
  obtain ⟨fd_Zones_init, F_Zones_init⟩ := D.def_ 18 (d := d_Zones_init) rfl
  obtain ⟨fd_Zones_zone_of, F_Zones_zone_of⟩ := D.def_ 19 (d := d_Zones_zone_of) rfl
  obtain ⟨fd_Zones_evened, F_Zones_evened⟩ := D.def_ 20 (d := d_Zones_evened) rfl
  obtain ⟨fd_Zones_place_of, F_Zones_place_of⟩ := D.def_ 21 (d := d_Zones_place_of) rfl
  obtain ⟨fd_Zones_value, F_Zones_value⟩ := D.def_ 22 (d := d_Zones_value) rfl
  obtain ⟨fd_is_name, F_is_name⟩ := D.def_ 23 (d := d_is_name) rfl
  obtain ⟨fd_are_corners, F_are_corners⟩ := D.def_ 24 (d := d_are_corners) rfl
  obtain ⟨fd_is_made, F_is_made⟩ := D.def_ 25 (d := d_is_made) rfl
  obtain ⟨fd_between, F_between⟩ := D.def_ 26 (d := d_between) rfl
  obtain ⟨fd_Table_init, F_Table_init⟩ := D.def_ 27 (d := d_Table_init) rfl
  obtain ⟨fd_Table_names, F_Table_names⟩ := D.def_ 28 (d := d_Table_names) rfl
  obtain ⟨fd_Table_rule_of, F_Table_rule_of⟩ := D.def_ 29 (d := d_Table_rule_of) rfl
  obtain ⟨fd_Table_value, F_Table_value⟩ := D.def_ 30 (d := d_Table_value) rfl
  obtain ⟨fd_Table_summed, F_Table_summed⟩ := D.def_ 31 (d := d_Table_summed) rfl
  obtain ⟨fd_Table_stretch, F_Table_stretch⟩ := D.def_ 32 (d := d_Table_stretch) rfl
  obtain ⟨fd_Table_worths, F_Table_worths⟩ := D.def_ 33 (d := d_Table_worths) rfl
  obtain ⟨fd_Table_run, F_Table_run⟩ := D.def_ 34 (d := d_Table_run) rfl
  obtain ⟨fd_Table_line, F_Table_line⟩ := D.def_ 35 (d := d_Table_line) rfl
  obtain ⟨fd_kept, F_kept⟩ := D.def_ 36 (d := d_kept) rfl
  obtain ⟨fd_l_digits, F_l_digits⟩ := D.def_ 37 (d := d_l_digits) rfl
  obtain ⟨fd_l_low, F_l_low⟩ := D.def_ 38 (d := d_l_low) rfl
  obtain ⟨fd_l_add, F_l_add⟩ := D.def_ 39 (d := d_l_add) rfl
  obtain ⟨fd_l_take, F_l_take⟩ := D.def_ 40 (d := d_l_take) rfl
  obtain ⟨fd_l_by, F_l_by⟩ := D.def_ 41 (d := d_l_by) rfl
  obtain ⟨fd_l_less, F_l_less⟩ := D.def_ 42 (d := d_l_less) rfl
  obtain ⟨fd_l_unit, F_l_unit⟩ := D.def_ 43 (d := d_l_unit) rfl
  obtain ⟨fd_l_drawn_line, F_l_drawn_line⟩ := D.def_ 44 (d := d_l_drawn_line) rfl
  obtain ⟨fd_l_drawn_zones, F_l_drawn_zones⟩ := D.def_ 45 (d := d_l_drawn_zones) rfl
  obtain ⟨fd_l_base, F_l_base⟩ := D.def_ 46 (d := d_l_base) rfl
  obtain ⟨fd_l_drawn_corners, F_l_drawn_corners⟩ := D.def_ 47 (d := d_l_drawn_corners) rfl
  obtain ⟨fd_l_drawn_columns, F_l_drawn_columns⟩ := D.def_ 48 (d := d_l_drawn_columns) rfl
  obtain ⟨fd_l_bent, F_l_bent⟩ := D.def_ 49 (d := d_l_bent) rfl
  obtain ⟨fd_l_all_worths, F_l_all_worths⟩ := D.def_ 50 (d := d_l_all_worths) rfl
  obtain ⟨fd_l_run, F_l_run⟩ := D.def_ 51 (d := d_l_run) rfl
  obtain ⟨fd_l_own, F_l_own⟩ := D.def_ 52 (d := d_l_own) rfl
  obtain ⟨fd_law, F_law⟩ := D.def_ 53 (d := d_law) rfl
  have e := hfa.symm.trans (He.glo_ok X G (D.fact 34 (f := .glo "law") rfl))
  cases e
  have b := FunD.bindsA (ps := ["_law_script"]) F_law fun _ _ _ _ _ _ us hl => match us, hl with | [_], _ => rfl
  refine ⟨fd_law, fun s v => b s [v] rfl, fun base _ _ => ?_⟩
  have h_is_whole : Fn P w K mg base _ "is_whole" _ _ := ⟨_, fd_is_whole, (ok_is_whole T F_is_whole), He.glo_ok X G (D.fact 0 (f := .glo "is_whole") rfl), F_is_whole.kp, (F_is_whole.bindsN fun _ _ _ _ _ _ us hl => match us, hl with | [_], _ => rfl)⟩
  have h_common_part : Fn P w K mg base _ "common_part" _ _ := ⟨_, fd_common_part, (ok_common_part T F_common_part), He.glo_ok X G (D.fact 1 (f := .glo "common_part") rfl), F_common_part.kp, (F_common_part.bindsN fun _ _ _ _ _ _ us hl => match us, hl with | [_, _], _ => rfl)⟩
  have h_is_worth : Fn P w K mg base _ "is_worth" _ _ := ⟨_, fd_is_worth, (ok_is_worth T h_is_whole h_common_part F_is_worth), He.glo_ok X G (D.fact 2 (f := .glo "is_worth") rfl), F_is_worth.kp, (F_is_worth.bindsN fun _ _ _ _ _ _ us hl => match us, hl with | [_], _ => rfl)⟩
  obtain ⟨ds, hds, hbw⟩ := F_worth.binds1 (ps := ["top", "bottom"]) 2 1 (List.cons_ne_nil _ _) rfl fun _ _ _ _ _ _ _ us its hu hi => match us, its, hu, hi with | [_, _], [_], _, _ => ⟨_, rfl, rfl⟩
  cases hds
  have h_worth : Fn P w K mg base _ "worth" _ _ := ⟨_, fd_worth, (ok_worth h_is_whole h_common_part F_worth), He.glo_ok X G (D.fact 3 (f := .glo "worth") rfl), F_worth.kp, hbw⟩
  have h_plus : Fn P w K mg base _ "plus" _ _ := ⟨_, fd_plus, (ok_plus h_worth F_plus), He.glo_ok X G (D.fact 4 (f := .glo "plus") rfl), F_plus.kp, (F_plus.bindsN fun _ _ _ _ _ _ us hl => match us, hl with | [_, _], _ => rfl)⟩
  have h_minus : Fn P w K mg base _ "minus" _ _ := ⟨_, fd_minus, (ok_minus h_worth F_minus), He.glo_ok X G (D.fact 5 (f := .glo "minus") rfl), F_minus.kp, (F_minus.bindsN fun _ _ _ _ _ _ us hl => match us, hl with | [_, _], _ => rfl)⟩
  have h_times : Fn P w K mg base _ "times" _ _ := ⟨_, fd_times, (ok_times h_worth F_times), He.glo_ok X G (D.fact 6 (f := .glo "times") rfl), F_times.kp, (F_times.bindsN fun _ _ _ _ _ _ us hl => match us, hl with | [_, _], _ => rfl)⟩
  have h_over : Fn P w K mg base _ "over" _ _ := ⟨_, fd_over, (ok_over h_worth F_over), He.glo_ok X G (D.fact 7 (f := .glo "over") rfl), F_over.kp, (F_over.bindsN fun _ _ _ _ _ _ us hl => match us, hl with | [_, _], _ => rfl)⟩
  have h_is_less : Fn P w K mg base _ "is_less" _ _ := ⟨_, fd_is_less, (ok_is_less F_is_less), He.glo_ok X G (D.fact 8 (f := .glo "is_less") rfl), F_is_less.kp, (F_is_less.bindsN fun _ _ _ _ _ _ us hl => match us, hl with | [_, _], _ => rfl)⟩
  have h_rounds_in : Fn P w K mg base _ "rounds_in" _ _ := ⟨_, fd_rounds_in, (ok_rounds_in F_rounds_in), He.glo_ok X G (D.fact 9 (f := .glo "rounds_in") rfl), F_rounds_in.kp, (F_rounds_in.bindsN fun _ _ _ _ _ _ us hl => match us, hl with | [_, _], _ => rfl)⟩
  have h_rest_of : Fn P w K mg base _ "rest_of" _ _ := ⟨_, fd_rest_of, (ok_rest_of h_minus h_times h_rounds_in F_rest_of), He.glo_ok X G (D.fact 10 (f := .glo "rest_of") rfl), F_rest_of.kp, (F_rest_of.bindsN fun _ _ _ _ _ _ us hl => match us, hl with | [_, _], _ => rfl)⟩
  have h_l_low : Fn P w K mg base _ "_law_low" _ _ := ⟨_, fd_l_low, (ok_l_low T F_l_low), He.glo_ok X G (D.fact 19 (f := .glo "_law_low") rfl), F_l_low.kp, (F_l_low.bindsN fun _ _ _ _ _ _ us hl => match us, hl with | [_, _], _ => rfl)⟩
  have h_l_add : Fn P w K mg base _ "_law_add" _ _ := ⟨_, fd_l_add, (ok_l_add h_l_low F_l_add), He.glo_ok X G (D.fact 20 (f := .glo "_law_add") rfl), F_l_add.kp, (F_l_add.bindsN fun _ _ _ _ _ _ us hl => match us, hl with | [_, _], _ => rfl)⟩
  have h_l_take : Fn P w K mg base _ "_law_take" _ _ := ⟨_, fd_l_take, (ok_l_take h_l_low F_l_take), He.glo_ok X G (D.fact 21 (f := .glo "_law_take") rfl), F_l_take.kp, (F_l_take.bindsN fun _ _ _ _ _ _ us hl => match us, hl with | [_, _], _ => rfl)⟩
  have h_l_by : Fn P w K mg base _ "_law_by" _ _ := ⟨_, fd_l_by, (ok_l_by h_l_low F_l_by), He.glo_ok X G (D.fact 22 (f := .glo "_law_by") rfl), F_l_by.kp, (F_l_by.bindsN fun _ _ _ _ _ _ us hl => match us, hl with | [_, _], _ => rfl)⟩
  have h_l_less : Fn P w K mg base _ "_law_less" _ _ := ⟨_, fd_l_less, (ok_l_less F_l_less), He.glo_ok X G (D.fact 23 (f := .glo "_law_less") rfl), F_l_less.kp, (F_l_less.bindsN fun _ _ _ _ _ _ us hl => match us, hl with | [_, _], _ => rfl)⟩
  have h_Line_phase : Me P w K mg base (He.ga K "Line") _ "phase" _ _ := ⟨_, fd_Line_phase, (ok_Line_phase T h_plus h_times h_rest_of F_Line_phase), He.meth_ok (D.fact 59 (f := .meth "Line" "phase") rfl), (F_Line_phase.bindsN fun _ _ _ _ _ _ us hl => match us, hl with | [_, _], _ => rfl)⟩
  have h_Line_rises : Me P w K mg base (He.ga K "Line") _ "rises" _ _ := ⟨_, fd_Line_rises, (ok_Line_rises T h_minus h_is_less h_Line_phase F_Line_rises), He.meth_ok (D.fact 60 (f := .meth "Line" "rises") rfl), (F_Line_rises.bindsN fun _ _ _ _ _ _ us hl => match us, hl with | [_, _], _ => rfl)⟩
  have h_Line_value : Me P w K mg base (He.ga K "Line") _ "value" _ _ := ⟨_, fd_Line_value, (ok_Line_value T h_plus h_minus h_Line_phase h_Line_rises F_Line_value), He.meth_ok (D.fact 61 (f := .meth "Line" "value") rfl), (F_Line_value.bindsN fun _ _ _ _ _ _ us hl => match us, hl with | [_, _], _ => rfl)⟩
  have h_Line_phase_of : Me P w K mg base (He.ga K "Line") _ "phase_of" _ _ := ⟨_, fd_Line_phase_of, (ok_Line_phase_of T h_minus F_Line_phase_of), He.meth_ok (D.fact 58 (f := .meth "Line" "phase_of") rfl), (F_Line_phase_of.bindsN fun _ _ _ _ _ _ us hl => match us, hl with | [_, _, _], _ => rfl)⟩
  have h_mk_Line : MkK P w K mg base (He.ga K "Line") 5 ["self", "low", "high", "step", "at", "up"] ["low", "high", "step", "at", "up"] _ := ⟨_, fd_Line_init, He.mkr_ok (D.fact 37 (f := .mkr "Line") rfl), (ok_Line_init T h_minus h_times h_is_less h_is_worth h_Line_phase_of F_Line_init), fun_kbN F_Line_init 1 ["low", "high", "step", "at", "up"] fun _ _ _ _ _ _ us ws hl hw => match us, ws, hl, hw with | [_], [_, _, _, _, _], _, _ => rfl⟩
  have h_Zones_place_of : Me P w K mg base (He.ga K "Zones") _ "place_of" _ _ := ⟨_, fd_Zones_place_of, (ok_Zones_place_of T h_plus h_minus h_times h_is_less F_Zones_place_of), He.meth_ok (D.fact 64 (f := .meth "Zones" "place_of") rfl), (F_Zones_place_of.bindsN fun _ _ _ _ _ _ us hl => match us, hl with | [_, _], _ => rfl)⟩
  have h_Zones_value : Me P w K mg base (He.ga K "Zones") _ "value" _ _ := ⟨_, fd_Zones_value, (ok_Zones_value T h_plus h_rest_of h_Zones_place_of F_Zones_value), He.meth_ok (D.fact 65 (f := .meth "Zones" "value") rfl), (F_Zones_value.bindsN fun _ _ _ _ _ _ us hl => match us, hl with | [_, _], _ => rfl)⟩
  have h_Zones_zone_of : Me P w K mg base (He.ga K "Zones") _ "zone_of" _ _ := ⟨_, fd_Zones_zone_of, (ok_Zones_zone_of T h_is_less F_Zones_zone_of), He.meth_ok (D.fact 62 (f := .meth "Zones" "zone_of") rfl), (F_Zones_zone_of.bindsN fun _ _ _ _ _ _ us hl => match us, hl with | [_, _], _ => rfl)⟩
  have h_Zones_evened : Me P w K mg base (He.ga K "Zones") _ "evened" _ _ := ⟨_, fd_Zones_evened, (ok_Zones_evened T h_plus h_minus h_over h_Zones_zone_of F_Zones_evened), He.meth_ok (D.fact 63 (f := .meth "Zones" "evened") rfl), (F_Zones_evened.bindsN fun _ _ _ _ _ _ us hl => match us, hl with | [_, _], _ => rfl)⟩
  have h_are_rising : Fn P w K mg base _ "are_rising" _ _ := ⟨_, fd_are_rising, (ok_are_rising T h_is_worth h_is_less F_are_rising), He.glo_ok X G (D.fact 11 (f := .glo "are_rising") rfl), F_are_rising.kp, (F_are_rising.bindsN fun _ _ _ _ _ _ us hl => match us, hl with | [_, _], _ => rfl)⟩
  have h_are_steps : Fn P w K mg base _ "are_steps" _ _ := ⟨_, fd_are_steps, (ok_are_steps T h_is_worth h_is_less F_are_steps), He.glo_ok X G (D.fact 12 (f := .glo "are_steps") rfl), F_are_steps.kp, (F_are_steps.bindsN fun _ _ _ _ _ _ us hl => match us, hl with | [_, _], _ => rfl)⟩
  have h_mk_Zones : MkK P w K mg base (He.ga K "Zones") 5 ["self", "ring", "borders", "steps", "at"] ["ring", "borders", "steps", "at"] _ := ⟨_, fd_Zones_init, He.mkr_ok (D.fact 40 (f := .mkr "Zones") rfl), (ok_Zones_init T h_plus h_minus h_over h_is_less h_is_worth h_are_rising h_are_steps h_Zones_evened F_Zones_init), fun_kbN F_Zones_init 1 ["ring", "borders", "steps", "at"] fun _ _ _ _ _ _ us ws hl hw => match us, ws, hl, hw with | [_], [_, _, _, _], _, _ => rfl⟩
  have h_is_name : Fn P w K mg base _ "is_name" _ _ := ⟨_, fd_is_name, (ok_is_name T F_is_name), He.glo_ok X G (D.fact 13 (f := .glo "is_name") rfl), F_is_name.kp, (F_is_name.bindsN fun _ _ _ _ _ _ us hl => match us, hl with | [_], _ => rfl)⟩
  have h_are_corners : Fn P w K mg base _ "are_corners" _ _ := ⟨_, fd_are_corners, (ok_are_corners T h_is_worth h_is_less F_are_corners), He.glo_ok X G (D.fact 14 (f := .glo "are_corners") rfl), F_are_corners.kp, (F_are_corners.bindsN fun _ _ _ _ _ _ us hl => match us, hl with | [_], _ => rfl)⟩
  have h_between : Fn P w K mg base _ "between" _ _ := ⟨_, fd_between, (ok_between T h_plus h_minus h_times h_over h_is_less F_between), He.glo_ok X G (D.fact 16 (f := .glo "between") rfl), F_between.kp, (F_between.bindsN fun _ _ _ _ _ _ us hl => match us, hl with | [_, _], _ => rfl)⟩
  have h_kept : Fn P w K mg base _ "kept" _ _ := ⟨_, fd_kept, (ok_kept T F_kept), He.glo_ok X G (D.fact 17 (f := .glo "kept") rfl), F_kept.kp, (F_kept.bindsN fun _ _ _ _ _ _ us hl => match us, hl with | [_], _ => rfl)⟩
  have h_l_own : Fn P w K mg base _ "_law_own" _ _ := ⟨_, fd_l_own, (ok_l_own T F_l_own), He.glo_ok X G (D.fact 33 (f := .glo "_law_own") rfl), F_l_own.kp, (F_l_own.bindsN fun _ _ _ _ _ _ us hl => match us, hl with | [_], _ => rfl)⟩
  have h_is_made : Fn P w K mg base _ "is_made" _ _ := ⟨_, fd_is_made, (ok_is_made T h_is_worth h_are_corners F_is_made), He.glo_ok X G (D.fact 15 (f := .glo "is_made") rfl), F_is_made.kp, (F_is_made.bindsN fun _ _ _ _ _ _ us hl => match us, hl with | [_, _], _ => rfl)⟩
  have h_Table_rule_of : Me P w K mg base (He.ga K "Table") _ "rule_of" _ _ := ⟨_, fd_Table_rule_of, (ok_Table_rule_of T h_is_name h_kept F_Table_rule_of), He.meth_ok (D.fact 67 (f := .meth "Table" "rule_of") rfl), (F_Table_rule_of.bindsN fun _ _ _ _ _ _ us hl => match us, hl with | [_, _], _ => rfl)⟩
  have h_Table_names : Me P w K mg base (He.ga K "Table") _ "names" _ _ := ⟨_, fd_Table_names, (ok_Table_names T F_Table_names), He.meth_ok (D.fact 66 (f := .meth "Table" "names") rfl), (F_Table_names.bindsN fun _ _ _ _ _ _ us hl => match us, hl with | [_], _ => rfl)⟩
  have S_value : Std K (He.ga K "Table") "value" "Table.value" s_Table_value ["self", "name", "row"] := ⟨_, fd_Table_value, F_Table_value, He.meth_ok (D.fact 68 (f := .meth "Table" "value") rfl), (F_Table_value.bindsN fun _ _ _ _ _ _ us hl => match us, hl with | [_, _, _], _ => rfl)⟩
  have S_summed : Std K (He.ga K "Table") "summed" "Table.summed" s_Table_summed ["self", "name", "row"] := ⟨_, fd_Table_summed, F_Table_summed, He.meth_ok (D.fact 69 (f := .meth "Table" "summed") rfl), (F_Table_summed.bindsN fun _ _ _ _ _ _ us hl => match us, hl with | [_, _, _], _ => rfl)⟩
  have S_stretch : Std K (He.ga K "Table") "stretch" "Table.stretch" s_Table_stretch ["self", "name", "first", "end"] := ⟨_, fd_Table_stretch, F_Table_stretch, He.meth_ok (D.fact 70 (f := .meth "Table" "stretch") rfl), (F_Table_stretch.bindsN fun _ _ _ _ _ _ us hl => match us, hl with | [_, _, _, _], _ => rfl)⟩
  have S_worths : Std K (He.ga K "Table") "worths" "Table.worths" s_Table_worths ["self", "name", "first", "end"] := ⟨_, fd_Table_worths, F_Table_worths, He.meth_ok (D.fact 71 (f := .meth "Table" "worths") rfl), (F_Table_worths.bindsN fun _ _ _ _ _ _ us hl => match us, hl with | [_, _, _, _], _ => rfl)⟩
  have S_run : Std K (He.ga K "Table") "run" "Table.run" s_Table_run ["self", "name", "along", "first", "end"] := ⟨_, fd_Table_run, F_Table_run, He.meth_ok (D.fact 72 (f := .meth "Table" "run") rfl), (F_Table_run.bindsN fun _ _ _ _ _ _ us hl => match us, hl with | [_, _, _, _, _], _ => rfl)⟩
  have h_tab := tab_all T h_plus h_minus h_times h_between h_Line_value h_Zones_value h_Table_rule_of S_value S_summed S_stretch S_worths S_run 7
  have h_Table_value : Me P w K mg base (He.ga K "Table") 43 "value" ["self", "name", "row"] (spVal K (He.ga K "Line") (He.ga K "Zones") (He.ga K "Table") 7) := h_tab.1
  have h_Table_line : Me P w K mg base (He.ga K "Table") _ "line" _ _ := ⟨_, fd_Table_line, (ok_Table_line T h_Table_value F_Table_line), He.meth_ok (D.fact 73 (f := .meth "Table" "line") rfl), (F_Table_line.bindsN fun _ _ _ _ _ _ us hl => match us, hl with | [_, _], _ => rfl)⟩
  have h_mk_Table : MkP P w K mg base (He.ga K "Table") 5 ["self", "columns"] _ := ⟨_, fd_Table_init, He.mkr_ok (D.fact 43 (f := .mkr "Table") rfl), (ok_Table_init T h_is_name h_kept h_is_made F_Table_init), (F_Table_init.bindsN fun _ _ _ _ _ _ us hl => match us, hl with | [_, _], _ => rfl)⟩
  have h_l_digits : Fn P w K mg base _ "_law_digits" _ _ := ⟨_, fd_l_digits, (ok_l_digits T F_l_digits), He.glo_ok X G (D.fact 18 (f := .glo "_law_digits") rfl), F_l_digits.kp, (F_l_digits.bindsN fun _ _ _ _ _ _ us hl => match us, hl with | [_, _], _ => rfl)⟩
  have h_l_unit : Fn P w K mg base _ "_law_unit" _ _ := ⟨_, fd_l_unit, (ok_l_unit T h_l_low F_l_unit), He.glo_ok X G (D.fact 24 (f := .glo "_law_unit") rfl), F_l_unit.kp, (F_l_unit.bindsN fun _ _ _ _ _ _ us hl => match us, hl with | [_], _ => rfl)⟩
  have h_l_drawn_line : Fn P w K mg base _ "_law_drawn_line" _ _ := ⟨_, fd_l_drawn_line, (ok_l_drawn_line T h_l_low h_l_add h_l_by h_l_unit F_l_drawn_line), He.glo_ok X G (D.fact 25 (f := .glo "_law_drawn_line") rfl), F_l_drawn_line.kp, (F_l_drawn_line.bindsN fun _ _ _ _ _ _ us hl => match us, hl with | [_], _ => rfl)⟩
  have h_l_drawn_zones : Fn P w K mg base _ "_law_drawn_zones" _ _ := ⟨_, fd_l_drawn_zones, (ok_l_drawn_zones T h_l_low h_l_add h_l_by F_l_drawn_zones), He.glo_ok X G (D.fact 26 (f := .glo "_law_drawn_zones") rfl), F_l_drawn_zones.kp, (F_l_drawn_zones.bindsN fun _ _ _ _ _ _ us hl => match us, hl with | [_], _ => rfl)⟩
  have h_l_base : Fn P w K mg base _ "_law_base" _ _ := ⟨_, fd_l_base, (ok_l_base T h_l_drawn_zones h_l_drawn_line h_mk_Zones h_mk_Line F_l_base), He.glo_ok X G (D.fact 27 (f := .glo "_law_base") rfl), F_l_base.kp, (F_l_base.bindsN fun _ _ _ _ _ _ us hl => match us, hl with | [_], _ => rfl)⟩
  have h_l_drawn_corners : Fn P w K mg base _ "_law_drawn_corners" _ _ := ⟨_, fd_l_drawn_corners, (ok_l_drawn_corners T h_l_low h_l_add F_l_drawn_corners), He.glo_ok X G (D.fact 28 (f := .glo "_law_drawn_corners") rfl), F_l_drawn_corners.kp, (F_l_drawn_corners.bindsN fun _ _ _ _ _ _ us hl => match us, hl with | [_], _ => rfl)⟩
  have h_l_drawn_columns : Fn P w K mg base _ "_law_drawn_columns" _ _ := ⟨_, fd_l_drawn_columns, (ok_l_drawn_columns T h_l_low h_l_base h_l_drawn_corners F_l_drawn_columns), He.glo_ok X G (D.fact 29 (f := .glo "_law_drawn_columns") rfl), F_l_drawn_columns.kp, (F_l_drawn_columns.bindsN fun _ _ _ _ _ _ us hl => match us, hl with | [_], _ => rfl)⟩
  have h_l_bent : Fn P w K mg base _ "_law_bent" _ _ := ⟨_, fd_l_bent, (ok_l_bent T h_l_add h_l_take h_l_by h_l_less F_l_bent), He.glo_ok X G (D.fact 30 (f := .glo "_law_bent") rfl), F_l_bent.kp, (F_l_bent.bindsN fun _ _ _ _ _ _ us hl => match us, hl with | [_, _], _ => rfl)⟩
  have h_l_run : Fn P w K mg base _ "_law_run" _ _ := ⟨_, fd_l_run, (ok_l_run T h_l_add h_l_take F_l_run), He.glo_ok X G (D.fact 32 (f := .glo "_law_run") rfl), F_l_run.kp, (F_l_run.bindsN fun _ _ _ _ _ _ us hl => match us, hl with | [_, _, _], _ => rfl)⟩
  have h_l_all_worths : Fn P w K mg base _ "_law_all_worths" _ _ := ⟨_, fd_l_all_worths, (ok_l_all_worths T h_l_add h_l_take h_l_by h_l_bent h_l_run h_Line_value h_Zones_value F_l_all_worths), He.glo_ok X G (D.fact 31 (f := .glo "_law_all_worths") rfl), F_l_all_worths.kp, (F_l_all_worths.bindsN fun _ _ _ _ _ _ us hl => match us, hl with | [_, _, _], _ => rfl)⟩
  exact ok_law T h_l_digits h_l_drawn_columns h_l_own h_mk_Table h_Table_names h_l_all_worths h_Table_line h_Table_value h_Table_rule_of h_Line_value h_Zones_value F_law
end Tb
open PySem PySem.W PySem.Calls PyProof.Rows
theorem PySem.Challenge.cw_tabletsky_k21_whole_tables_row_by_row_holds : PySem.Challenge.rw_tabletsky_k21_whole_tables_row_by_row.Holds := by
  w_on; o_law
  refine HandSHeadRun.head_any (r := OpenLaw.row PySem.Challenge.rw_tabletsky_k21_whole_tables_row_by_row) (q := Tb.qv) (H := Tb.hk) (ob := Tb.ob) (M := 6000) (loose := Tb.names) (d := HandSHeadRun.topDef (OpenLaw.row PySem.Challenge.rw_tabletsky_k21_whole_tables_row_by_row).prog 61) (kwd := []) Tb.ob_eq
    (by kernel_rfl) (fun s => by kernel_rfl) Tb.run (by kernel_rfl) (by kernel_rfl) (by kernel_rfl) (by rfl) (by first | assumption | decide +kernel) (by decide +kernel) ⟨rfl, rfl, rfl, rfl, rfl, by decide +kernel⟩ ?hw ?hc
  case hw => w_witness2
  case hc =>
    refine L2.walk_ofE (l := PySem.Challenge.rw_tabletsky_k21_whole_tables_row_by_row) (n := 63) (k := 46) (x := "_law_script") (CX := L2.CX0) rfl (by decide) (by kernel_rfl) ⟨rfl, by decide, by decide⟩ ?F (fun _ _ _ _ z => z)
    intro w mg fa h Y G hmg0
    obtain ⟨K, KX, c⟩ := Y
    have hmg : mg ("law" : PySem.Str) = some (.ref fa) := by
      have e : (HandSHeadRun.topDef (OpenLaw.row PySem.Challenge.rw_tabletsky_k21_whole_tables_row_by_row).prog 61).name = ("law" : PySem.Str) := by kernel_rfl
      rw [← e]
      exact hmg0
    obtain ⟨fd, hb, hF⟩ := Tb.facts (P := (PySem.Challenge.rw_tabletsky_k21_whole_tables_row_by_row).prog) (w := w) KX G hmg c
    exact ⟨K, fd, Tb.spLaw K, KX, hb, fun H a ns hl _ hS => ⟨a, ns, rfl, hS, fun _ => rfl⟩, hF⟩

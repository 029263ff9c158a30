import PyProof.Rows.All
import Wide.All
import OpenK.AllK
import Wide.FinOn
import HandS.ForMost
import HandS.Codes
import HandS.Wide
import HandS.TupAny
import HandS.Style
import HandS.Zip
import HandS.More
import KE.KDictZip
import KE.KDictItemsList
import HandS.DictTup
import HandS.Dict
import HandS.Defaults
import HandS.Head0
import HandS.Head1
import HandS.Head2
import HandS.HeadEnd
import HandS.HeadHook1
import HandS.HeadHook2
import PySem.Challenge.RW_widelines_k15_whole_a_place_by_the_told
set_option Elab.async false
set_option linter.all false
set_option maxRecDepth 100000
set_option maxHeartbeats 4000000
/-! ## M1 -/
/-! plain numbers: gcd by the loop, fractions, places -/
namespace W15
/-! ### gcd -/
theorem gcd_step {x y : Int} (hx : 0 ≤ x) (hy : 0 < y) : Int.gcd y (x.fmod y) = Int.gcd x y := by
  rw [Int.fmod_eq_emod_of_nonneg x (by omega)]
  obtain ⟨a, rfl⟩ := Int.eq_ofNat_of_zero_le hx
  obtain ⟨b, rfl⟩ := Int.eq_ofNat_of_zero_le (Int.le_of_lt hy)
  rw [← Int.natCast_emod, Int.gcd_natCast_natCast, Int.gcd_natCast_natCast, Nat.gcd_comm b, ← Nat.gcd_rec, Nat.gcd_comm]
theorem fmod_lt {x y : Int} (hy : 0 < y) : 0 ≤ x.fmod y ∧ x.fmod y < y := by
  rw [Int.fmod_eq_emod_of_nonneg x (by omega)]
  exact ⟨Int.emod_nonneg x (by omega), Int.emod_lt_of_pos x hy⟩
theorem gcd_abs (a b : Int) : Int.gcd (if a < 0 then -a else a) (if b < 0 then -b else b) = Int.gcd a b := by
  split <;> split <;> simp
theorem gcd_le_right {a b : Int} (h : b ≠ 0) : (Int.gcd a b) ≤ b.natAbs := by
  have := Int.gcd_dvd_right a b
  exact Nat.le_of_dvd (by omega) (by
    have := Int.natAbs_dvd_natAbs.mpr this
    simpa using this)
theorem gcd_pos {a b : Int} (h : b ≠ 0) : 0 < Int.gcd a b := Int.gcd_pos_of_ne_zero_right a h

/-! ### fractions -/
theorem divInt_num_pos {t b : Int} (hb : 0 < b) : t.fdiv (Int.gcd t b) = ((t : Rat) / (b : Rat)).num ∧ b.fdiv (Int.gcd t b) = (((t : Rat) / (b : Rat)).den : Int) := by
  have hg : 0 < Int.gcd t b := gcd_pos (by omega)
  rw [← Rat.divInt_eq_div, Rat.num_divInt, Rat.den_divInt, if_neg (by omega), Int.sign_eq_one_of_pos hb, Int.one_mul, Int.gcd_comm b t]
  rw [Int.fdiv_eq_ediv_of_nonneg t (by omega), Int.fdiv_eq_ediv_of_nonneg b (by omega)]
  refine ⟨rfl, ?_⟩
  have : b = (b.natAbs : Int) := by omega
  rw [Int.natCast_ediv, ← this]
theorem fdiv_neg_exact {G t p : Int} (h : 0 < G) (e : t = G * p) : t.fdiv (0 - G) = -p := by
  rw [e, show G * p = (0 - G) * (-p) by rw [Int.zero_sub, Int.neg_mul_neg]]
  exact Int.mul_fdiv_cancel_left _ (by omega)
theorem ediv_neg_exact {G t p : Int} (h : 0 < G) (e : t = G * p) : -t / G = -p := by
  rw [e, show -(G * p) = G * (-p) by rw [Int.mul_neg]]
  exact Int.mul_ediv_cancel_left _ (by omega)
theorem divInt_num_neg {t b : Int} (hb : b < 0) : t.fdiv (0 - (Int.gcd t b : Int)) = ((t : Rat) / (b : Rat)).num ∧ b.fdiv (0 - (Int.gcd t b : Int)) = (((t : Rat) / (b : Rat)).den : Int) := by
  have hg : 0 < Int.gcd t b := gcd_pos (by omega)
  have hg' : 0 < (Int.gcd t b : Int) := by omega
  rw [← Rat.divInt_eq_div, Rat.num_divInt, Rat.den_divInt, if_neg (by omega), Int.sign_eq_neg_one_of_neg hb, Int.gcd_comm b t]
  obtain ⟨p, hp⟩ := Int.gcd_dvd_left t b
  obtain ⟨q, hq⟩ := Int.gcd_dvd_right t b
  refine ⟨?_, ?_⟩
  · rw [fdiv_neg_exact hg' hp, show -1 * t = -t by omega, ediv_neg_exact hg' hp]
  · have hb2 : (b.natAbs : Int) = -b := by omega
    rw [fdiv_neg_exact hg' hq, Int.natCast_ediv, hb2, ediv_neg_exact hg' hq]
theorem den_pos (q : Rat) : 0 < (q.den : Int) := by
  have := q.den_pos
  omega
theorem den_ne (q : Rat) : (q.den : Rat) ≠ 0 := by
  have := q.den_nz
  exact fun h => this (Rat.natCast_eq_zero_iff.mp h)
theorem num_div (q : Rat) : (q.num : Rat) / (q.den : Rat) = q := by
  rw [← Rat.mkRat_eq_div, Rat.mkRat_self]
theorem num_eq (q : Rat) : (q.num : Rat) = q * (q.den : Rat) := by
  have h := num_div q
  have := den_ne q
  grind
theorem add_frac (x y : Rat) : ((x.num * y.den + y.num * x.den : Int) : Rat) / ((x.den * y.den : Int) : Rat) = x + y := by
  have h1 := num_eq x
  have h2 := num_eq y
  have h3 := den_ne x
  have h4 := den_ne y
  simp only [Rat.intCast_add, Rat.intCast_mul, Rat.intCast_natCast]
  rw [h1, h2]
  grind
theorem sub_frac (x y : Rat) : ((x.num * y.den - y.num * x.den : Int) : Rat) / ((x.den * y.den : Int) : Rat) = x - y := by
  have h1 := num_eq x
  have h2 := num_eq y
  have h3 := den_ne x
  have h4 := den_ne y
  simp only [Rat.intCast_sub, Rat.intCast_mul, Rat.intCast_natCast]
  rw [h1, h2]
  grind
theorem mul_frac (x y : Rat) : ((x.num * y.num : Int) : Rat) / ((x.den * y.den : Int) : Rat) = x * y := by
  have h1 := num_eq x
  have h2 := num_eq y
  have h3 := den_ne x
  have h4 := den_ne y
  simp only [Rat.intCast_mul, Rat.intCast_natCast]
  rw [h1, h2]
  grind
theorem div_frac (x y : Rat) (hy : y ≠ 0) : ((x.num * y.den : Int) : Rat) / ((x.den * y.num : Int) : Rat) = x / y := by
  have h1 := num_eq x
  have h2 := num_eq y
  have h3 := den_ne x
  have h4 := den_ne y
  simp only [Rat.intCast_mul, Rat.intCast_natCast]
  rw [h1, h2]
  grind
theorem lt_frac (x y : Rat) : decide (x.num * y.den < y.num * x.den) = decide (x < y) := by
  rw [decide_eq_decide]
  exact (Rat.lt_iff x y).symm
theorem le_frac (x y : Rat) : decide (x.num * y.den ≤ y.num * x.den) = decide (x ≤ y) := by
  rw [decide_eq_decide]
  exact (Rat.le_iff x y).symm
theorem eq_frac (x y : Rat) : decide ([x.num, (x.den : Int)] = [y.num, (y.den : Int)]) = decide (x = y) := by
  rw [decide_eq_decide]
  constructor
  · intro h
    simp only [List.cons.injEq, and_true] at h
    exact Rat.ext h.1 (by omega)
  · intro h
    rw [h]
theorem num_lt0 (q : Rat) : q.num < 0 ↔ q < 0 := by
  rw [Rat.lt_iff]
  simp
theorem num_gt0 (q : Rat) : 0 < q.num ↔ 0 < q := by
  rw [Rat.lt_iff]
  simp

/-! ### places -/
structure Pt where
  x : Rat
  y : Rat
  deriving DecidableEq
/-- in lowest terms -/
structure Tri (X Y d : Int) (p : Pt) : Prop where
  pos : 0 < d
  red : Nat.gcd (Nat.gcd X.natAbs d.natAbs) Y.natAbs = 1
  ex : (X : Rat) = p.x * (d : Rat)
  ey : (Y : Rat) = p.y * (d : Rat)
theorem cast_ne {d : Int} (h : d ≠ 0) : (d : Rat) ≠ 0 := fun z => h (Rat.intCast_eq_zero_iff.mp z)
theorem Tri.dvd {X Y d X' Y' d' : Int} {p : Pt} (a : Tri X Y d p) (b : Tri X' Y' d' p) : d.natAbs ∣ d'.natAbs := by
  have hd : (d : Rat) ≠ 0 := cast_ne (by have := a.pos; omega)
  have hd' : (d' : Rat) ≠ 0 := cast_ne (by have := b.pos; omega)
  have e1 : X * d' = X' * d := by
    have : ((X * d' : Int) : Rat) = ((X' * d : Int) : Rat) := by
      rw [Rat.intCast_mul, Rat.intCast_mul, a.ex, b.ex]
      grind
    exact Rat.intCast_inj.mp this
  have e2 : Y * d' = Y' * d := by
    have : ((Y * d' : Int) : Rat) = ((Y' * d : Int) : Rat) := by
      rw [Rat.intCast_mul, Rat.intCast_mul, a.ey, b.ey]
      grind
    exact Rat.intCast_inj.mp this
  have n1 : X.natAbs * d'.natAbs = X'.natAbs * d.natAbs := by rw [← Int.natAbs_mul, ← Int.natAbs_mul, e1]
  have n2 : Y.natAbs * d'.natAbs = Y'.natAbs * d.natAbs := by rw [← Int.natAbs_mul, ← Int.natAbs_mul, e2]
  have h : d.natAbs ∣ Nat.gcd (Nat.gcd (X.natAbs * d'.natAbs) (d.natAbs * d'.natAbs)) (Y.natAbs * d'.natAbs) :=
    Nat.dvd_gcd (Nat.dvd_gcd (by rw [n1]; exact Nat.dvd_mul_left ..) (Nat.dvd_mul_right ..)) (by rw [n2]; exact Nat.dvd_mul_left ..)
  rw [Nat.gcd_mul_right, Nat.gcd_mul_right, a.red, Nat.one_mul] at h
  exact h
theorem Tri.uniq {X Y d X' Y' d' : Int} {p : Pt} (a : Tri X Y d p) (b : Tri X' Y' d' p) : X = X' ∧ Y = Y' ∧ d = d' := by
  have h := Nat.dvd_antisymm (a.dvd b) (b.dvd a)
  have hd : d = d' := by have := a.pos; have := b.pos; omega
  subst hd
  refine ⟨Rat.intCast_inj.mp ?_, Rat.intCast_inj.mp ?_, rfl⟩
  · rw [a.ex, b.ex]
  · rw [a.ey, b.ey]
/-- brought to lowest terms -/
theorem tri_red {X Y d : Int} {p : Pt} (hd : 0 < d) (ex : (X : Rat) = p.x * (d : Rat)) (ey : (Y : Rat) = p.y * (d : Rat)) :
    Tri (X.fdiv (Int.gcd (Int.gcd X d) Y)) (Y.fdiv (Int.gcd (Int.gcd X d) Y)) (d.fdiv (Int.gcd (Int.gcd X d) Y)) p := by
  have g0 : 0 < Int.gcd X d := gcd_pos (by omega)
  have hg : 0 < Int.gcd (Int.gcd X d) Y := Int.gcd_pos_of_ne_zero_left Y (by omega)
  have dX : (Int.gcd (Int.gcd X d) Y : Int) ∣ X := Int.dvd_trans (Int.gcd_dvd_left ..) (Int.gcd_dvd_left ..)
  have dd : (Int.gcd (Int.gcd X d) Y : Int) ∣ d := Int.dvd_trans (Int.gcd_dvd_left ..) (Int.gcd_dvd_right ..)
  have dY : (Int.gcd (Int.gcd X d) Y : Int) ∣ Y := Int.gcd_dvd_right ..
  have hgcd : Int.gcd (Int.gcd X d) Y = Nat.gcd (Nat.gcd X.natAbs d.natAbs) Y.natAbs := rfl
  obtain ⟨a, ha⟩ := dX
  obtain ⟨b, hb⟩ := dd
  obtain ⟨c, hc⟩ := dY
  generalize hG : Int.gcd (Int.gcd X d) Y = g at *
  have gR : ((g : Int) : Rat) ≠ 0 := cast_ne (by omega)
  have e1 : X.fdiv (g : Int) = a := by rw [ha, Int.mul_fdiv_cancel_left _ (by omega)]
  have e2 : Y.fdiv (g : Int) = c := by rw [hc, Int.mul_fdiv_cancel_left _ (by omega)]
  have e3 : d.fdiv (g : Int) = b := by rw [hb, Int.mul_fdiv_cancel_left _ (by omega)]
  rw [e1, e2, e3]
  refine ⟨?_, ?_, ?_, ?_⟩
  · rw [hb] at hd
    exact Int.pos_of_mul_pos_right hd (by omega)
  · rw [ha, hb, hc, Int.natAbs_mul, Int.natAbs_mul, Int.natAbs_mul, Int.natAbs_natCast, Nat.gcd_mul_left, Nat.gcd_mul_left] at hgcd
    have : g * 1 = g * Nat.gcd (Nat.gcd a.natAbs b.natAbs) c.natAbs := by omega
    exact (Nat.eq_of_mul_eq_mul_left hg this).symm
  · rw [ha, hb, Rat.intCast_mul, Rat.intCast_mul] at ex
    grind
  · rw [hc, hb, Rat.intCast_mul, Rat.intCast_mul] at ey
    grind
def Pt.b0 (p : Pt) : Int := (p.x.den : Int) * (p.y.den : Int)
def Pt.g (p : Pt) : Nat := Int.gcd (Int.gcd (p.x.num * p.y.den) p.b0) (p.y.num * p.x.den)
/-- the three numbers of a place -/
def Pt.X (p : Pt) : Int := (p.x.num * p.y.den).fdiv p.g
def Pt.Y (p : Pt) : Int := (p.y.num * p.x.den).fdiv p.g
def Pt.Z (p : Pt) : Int := p.b0.fdiv p.g
theorem Pt.tri (p : Pt) : Tri p.X p.Y p.Z p := by
  refine tri_red (Int.mul_pos (den_pos _) (den_pos _)) ?_ ?_
  · unfold Pt.b0
    rw [Rat.intCast_mul, Rat.intCast_mul, num_eq p.x, Rat.intCast_natCast, Rat.intCast_natCast]
    grind
  · unfold Pt.b0
    rw [Rat.intCast_mul, Rat.intCast_mul, num_eq p.y, Rat.intCast_natCast, Rat.intCast_natCast]
    grind
theorem Pt.of_tri {X Y d : Int} {p : Pt} (t : Tri X Y d p) : X = p.X ∧ Y = p.Y ∧ d = p.Z := t.uniq p.tri
theorem Pt.Zpos (p : Pt) : 0 < p.Z := p.tri.pos
theorem Pt.Zne (p : Pt) : (p.Z : Rat) ≠ 0 := cast_ne (by have := p.Zpos; omega)
theorem Pt.ex (p : Pt) : (p.X : Rat) = p.x * (p.Z : Rat) := p.tri.ex
theorem Pt.ey (p : Pt) : (p.Y : Rat) = p.y * (p.Z : Rat) := p.tri.ey
theorem Pt.inj {p q : Pt} (h1 : p.X = q.X) (h2 : p.Y = q.Y) (h3 : p.Z = q.Z) : p = q := by
  have a := p.ex
  have b := q.ex
  have c := p.ey
  have d := q.ey
  have n := p.Zne
  rw [h1, h3] at a
  rw [h2, h3] at c
  rw [h3] at n
  obtain ⟨px, py⟩ := p
  obtain ⟨qx, qy⟩ := q
  simp only at *
  congr 1
  · grind
  · grind
/-- the law's way to the three numbers -/
theorem law_tri (p : Pt) {f : Nat} (hf : p.x.den * f = p.y.den * (p.x.den / Nat.gcd p.x.den p.y.den)) (hf2 : f = p.y.den / Nat.gcd p.x.den p.y.den) :
    Tri (p.x.num * (f : Int)) (p.y.num * ((p.x.den / Nat.gcd p.x.den p.y.den : Nat) : Int)) ((p.x.den * f : Nat) : Int) p := by
  have hg : 0 < Nat.gcd p.x.den p.y.den := Nat.gcd_pos_of_pos_left _ p.x.den_pos
  have hcop : Nat.Coprime (p.x.den / Nat.gcd p.x.den p.y.den) (p.y.den / Nat.gcd p.x.den p.y.den) := Nat.coprime_div_gcd_div_gcd hg
  generalize he : p.x.den / Nat.gcd p.x.den p.y.den = e at *
  rw [← hf2] at hcop
  have hf0 : 0 < f := by
    rw [hf2]
    exact Nat.div_pos (Nat.le_of_dvd p.y.den_pos (Nat.gcd_dvd_right ..)) hg
  have c1 : Nat.gcd (p.x.num.natAbs * f) (p.x.den * f) = f := by
    rw [Nat.gcd_mul_right, p.x.reduced, Nat.one_mul]
  have c2 : Nat.gcd (p.y.num.natAbs * e) (p.y.den * e) = e := by
    rw [Nat.gcd_mul_right, p.y.reduced, Nat.one_mul]
  refine ⟨?_, ?_, ?_, ?_⟩
  · have := Nat.mul_pos p.x.den_pos hf0
    omega
  · rw [Int.natAbs_mul, Int.natAbs_mul, Int.natAbs_natCast, Int.natAbs_natCast, Int.natAbs_natCast]
    have h1 : Nat.gcd (Nat.gcd (p.x.num.natAbs * f) (p.x.den * f)) (p.y.num.natAbs * e) ∣ f := by
      rw [c1]
      exact Nat.gcd_dvd_left ..
    have h2 : Nat.gcd (Nat.gcd (p.x.num.natAbs * f) (p.x.den * f)) (p.y.num.natAbs * e) ∣ e := by
      have : Nat.gcd (Nat.gcd (p.x.num.natAbs * f) (p.x.den * f)) (p.y.num.natAbs * e) ∣ Nat.gcd (p.y.num.natAbs * e) (p.y.den * e) :=
        Nat.dvd_gcd (Nat.gcd_dvd_right ..) (by rw [← hf]; exact Nat.dvd_trans (Nat.gcd_dvd_left ..) (Nat.gcd_dvd_right ..))
      rw [c2] at this
      exact this
    have h3 := Nat.dvd_gcd h2 h1
    rw [hcop] at h3
    exact Nat.eq_one_of_dvd_one h3
  · rw [Rat.intCast_mul, num_eq p.x, Rat.intCast_natCast, Rat.intCast_natCast, Rat.natCast_mul]
    grind
  · rw [hf, Rat.intCast_mul, num_eq p.y, Rat.intCast_natCast, Rat.intCast_natCast, Rat.natCast_mul]
    grind
end W15

/-! ## M2 -/
/-! sizes of numbers -/
namespace W15
def Bd (n : Nat) (x : Int) : Prop := x.natAbs < 2 ^ n
theorem pow_mono {n m : Nat} (l : n ≤ m) : 2 ^ n ≤ 2 ^ m := Nat.pow_le_pow_right (by decide) l
theorem Bd.mono {n m : Nat} {x : Int} (h : Bd n x) (l : n ≤ m) : Bd m x := Nat.lt_of_lt_of_le h (pow_mono l)
theorem Bd.mul {n m : Nat} {x y : Int} (h : Bd n x) (k : Bd m y) : Bd (n + m) (x * y) := by
  unfold Bd at *
  rw [Int.natAbs_mul, Nat.pow_add]
  exact Nat.mul_lt_mul'' h k
theorem Bd.addS {n : Nat} {x y : Int} (h : Bd n x) (k : Bd n y) : Bd (n + 1) (x + y) := by
  unfold Bd at *
  have h3 := Int.natAbs_add_le x y
  rw [Nat.pow_succ]
  omega
theorem Bd.add {n m : Nat} {x y : Int} (h : Bd n x) (k : Bd m y) : Bd (n + m + 1) (x + y) := (h.mono (by omega)).addS (k.mono (by omega))
theorem Bd.neg {n : Nat} {x : Int} (h : Bd n x) : Bd n (-x) := by
  unfold Bd at *
  rw [Int.natAbs_neg]
  exact h
theorem Bd.subS {n : Nat} {x y : Int} (h : Bd n x) (k : Bd n y) : Bd (n + 1) (x - y) := by
  rw [Int.sub_eq_add_neg]
  exact h.addS k.neg
theorem Bd.sub {n m : Nat} {x y : Int} (h : Bd n x) (k : Bd m y) : Bd (n + m + 1) (x - y) := (h.mono (by omega)).subS (k.mono (by omega))
theorem Bd.neg0 {n : Nat} {x : Int} (h : Bd n x) : Bd n (0 - x) := by
  rw [Int.zero_sub]
  exact h.neg
theorem Bd.le {n : Nat} {x y : Int} (h : Bd n x) (k : y.natAbs ≤ x.natAbs) : Bd n y := Nat.lt_of_le_of_lt k h
theorem Bd.int {n : Nat} {x : Int} (h : x.natAbs < 2 ^ n) : Bd n x := h
structure RB (n : Nat) (q : Rat) : Prop where
  num : Bd n q.num
  den : Bd n (q.den : Int)
structure PB (n : Nat) (p : Pt) : Prop where
  X : Bd n p.X
  Y : Bd n p.Y
  Z : Bd n p.Z
theorem RB.mono {n m : Nat} {q : Rat} (h : RB n q) (l : n ≤ m) : RB m q := ⟨h.num.mono l, h.den.mono l⟩
theorem PB.mono {n m : Nat} {q : Pt} (h : PB n q) (l : n ≤ m) : PB m q := ⟨h.X.mono l, h.Y.mono l, h.Z.mono l⟩
theorem ediv_le (a : Int) (b : Nat) : (a / (b : Int)).natAbs ≤ a.natAbs := Int.natAbs_ediv_le_natAbs a b
theorem rb_of {n : Nat} {t b : Int} (ht : Bd n t) (hb : Bd n b) (h0 : b ≠ 0) : RB n ((t : Rat) / (b : Rat)) := by
  rw [← Rat.divInt_eq_div]
  refine ⟨?_, ?_⟩
  · rw [Rat.num_divInt]
    refine ht.le (Nat.le_trans (ediv_le _ _) ?_)
    rw [Int.natAbs_mul]
    have : b.sign.natAbs ≤ 1 := by
      rcases Int.lt_trichotomy b 0 with h | h | h
      · rw [Int.sign_eq_neg_one_of_neg h]; decide
      · exact absurd h h0
      · rw [Int.sign_eq_one_of_pos h]; decide
    calc b.sign.natAbs * t.natAbs ≤ 1 * t.natAbs := Nat.mul_le_mul_right _ this
      _ = t.natAbs := Nat.one_mul _
  · rw [Rat.den_divInt, if_neg h0]
    refine hb.le ?_
    rw [Int.natAbs_natCast]
    exact Nat.div_le_self _ _
theorem RB.neg {n : Nat} {x : Rat} (h : RB n x) : RB n (-x) := ⟨by rw [Rat.neg_num]; exact h.num.neg, by rw [Rat.neg_den]; exact h.den⟩
theorem den_mul_ne (x y : Rat) : ((x.den : Int) * (y.den : Int)) ≠ 0 := by
  have := Int.mul_pos (den_pos x) (den_pos y)
  omega
theorem RB.add {n m : Nat} {x y : Rat} (h : RB n x) (k : RB m y) : RB (n + m + 1) (x + y) := by
  rw [← add_frac]
  exact rb_of ((h.num.mul k.den).addS ((k.num.mul h.den).mono (by omega))) ((h.den.mul k.den).mono (by omega)) (den_mul_ne x y)
theorem RB.sub {n m : Nat} {x y : Rat} (h : RB n x) (k : RB m y) : RB (n + m + 1) (x - y) := by
  rw [← sub_frac]
  exact rb_of ((h.num.mul k.den).subS ((k.num.mul h.den).mono (by omega))) ((h.den.mul k.den).mono (by omega)) (den_mul_ne x y)
theorem RB.mul {n m : Nat} {x y : Rat} (h : RB n x) (k : RB m y) : RB (n + m) (x * y) := by
  rw [← mul_frac]
  exact rb_of (h.num.mul k.num) (h.den.mul k.den) (den_mul_ne x y)
theorem num_ne {y : Rat} (h : y ≠ 0) : y.num ≠ 0 := fun z => h (Rat.num_eq_zero.mp z)
theorem RB.div {n m : Nat} {x y : Rat} (h : RB n x) (k : RB m y) (hy : y ≠ 0) : RB (n + m) (x / y) := by
  rw [← div_frac x y hy]
  exact rb_of (h.num.mul k.den) (h.den.mul k.num) (Int.mul_ne_zero (by have := den_pos x; omega) (num_ne hy))
theorem fdiv_le (a : Int) {g : Nat} (hg : 0 < g) : (a.fdiv (g : Int)).natAbs ≤ a.natAbs := by
  rw [Int.fdiv_eq_ediv_of_nonneg a (by omega)]
  exact ediv_le a g
theorem Pt.g_pos (p : Pt) : 0 < p.g := by
  have h1 : 0 < p.b0 := Int.mul_pos (den_pos _) (den_pos _)
  have h2 : 0 < Int.gcd (p.x.num * p.y.den) p.b0 := gcd_pos (by omega)
  exact Int.gcd_pos_of_ne_zero_left _ (by omega)
theorem pb_of {n m : Nat} {p : Pt} (h : RB n p.x) (k : RB m p.y) : PB (n + m) p :=
  ⟨(h.num.mul k.den).le (fdiv_le _ p.g_pos), ((k.num.mul h.den).le (fdiv_le _ p.g_pos)).mono (by omega), (h.den.mul k.den).le (fdiv_le _ p.g_pos)⟩
theorem PB.rx {n : Nat} {p : Pt} (h : PB n p) : RB n p.x := by
  have e : p.x = (p.X : Rat) / (p.Z : Rat) := by
    have := p.ex
    have := p.Zne
    grind
  rw [e]
  exact rb_of h.X h.Z (by have := p.Zpos; omega)
theorem PB.ry {n : Nat} {p : Pt} (h : PB n p) : RB n p.y := by
  have e : p.y = (p.Y : Rat) / (p.Z : Rat) := by
    have := p.ey
    have := p.Zne
    grind
  rw [e]
  exact rb_of h.Y h.Z (by have := p.Zpos; omega)
/-- three numbers in lowest terms are no greater than others of the place -/
theorem pb_tri {n : Nat} {X Y d : Int} {p : Pt} (hd : 0 < d) (ex : (X : Rat) = p.x * (d : Rat)) (ey : (Y : Rat) = p.y * (d : Rat)) (h1 : Bd n X) (h2 : Bd n Y) (h3 : Bd n d) : PB n p := by
  have t := tri_red hd ex ey
  obtain ⟨e1, e2, e3⟩ := Pt.of_tri t
  have g0 : 0 < Int.gcd X d := gcd_pos (by omega)
  have hg : 0 < Int.gcd (Int.gcd X d) Y := Int.gcd_pos_of_ne_zero_left Y (by omega)
  exact ⟨by rw [← e1]; exact h1.le (fdiv_le _ hg), by rw [← e2]; exact h2.le (fdiv_le _ hg), by rw [← e3]; exact h3.le (fdiv_le _ hg)⟩
/-- a rational whose square is a square -/
theorem rb_int {n : Nat} {k : Int} (h : Bd n k) (hn : 1 ≤ n) : RB n (k : Rat) := ⟨h, by
  show Bd n 1
  unfold Bd
  have : 2 ^ 1 ≤ 2 ^ n := pow_mono hn
  omega⟩
end W15

/-! ## H0 -/
/-! what the program's shapes compute, over places with exact coordinates -/
namespace W15
/-- lesser: by the first coordinate, then by the second -/
def ltP (p q : Pt) : Bool := decide (p.x < q.x) || (decide (p.x = q.x) && decide (p.y < q.y))
/-- how r lies to the straight line from p to q -/
def crossP (p q r : Pt) : Rat := (q.x - p.x) * (r.y - p.y) - (q.y - p.y) * (r.x - p.x)
def sgn (x : Rat) : Int := if 0 < x then 1 else if x < 0 then -1 else 0
/-- the square of the distance -/
@[irreducible] def sqd (p q : Pt) : Rat := (q.x - p.x) * (q.x - p.x) + (q.y - p.y) * (q.y - p.y)
/-- a place and two numbers added -/
def addP (p : Pt) (x y : Rat) : Pt := ⟨p.x + x, p.y + y⟩
def insP (found : List Pt) (one : Pt) : List Pt :=
  if (found.filter fun o => ltP o one).length = found.length ∨ found[(found.filter fun o => ltP o one).length]? ≠ some one then
    found.take (found.filter fun o => ltP o one).length ++ [one] ++ found.drop (found.filter fun o => ltP o one).length else found
def sortP (S : List Pt) : List Pt := S.foldl insP []
def popR : List Pt → Pt → List Pt
  | b :: a :: r, c => if sgn (crossP a b c) ≤ 0 then popR (a :: r) c else b :: a :: r
  | l, _ => l
def halfR (st : List Pt) (S : List Pt) : List Pt := S.foldl (fun st c => c :: popR st c) st
def halfRound (S : List Pt) : List Pt := (halfR [] S).reverse
def hull (o : List Pt) : List Pt := (halfRound o).dropLast ++ (halfRound o.reverse).dropLast
@[irreducible] def shapeOf (S : List Pt) : Option (List Pt) := if (sortP S).length < 3 then none else if 2 < (hull (sortP S)).length then some (hull (sortP S)) else none
def edgesP (S : List Pt) : List (Pt × Pt) := (List.range S.length).map fun k => (S.getD k ⟨0, 0⟩, S.getD ((k + 1) % S.length) ⟨0, 0⟩)
/-- where the straight lines from a to b and from c to d meet -/
@[irreducible] def meetP (a b c d : Pt) : Pt :=
  addP a (((c.x - a.x) * (d.y - c.y) - (c.y - a.y) * (d.x - c.x)) / ((b.x - a.x) * (d.y - c.y) - (b.y - a.y) * (d.x - c.x)) * (b.x - a.x))
    (((c.x - a.x) * (d.y - c.y) - (c.y - a.y) * (d.x - c.x)) / ((b.x - a.x) * (d.y - c.y) - (b.y - a.y) * (d.x - c.x)) * (b.y - a.y))
def keptP (S : List Pt) (a b : Pt) : List Pt :=
  (S.filter fun p => decide (0 ≤ sgn (crossP a b p))) ++ ((edgesP S).filter fun e => decide (sgn (crossP a b e.1) * sgn (crossP a b e.2) < 0)).map fun e => meetP a b e.1 e.2
@[irreducible] def cutOff (S : List Pt) (a b : Pt) : Option (List Pt) := if (keptP S a b).length = 0 then none else shapeOf (keptP S a b)
def belongsP (S : List Pt) (q : Pt) : Bool := (edgesP S).all fun e => decide (0 ≤ sgn (crossP e.1 e.2 q))
@[irreducible] def inArea (Ss : List (List Pt)) (q : Pt) : Bool := Ss.any fun S => belongsP S q
def pairs12 : List (Int × Int) := [(5, 0), (4, 3), (3, 4), (0, 5), (-3, 4), (-4, 3), (-5, 0), (-4, -3), (-3, -4), (0, -5), (3, -4), (4, -3)]
def twelvePts (p : Pt) (h : Rat) : List Pt := pairs12.map fun e => addP p (h * ((e.1 : Rat) / 5)) (h * ((e.2 : Rat) / 5))
@[irreducible] def twelveP (p : Pt) (h : Rat) : Option (List Pt) := shapeOf (twelvePts p h)
end W15

/-! ## H1 -/
/-! what the program's widening computes, over places with exact coordinates -/
namespace W15
/-- a piece from a to b: u its direction, L its length -/
structure Pc (a b u : Pt) (L : Rat) : Prop where
  pos : 0 < L
  ex : b.x = a.x + L * u.x
  ey : b.y = a.y + L * u.y
  one : u.x * u.x + u.y * u.y = 1
  bu : RB 6 u.x ∧ RB 6 u.y
  bL : RB 60 L
  ba : PB 90 a
  bb : PB 90 b
inductive Side where | both | left | right deriving DecidableEq
inductive Ending where | cut | square | round deriving DecidableEq
inductive Joining where | cut | pointed | round deriving DecidableEq
structure Rl where
  half : Rat
  side : Side
  ending : Ending
  joining : Joining
  bound : Rat
structure Rl.Ok (r : Rl) : Prop where
  pos : 0 < r.half
  bh : RB 20 r.half
  bb : RB 20 r.bound
  one : 1 ≤ r.bound
abbrev V2 := Rat × Rat
/-- half as far as told to the left of a direction -/
def offP (u : Pt) (h : Rat) : V2 := (-(h * u.y), h * u.x)
def toL (p : Pt) (v : V2) : Pt := addP p v.1 v.2
def toR (p : Pt) (v : V2) : Pt := addP p (-v.1) (-v.2)
def rimsP (p : Pt) (v : V2) (s : Side) : Pt × Pt := (if s = .left then p else toR p v, if s = .right then p else toL p v)
def stripS (a b u : Pt) (r : Rl) : List Pt := [(rimsP a (offP u r.half) r.side).1, (rimsP a (offP u r.half) r.side).2, (rimsP b (offP u r.half) r.side).1, (rimsP b (offP u r.half) r.side).2]
@[irreducible] def stripP (a b u : Pt) (r : Rl) : Option (List Pt) := shapeOf (stripS a b u r)
@[irreducible] def aheadP (S : List Pt) (p : Pt) (v : V2) : Option (List Pt) := cutOff S (toL p v) p
@[irreducible] def wedgeP (S : List Pt) (p f l : Pt) : Option (List Pt) := match cutOff S p f with
  | none => none
  | some F => cutOff F l p
/-- the twelve about a place -/
@[irreducible] def T12 (p : Pt) (h : Rat) : List Pt := (twelveP p h).getD []
@[irreducible] def foldedP (p : Pt) (v : V2) (r : Rl) : Option (List Pt) := if r.joining = .round then aheadP (T12 p r.half) p v else none
def crU (u v : Pt) : Rat := u.x * v.y - u.y * v.x
def outerP (p u v : Pt) (h : Rat) : Pt × Pt := if 0 < crU u v then (toR p (offP u h), toR p (offP v h)) else (toL p (offP u h), toL p (offP v h))
/-- the way of a piece added -/
def wayAdd (p a b : Pt) : Pt := addP p (b.x - a.x) (b.y - a.y)
def tipAt (a p b u v : Pt) (h : Rat) : Pt := meetP (outerP p u v h).1 (wayAdd (outerP p u v h).1 a p) (outerP p u v h).2 (wayAdd (outerP p u v h).2 p b)
@[irreducible] def tipP (a p b u v : Pt) (r : Rl) : List Pt := if r.joining = .pointed then (if r.half * r.half * (r.bound * r.bound) < sqd p (tipAt a p b u v r.half) then [] else [tipAt a p b u v r.half]) else []
@[irreducible] def joinP (a p b u v : Pt) (r : Rl) : Option (List Pt) :=
  if crU u v = 0 then foldedP p (offP u r.half) r
  else if r.side = (if 0 < crU u v then Side.left else Side.right) then none
  else if r.joining = .round then (if 0 < crU u v then wedgeP (T12 p r.half) p (outerP p u v r.half).1 (outerP p u v r.half).2 else wedgeP (T12 p r.half) p (outerP p u v r.half).2 (outerP p u v r.half).1)
  else shapeOf (p :: (outerP p u v r.half).1 :: (outerP p u v r.half).2 :: tipP a p b u v r)
/-- the end at p = b, the way out of the line from a to b along u -/
@[irreducible] def endP (p a b u : Pt) (r : Rl) : Option (List Pt) :=
  if r.ending = .square then
    shapeOf [(rimsP p (offP u r.half) r.side).1, (rimsP p (offP u r.half) r.side).2, addP (rimsP p (offP u r.half) r.side).1 (r.half * u.x) (- -(r.half * u.y)), addP (rimsP p (offP u r.half) r.side).2 (r.half * u.x) (- -(r.half * u.y))]
  else match aheadP (T12 p r.half) p (offP u r.half) with
    | none => none
    | some F => match r.side with
      | .both => some F
      | .left => cutOff F p (wayAdd p a b)
      | .right => cutOff F (wayAdd p a b) p
/-- lines -/
structure Ln where
  closed : Bool
  pts : List Pt
def Ln.pieces (l : Ln) : List (Pt × Pt) := l.pts.zip l.pts.tail ++ (if l.closed then [(l.pts.getLastD ⟨0, 0⟩, l.pts.headD ⟨0, 0⟩)] else [])
@[irreducible] noncomputable def uOf (e : Pt × Pt) : Pt := open Classical in if h : ∃ u L, Pc e.1 e.2 u L then h.choose else ⟨1, 0⟩
@[irreducible] noncomputable def LOf (e : Pt × Pt) : Rat := open Classical in if h : ∃ u L, Pc e.1 e.2 u L then h.choose_spec.choose else 1
theorem pc_of {e : Pt × Pt} (h : ∃ u L, Pc e.1 e.2 u L) : Pc e.1 e.2 (uOf e) (LOf e) := by
  unfold uOf LOf
  rw [dif_pos h, dif_pos h]
  exact h.choose_spec.choose_spec
def Ln.turns (l : Ln) : List ((Pt × Pt) × (Pt × Pt)) := if l.closed then (List.range l.pieces.length).map fun k => (l.pieces.getD k (⟨0, 0⟩, ⟨0, 0⟩), l.pieces.getD ((k + 1) % l.pieces.length) (⟨0, 0⟩, ⟨0, 0⟩))
  else (List.range (l.pieces.length - 1)).map fun k => (l.pieces.getD k (⟨0, 0⟩, ⟨0, 0⟩), l.pieces.getD (k + 1) (⟨0, 0⟩, ⟨0, 0⟩))
def flipS : Side → Side
  | .both => .both
  | .left => .right
  | .right => .left
noncomputable def joinE (e f : Pt × Pt) (r : Rl) : Option (List Pt) := joinP e.1 f.1 f.2 (uOf e) (uOf f) r
noncomputable def stripE (e : Pt × Pt) (r : Rl) : Option (List Pt) := stripP e.1 e.2 (uOf e) r
def negP (u : Pt) : Pt := ⟨-u.x, -u.y⟩
@[irreducible] noncomputable def endsP (l : Ln) (r : Rl) : List (Option (List Pt)) :=
  if l.closed = true ∨ r.ending = .cut then [] else
    [endP (l.pieces.headD (⟨0, 0⟩, ⟨0, 0⟩)).1 (l.pieces.headD (⟨0, 0⟩, ⟨0, 0⟩)).2 (l.pieces.headD (⟨0, 0⟩, ⟨0, 0⟩)).1 (negP (uOf (l.pieces.headD (⟨0, 0⟩, ⟨0, 0⟩)))) { r with side := flipS r.side },
     endP (l.pieces.getLastD (⟨0, 0⟩, ⟨0, 0⟩)).2 (l.pieces.getLastD (⟨0, 0⟩, ⟨0, 0⟩)).1 (l.pieces.getLastD (⟨0, 0⟩, ⟨0, 0⟩)).2 (uOf (l.pieces.getLastD (⟨0, 0⟩, ⟨0, 0⟩))) r]
noncomputable def partsP (l : Ln) (r : Rl) : List (Option (List Pt)) := l.pieces.map (fun e => stripE e r) ++ l.turns.map (fun e => joinE e.1 e.2 r) ++ endsP l r
@[irreducible] noncomputable def widenedP (l : Ln) (r : Rl) : List (List Pt) := (partsP l r).filterMap id
/-- a good line -/
structure Ln.Ok (l : Ln) : Prop where
  ex : ∀ e ∈ l.pieces, ∃ u L, Pc e.1 e.2 u L
  two : 2 ≤ l.pts.length
  nine : l.pts.length ≤ 9
/-- the twelve is a shape -/
def Twelve : Prop := ∀ p h, 0 < h → ∃ T, twelveP p h = some T
end W15

/-! ## G1 -/
/-! half of a round, by the order of the places -/
namespace W15
def Lt (p q : Pt) : Prop := p.x < q.x ∨ (p.x = q.x ∧ p.y < q.y)
theorem ltP_iff {p q : Pt} : ltP p q = true ↔ Lt p q := by
  unfold ltP Lt
  simp
theorem Lt.irrefl {p : Pt} (h : Lt p p) : False := by
  rcases h with h | h <;> grind
theorem Lt.trans {p q r : Pt} (h : Lt p q) (k : Lt q r) : Lt p r := by
  unfold Lt at *
  grind
theorem Lt.tri (p q : Pt) : Lt p q ∨ p = q ∨ Lt q p := by
  obtain ⟨a, b⟩ := p
  obtain ⟨c, d⟩ := q
  unfold Lt
  simp only [Pt.mk.injEq]
  grind
/-- vectors to the right -/
def Vp (x y : Rat) : Prop := 0 < x ∨ (x = 0 ∧ 0 < y)
theorem Lt.vp {p q : Pt} (h : Lt p q) : Vp (q.x - p.x) (q.y - p.y) := by
  unfold Lt at h
  unfold Vp
  grind
theorem mnn {a b : Rat} (ha : 0 ≤ a) (hb : 0 ≤ b) : 0 ≤ a * b := Rat.mul_nonneg ha hb
theorem nn_of_mul {a b : Rat} (hb : 0 < b) (h : 0 ≤ a * b) : 0 ≤ a := by
  rcases (Rat.le_total : 0 ≤ a ∨ a ≤ 0) with k | k
  · exact k
  · have h1 : 0 ≤ -a * b := mnn (by grind) (by grind)
    have h2 : a * b = 0 := by grind
    rcases Rat.mul_eq_zero.mp h2 with e | e
    · grind
    · grind
theorem vp_trans {a b c d e f : Rat} (hu : Vp a b) (hv : Vp c d) (hw : Vp e f) (h1 : 0 ≤ a * d - b * c) (h2 : 0 ≤ c * f - d * e) : 0 ≤ a * f - b * e := by
  have ha : 0 ≤ a := by unfold Vp at hu; grind
  have he : 0 ≤ e := by unfold Vp at hw; grind
  rcases hv with hc | ⟨hc, hd⟩
  · apply nn_of_mul hc
    have k1 := mnn h2 ha
    have k2 := mnn h1 he
    grind
  · subst hc
    have k : 0 ≤ -e := nn_of_mul hd (by grind)
    have e0 : e = 0 := by grind
    subst e0
    have hf : 0 < f := by unfold Vp at hw; grind
    have k3 := mnn ha (Rat.le_of_lt hf)
    grind
/-- each of the processed lies left of the edges of the stack (a stack is the chain turned round) -/
def Ch (X : List Pt) : List Pt → Prop
  | b :: a :: r => Lt a b ∧ (∀ x ∈ X, 0 ≤ crossP a b x) ∧ (∀ c, r.head? = some c → 0 < crossP c a b) ∧ Ch X (a :: r)
  | _ => True
theorem Ch.tail {X : List Pt} {b : Pt} {r : List Pt} (h : Ch X (b :: r)) : Ch X r := by
  cases r with
  | nil => trivial
  | cons a r => exact h.2.2.2
theorem cross_split (a b c x : Pt) : crossP a b x = ((b.x - a.x) * (c.y - b.y) - (b.y - a.y) * (c.x - b.x)) + ((b.x - a.x) * (x.y - c.y) - (b.y - a.y) * (x.x - c.x)) := by
  unfold crossP
  grind
/-- a place left of the top edge and beyond the top is left of all edges -/
theorem Ch.beyond {X : List Pt} {z : Pt} : ∀ {st : List Pt} {b : Pt}, Ch X (b :: st) → Lt b z → (∀ c, st.head? = some c → 0 ≤ crossP c b z) → Ch [z] (b :: st)
  | [], b, h, hz, ht => trivial
  | a :: r, b, h, hz, ht => by
    obtain ⟨h1, h2, h3, h4⟩ := h
    have t0 := ht a rfl
    refine ⟨h1, fun x hx => ?_, h3, Ch.beyond h4 (h1.trans hz) fun c hc => ?_⟩
    · rw [List.mem_singleton.mp hx]
      exact t0
    · have t1 := h3 c hc
      cases r with
      | nil => cases hc
      | cons c' r =>
        have : c' = c := by simpa using hc
        subst this
        have lc : Lt c' a := h4.1
        have k := vp_trans (lc.vp) (h1.vp) (hz.vp) (by unfold crossP at t1; grind) (by unfold crossP at t0; grind)
        unfold crossP at *
        grind
theorem Ch.join {X Y : List Pt} : ∀ {st : List Pt}, Ch X st → Ch Y st → ∀ {W : List Pt}, (∀ x ∈ W, x ∈ X ∨ x ∈ Y) → Ch W st
  | [], _, _, _, _ => trivial
  | [_], _, _, _, _ => trivial
  | b :: a :: r, h, k, W, hw => ⟨h.1, fun x hx => (hw x hx).elim (fun z => h.2.1 x z) (fun z => k.2.1 x z), h.2.2.1, Ch.join h.2.2.2 k.2.2.2 hw⟩
/-- what is left after the pops -/
theorem pop_spec {X : List Pt} {z : Pt} (hX : ∀ x ∈ X, Lt x z) : ∀ (r : List Pt) (b : Pt), Ch X (b :: r) → (∀ c ∈ b :: r, c ∈ X) → (∀ x ∈ X, ¬ Lt x b → 0 ≤ crossP b z x) →
    ∃ b' r' pre, popR (b :: r) z = b' :: r' ∧ b :: r = pre ++ b' :: r' ∧ (∀ x ∈ X, ¬ Lt x b' → 0 ≤ crossP b' z x) ∧ (∀ c, r'.head? = some c → 0 < crossP c b' z)
  | [], b, h, hm, hP => ⟨b, [], [], rfl, rfl, hP, fun c hc => by cases hc⟩
  | a :: r, b, h, hm, hP => by
    have e : popR (b :: a :: r) z = if sgn (crossP a b z) ≤ 0 then popR (a :: r) z else b :: a :: r := by
      rw [popR]
    rw [e]
    obtain ⟨h1, h2, h3, h4⟩ := h
    by_cases hc : sgn (crossP a b z) ≤ 0
    · rw [if_pos hc]
      have hc' : crossP a b z ≤ 0 := by
        unfold sgn at hc
        split at hc
        · exact absurd hc (by decide)
        · grind
      have bz := hX b (hm b List.mem_cons_self)
      obtain ⟨b', r', pre, e1, e2, e3, e4⟩ := pop_spec hX r a h4 (fun c hc => hm c (List.mem_cons_of_mem _ hc)) (fun x hx hn => by
        have l := h2 x hx
        by_cases hb : Lt x b
        · rcases Lt.tri a x with g | g | g
          · have k := vp_trans bz.vp h1.vp g.vp (by unfold crossP at hc'; grind) (by unfold crossP at l; grind)
            unfold crossP at *
            grind
          · subst g
            unfold crossP
            grind
          · exact absurd g hn
        · have q := hP x hx hb
          unfold crossP at *
          grind)
      exact ⟨b', r', b :: pre, e1, by rw [e2]; rfl, e3, e4⟩
    · rw [if_neg hc]
      have hc' : 0 < crossP a b z := by
        unfold sgn at hc
        split at hc
        · assumption
        · exact absurd (by split <;> decide) hc
      exact ⟨b, a :: r, [], rfl, rfl, hP, fun c hc => by
        have : a = c := by simpa using hc
        subst this
        exact hc'⟩

/-- the stack after the places of X -/
structure Inv (X st : List Pt) : Prop where
  ch : Ch X st
  sub : ∀ c ∈ st, c ∈ X
  top : ∀ b, st.head? = some b → ∀ x ∈ X, ¬ Lt b x
  bot : ∀ m, st.getLast? = some m → ∀ x ∈ X, ¬ Lt x m
  ne : st ≠ []
theorem Inv.push {X st : List Pt} {z : Pt} (h : Inv X st) (hX : ∀ x ∈ X, Lt x z) : Inv (X ++ [z]) (z :: popR st z) ∧ (z :: popR st z).getLast? = st.getLast? := by
  obtain ⟨b, r, e⟩ : ∃ b r, st = b :: r := by
    cases st with
    | nil => exact absurd rfl h.ne
    | cons b r => exact ⟨b, r, rfl⟩
  subst e
  obtain ⟨b', r', pre, e1, e2, e3, e4⟩ := pop_spec hX r b h.ch h.sub (fun x hx hn => by
    have t := h.top b rfl x hx
    rcases Lt.tri x b with g | g | g
    · exact absurd g hn
    · subst g
      unfold crossP
      grind
    · exact absurd g t)
  have chS : Ch X (b' :: r') := by
    have : ∀ (pre : List Pt) {st : List Pt}, Ch X (pre ++ st) → Ch X st := fun pre => by
      induction pre with
      | nil => exact fun h => h
      | cons p pre ih => exact fun h => ih h.tail
    exact this pre (e2 ▸ h.ch)
  have sub' : ∀ c ∈ b' :: r', c ∈ X := fun c hc => h.sub c (by rw [e2]; exact List.mem_append_right _ hc)
  have last : (b' :: r').getLast? = (b :: r).getLast? := by
    rw [e2, List.getLast?_append]
    cases q : (b' :: r').getLast? with
    | none => simp at q
    | some m => rfl
  have bz := hX b' (sub' b' List.mem_cons_self)
  rw [e1]
  refine ⟨⟨?_, ?_, ?_, ?_, by simp⟩, ?_⟩
  · refine ⟨bz, fun x hx => ?_, e4, ?_⟩
    · rcases List.mem_append.mp hx with hx | hx
      · by_cases hb : Lt x b'
        · cases r' with
          | nil => exact absurd hb (h.bot b' (by rw [← last]; rfl) x hx)
          | cons a r' =>
            have t := e4 a rfl
            have l := chS.2.1 x hx
            have k := vp_trans hb.vp chS.1.vp bz.vp (by unfold crossP at l; grind) (by unfold crossP at t; grind)
            unfold crossP at *
            grind
        · exact e3 x hx hb
      · rw [List.mem_singleton.mp hx]
        unfold crossP
        grind
    · refine chS.join (chS.beyond bz fun c hc => Rat.le_of_lt (e4 c hc)) (Y := [z]) fun x hx => ?_
      exact List.mem_append.mp hx
  · intro c hc
    rcases List.mem_cons.mp hc with e | hc
    · rw [e]; exact List.mem_append_right _ List.mem_cons_self
    · exact List.mem_append_left _ (sub' c hc)
  · intro b hb x hx
    have : z = b := by simpa using hb
    subst this
    rcases List.mem_append.mp hx with hx | hx
    · exact fun k => ((hX x hx).trans k).irrefl
    · rw [List.mem_singleton.mp hx]
      exact fun k => k.irrefl
  · intro m hm x hx
    have hm' : (b :: r).getLast? = some m := by rw [← last, ← hm]; rw [List.getLast?_cons_cons]
    rcases List.mem_append.mp hx with hx | hx
    · exact h.bot m hm' x hx
    · rw [List.mem_singleton.mp hx]
      have : m ∈ b :: r := List.mem_of_getLast? hm'
      exact fun k => (k.trans (hX m (h.sub m this))).irrefl
  · rw [← last, List.getLast?_cons_cons]
abbrev Srt (S : List Pt) : Prop := List.Pairwise Lt S
theorem halfR_inv : ∀ (S X st : List Pt), Inv X st → Srt S → (∀ x ∈ X, ∀ s ∈ S, Lt x s) → Inv (X ++ S) (halfR st S) ∧ (halfR st S).getLast? = st.getLast?
  | [], X, st, h, _, _ => by rw [List.append_nil]; exact ⟨h, rfl⟩
  | z :: S, X, st, h, hs, hx => by
    obtain ⟨p, pl⟩ := h.push (fun x k => hx x k z List.mem_cons_self)
    have hs' := List.pairwise_cons.mp hs
    obtain ⟨q1, q2⟩ := halfR_inv S (X ++ [z]) (z :: popR st z) p hs'.2 (fun x k s hsm => by
      rcases List.mem_append.mp k with k | k
      · exact hx x k s (List.mem_cons_of_mem _ hsm)
      · rw [List.mem_singleton.mp k]
        exact hs'.1 s hsm)
    rw [List.append_assoc] at q1
    exact ⟨q1, by rw [← pl, ← q2]; rfl⟩
theorem half_inv {m : Pt} {S : List Pt} (hs : Srt (m :: S)) : Inv (m :: S) (halfR [] (m :: S)) ∧ (halfR [] (m :: S)).getLast? = some m := by
  have hs' := List.pairwise_cons.mp hs
  have i : Inv [m] [m] := ⟨trivial, fun c h => h, fun b hb x hx => by
    have : m = b := by simpa using hb
    subst this
    rw [List.mem_singleton.mp hx]
    exact fun k => k.irrefl, fun b hb x hx => by
    have : m = b := by simpa using hb
    subst this
    rw [List.mem_singleton.mp hx]
    exact fun k => k.irrefl, by simp⟩
  have := halfR_inv S [m] [m] i hs'.2 (fun x hx s hsm => by rw [List.mem_singleton.mp hx]; exact hs'.1 s hsm)
  exact this
end W15

/-! ## G2 -/
/-! the shape about places -/
namespace W15
def Adj : List Pt → Pt → Pt → Prop
  | x :: y :: l, a, b => (a = x ∧ b = y) ∨ Adj (y :: l) a b
  | _, _, _ => False
theorem adj_split : ∀ {l : List Pt} {a b : Pt}, Adj l a b ↔ ∃ pre post, l = pre ++ a :: b :: post
  | [], a, b => ⟨fun h => h.elim, fun ⟨pre, post, e⟩ => by simp at e⟩
  | [x], a, b => ⟨fun h => h.elim, fun ⟨pre, post, e⟩ => by
      have := congrArg List.length e
      simp at this
      omega⟩
  | x :: y :: l, a, b => by
    refine ⟨fun h => ?_, fun ⟨pre, post, e⟩ => ?_⟩
    · rcases h with ⟨rfl, rfl⟩ | h
      · exact ⟨[], l, rfl⟩
      · obtain ⟨pre, post, e⟩ := adj_split.mp h
        exact ⟨x :: pre, post, by rw [e]; rfl⟩
    · cases pre with
      | nil =>
        injection e with e1 e2
        injection e2 with e2 e3
        exact .inl ⟨e1.symm, e2.symm⟩
      | cons p pre =>
        injection e with e1 e2
        exact .inr (adj_split.mpr ⟨pre, post, e2⟩)
theorem adj_app : ∀ {X : List Pt} {y : Pt} {Z : List Pt} {a b : Pt}, Adj (X ++ y :: Z) a b ↔ Adj (X ++ [y]) a b ∨ Adj (y :: Z) a b
  | [], y, Z, a, b => ⟨fun h => .inr h, fun h => h.elim (fun h => h.elim) id⟩
  | [x], y, Z, a, b => by
    show (_ ∨ _) ↔ (_ ∨ False) ∨ _
    rw [or_false]
  | x :: x' :: X, y, Z, a, b => by
    have := adj_app (X := x' :: X) (y := y) (Z := Z) (a := a) (b := b)
    show (_ ∨ Adj (x' :: X ++ y :: Z) a b) ↔ (_ ∨ Adj (x' :: X ++ [y]) a b) ∨ _
    rw [this, or_assoc]
theorem adj_mem {l : List Pt} {a b : Pt} (h : Adj l a b) : a ∈ l ∧ b ∈ l := by
  obtain ⟨pre, post, rfl⟩ := adj_split.mp h
  exact ⟨List.mem_append_right _ List.mem_cons_self, List.mem_append_right _ (List.mem_cons_of_mem _ List.mem_cons_self)⟩
theorem adj_rev {l : List Pt} {a b : Pt} : Adj l.reverse a b ↔ Adj l b a := by
  rw [adj_split, adj_split]
  constructor
  · rintro ⟨pre, post, e⟩
    refine ⟨post.reverse, pre.reverse, ?_⟩
    have := congrArg List.reverse e
    rw [List.reverse_reverse] at this
    rw [this]
    simp
  · rintro ⟨pre, post, e⟩
    exact ⟨post.reverse, pre.reverse, by rw [e]; simp⟩
/-- the edges of a shape follow one another -/
theorem edges_adj {m : Pt} {r : List Pt} {e : Pt × Pt} : e ∈ edgesP (m :: r) ↔ Adj (m :: r ++ [m]) e.1 e.2 := by
  obtain ⟨a, b⟩ := e
  have key : ∀ k, (m :: r ++ [m])[k]? = if k < r.length + 1 then (m :: r)[k]? else if k = r.length + 1 then some m else none := fun k => by
    split
    · rename_i h
      rw [List.getElem?_append_left (by simpa using h)]
    · rename_i h
      rw [List.getElem?_append_right (by simpa using h)]
      split
      · rename_i h2
        subst h2
        simp
      · rename_i h2
        rw [List.getElem?_eq_none]
        simp
        omega
  unfold edgesP
  rw [List.mem_map, adj_split]
  constructor
  · rintro ⟨k, hk, e⟩
    have hk' : k < r.length + 1 := by simpa using hk
    have ea : (m :: r).getD k ⟨0, 0⟩ = a := congrArg Prod.fst e
    have eb : (m :: r).getD ((k + 1) % (m :: r).length) ⟨0, 0⟩ = b := congrArg Prod.snd e
    have h1 : k < (m :: r ++ [m]).length := by simp; omega
    have h2 : k + 1 < (m :: r ++ [m]).length := by simp; omega
    refine ⟨(m :: r ++ [m]).take k, (m :: r ++ [m]).drop (k + 2), ?_⟩
    have ga : (m :: r ++ [m])[k] = a := by
      apply Option.some.inj
      rw [← List.getElem?_eq_getElem, key, if_pos hk', ← ea, List.getD_eq_getElem?_getD, List.getElem?_eq_getElem (by simpa using hk')]
      rfl
    have gb : (m :: r ++ [m])[k + 1] = b := by
      apply Option.some.inj
      rw [← List.getElem?_eq_getElem, key, ← eb, List.getD_eq_getElem?_getD]
      by_cases hl : k + 1 < r.length + 1
      · rw [if_pos hl]
        have : (k + 1) % (m :: r).length = k + 1 := Nat.mod_eq_of_lt hl
        rw [this, List.getElem?_eq_getElem (by simpa using hl)]
        rfl
      · have : k + 1 = r.length + 1 := by omega
        rw [if_neg hl, if_pos this]
        have : (k + 1) % (m :: r).length = 0 := by rw [this]; exact Nat.mod_self _
        rw [this]
        rfl
    rw [← ga, ← gb]
    conv => lhs; rw [← List.take_append_drop k (m :: r ++ [m])]
    rw [List.drop_eq_getElem_cons h1, List.drop_eq_getElem_cons h2]
  · rintro ⟨pre, post, e⟩
    have hl := congrArg List.length e
    simp at hl
    refine ⟨pre.length, List.mem_range.mpr (by simp; omega), ?_⟩
    have ga : (m :: r ++ [m])[pre.length]? = some a := by rw [e]; simp
    have gb : (m :: r ++ [m])[pre.length + 1]? = some b := by rw [e]; simp
    rw [key, if_pos (by omega)] at ga
    rw [key] at gb
    rw [Prod.mk.injEq, List.getD_eq_getElem?_getD, ga, List.getD_eq_getElem?_getD]
    refine ⟨rfl, ?_⟩
    by_cases hl2 : pre.length + 1 < r.length + 1
    · rw [if_pos hl2] at gb
      have : (pre.length + 1) % (m :: r).length = pre.length + 1 := Nat.mod_eq_of_lt hl2
      rw [this, gb]
      rfl
    · have h3 : pre.length + 1 = r.length + 1 := by omega
      rw [if_neg hl2, if_pos h3] at gb
      have : (pre.length + 1) % (m :: r).length = 0 := by rw [h3]; exact Nat.mod_self _
      rw [this]
      exact Option.some.inj gb

/-! ### both halves -/
structure Half (R : Pt → Pt → Prop) (S L : List Pt) (m M : Pt) : Prop where
  sub : ∀ c ∈ L, c ∈ S
  left : ∀ a b, Adj L a b → ∀ x ∈ S, 0 ≤ crossP a b x
  dir : ∀ a b, Adj L a b → R a b
  str : ∀ pre a b c post, L = pre ++ a :: b :: c :: post → 0 < crossP a b c
  head : L.head? = some m
  last : L.getLast? = some M
  min : ∀ x ∈ S, ¬ R x m
  max : ∀ x ∈ S, ¬ R M x
theorem Ch.at {X : List Pt} : ∀ {pre : List Pt} {a b : Pt} {post : List Pt}, Ch X (pre ++ b :: a :: post) → Lt a b ∧ (∀ x ∈ X, 0 ≤ crossP a b x) ∧ (∀ c, post.head? = some c → 0 < crossP c a b)
  | [], a, b, post, h => ⟨h.1, h.2.1, h.2.2.1⟩
  | p :: pre, a, b, post, h => Ch.at (pre := pre) h.tail
theorem half_lo {S : List Pt} (hs : Srt S) (hne : S ≠ []) : ∃ m M, Half Lt S (halfRound S) m M := by
  cases S with
  | nil => exact absurd rfl hne
  | cons m S =>
    obtain ⟨i, l⟩ := half_inv hs
    unfold halfRound
    generalize halfR [] (m :: S) = st at *
    obtain ⟨b, r, e⟩ : ∃ b r, st = b :: r := by
      cases st with
      | nil => exact absurd rfl i.ne
      | cons b r => exact ⟨b, r, rfl⟩
    refine ⟨m, b, ⟨fun c hc => i.sub c (List.mem_reverse.mp hc), fun a b h => ?_, fun a b h => ?_, fun pre a b c post e => ?_, by rw [List.head?_reverse]; exact l, by rw [List.getLast?_reverse, e]; rfl, fun x hx => i.bot m l x hx, fun x hx => i.top b (by rw [e]; rfl) x hx⟩⟩
    · obtain ⟨pre, post, e⟩ := adj_split.mp (adj_rev.mp h)
      have := i.ch
      rw [e] at this
      exact this.at.2.1
    · obtain ⟨pre, post, e⟩ := adj_split.mp (adj_rev.mp h)
      have := i.ch
      rw [e] at this
      exact this.at.1
    · have e2 := congrArg List.reverse e
      rw [List.reverse_reverse] at e2
      have e3 : st = post.reverse ++ c :: b :: a :: pre.reverse := by rw [e2]; simp
      have := i.ch
      rw [e3] at this
      exact this.at.2.2 a rfl
def nP (p : Pt) : Pt := ⟨-p.x, -p.y⟩
theorem nP_nP (p : Pt) : nP (nP p) = p := by
  unfold nP
  simp only [Rat.neg_neg]
theorem cross_nP (a b c : Pt) : crossP (nP a) (nP b) (nP c) = crossP a b c := by
  unfold crossP nP
  grind
theorem lt_nP {a b : Pt} : Lt (nP a) (nP b) ↔ Lt b a := by
  unfold Lt nP
  grind
theorem popR_nP (c : Pt) : ∀ st : List Pt, popR (st.map nP) (nP c) = (popR st c).map nP
  | [] => by simp [popR]
  | [b] => by simp [popR]
  | b :: a :: r => by
    have := popR_nP c (a :: r)
    show popR (nP b :: nP a :: r.map nP) (nP c) = _
    rw [popR, popR, cross_nP]
    split
    · exact this
    · rfl
theorem halfR_nP : ∀ (S st : List Pt), halfR (st.map nP) (S.map nP) = (halfR st S).map nP
  | [], st => rfl
  | z :: S, st => by
    have := halfR_nP S (z :: popR st z)
    rw [List.map_cons, ← popR_nP] at this
    exact this
theorem adj_nP : ∀ {l : List Pt} {a b : Pt}, Adj l a b → Adj (l.map nP) (nP a) (nP b)
  | [], _, _, h => h
  | [_], _, _, h => h
  | x :: y :: l, a, b, h => h.elim (fun h => .inl ⟨by rw [h.1], by rw [h.2]⟩) fun h => .inr (adj_nP h)
theorem half_up {S : List Pt} (hs : Srt S) (hne : S ≠ []) : ∃ M m, Half (fun a b => Lt b a) S (halfRound S.reverse) M m := by
  have hs' : Srt (S.reverse.map nP) := by
    rw [Srt, List.pairwise_map, List.pairwise_reverse]
    exact hs.imp fun h => lt_nP.mpr h
  obtain ⟨m, M, h⟩ := half_lo hs' (by simpa using hne)
  have e : halfRound (S.reverse.map nP) = (halfRound S.reverse).map nP := by
    unfold halfRound
    have := halfR_nP S.reverse []
    rw [List.map_nil] at this
    rw [this, List.map_reverse]
  rw [e] at h
  have mm : ∀ {x}, x ∈ S → nP x ∈ S.reverse.map nP := fun hx => List.mem_map_of_mem (List.mem_reverse.mpr hx)
  have hm : ∀ {x}, x ∈ S.reverse.map nP → nP x ∈ S := fun hx => by
    obtain ⟨y, hy, rfl⟩ := List.mem_map.mp hx
    rw [nP_nP]
    exact List.mem_reverse.mp hy
  refine ⟨nP m, nP M, ⟨fun c hc => ?_, fun a b hab x hx => ?_, fun a b hab => ?_, fun pre a b c post e => ?_, ?_, ?_, fun x hx hl => ?_, fun x hx hl => ?_⟩⟩
  · have := hm (h.sub _ (List.mem_map_of_mem hc))
    rw [nP_nP] at this
    exact this
  · have := h.left _ _ (adj_nP hab) _ (mm hx)
    rw [cross_nP] at this
    exact this
  · exact lt_nP.mp (h.dir _ _ (adj_nP hab))
  · have := h.str (pre.map nP) (nP a) (nP b) (nP c) (post.map nP) (by rw [e]; simp)
    rw [cross_nP] at this
    exact this
  · have := h.head
    rw [List.head?_map] at this
    cases q : (halfRound S.reverse).head? with
    | none => rw [q] at this; cases this
    | some y =>
      rw [q] at this
      have : nP y = m := by simpa using this
      rw [← this, nP_nP]
  · have := h.last
    rw [List.getLast?_map] at this
    cases q : (halfRound S.reverse).getLast? with
    | none => rw [q] at this; cases this
    | some y =>
      rw [q] at this
      have : nP y = M := by simpa using this
      rw [← this, nP_nP]
  · have hl' : Lt (nP m) x := hl
    rw [← lt_nP, nP_nP] at hl'
    exact h.min _ (mm hx) hl'
  · have hl' : Lt x (nP M) := hl
    rw [← lt_nP, nP_nP] at hl'
    exact h.max _ (mm hx) hl'
end W15

/-! ## G3 -/
/-! a shape holds what every straight bound of its places holds -/
namespace W15
/-- every straight bound of S holds q -/
def Hs (S : List Pt) (q : Pt) : Prop := ∀ α β γ : Rat, (∀ p ∈ S, 0 ≤ α * p.x + β * p.y + γ) → 0 ≤ α * q.x + β * q.y + γ
theorem Hs.mem {S : List Pt} {q : Pt} (h : q ∈ S) : Hs S q := fun α β γ k => k q h
theorem Hs.mono {S T : List Pt} {q : Pt} (h : Hs S q) (k : ∀ p ∈ S, Hs T p) : Hs T q := fun α β γ l => h α β γ fun p hp => k p hp α β γ l
theorem Hs.sub {S T : List Pt} {q : Pt} (h : Hs S q) (k : ∀ p ∈ S, p ∈ T) : Hs T q := h.mono fun p hp => Hs.mem (k p hp)
theorem Hs.cross {S : List Pt} {q a b : Pt} (h : Hs S q) (k : ∀ p ∈ S, 0 ≤ crossP a b p) : 0 ≤ crossP a b q := by
  have e : ∀ p, crossP a b p = (-(b.y - a.y)) * p.x + (b.x - a.x) * p.y + ((b.y - a.y) * a.x - (b.x - a.x) * a.y) := fun p => by
    unfold crossP
    grind
  rw [e]
  exact h _ _ _ fun p hp => by rw [← e]; exact k p hp
structure Poly (h : List Pt) : Prop where
  ne : h ≠ []
  cor : ∀ v ∈ h, ∃ a c, (a, v) ∈ edgesP h ∧ (v, c) ∈ edgesP h ∧ 0 < crossP a v c
  left : ∀ e ∈ edgesP h, ∀ p ∈ h, 0 ≤ crossP e.1 e.2 p
theorem edge_mem {S : List Pt} {a b : Pt} (h : (a, b) ∈ edgesP S) : a ∈ S ∧ b ∈ S := by
  cases S with
  | nil => cases h
  | cons m r =>
    have := adj_mem (edges_adj.mp h)
    have k : ∀ {p}, p ∈ m :: r ++ [m] → p ∈ m :: r := fun h => by
      rcases List.mem_append.mp h with h | h
      · exact h
      · rw [List.mem_singleton.mp h]; exact List.mem_cons_self
    exact ⟨k this.1, k this.2⟩
/-- the corner where a straight bound is least -/
theorem min_at (α β : Rat) : ∀ (S : List Pt), S ≠ [] → ∃ v ∈ S, ∀ p ∈ S, α * v.x + β * v.y ≤ α * p.x + β * p.y
  | [], h => absurd rfl h
  | [v], _ => ⟨v, List.mem_cons_self, fun p hp => by rw [List.mem_singleton.mp hp]; exact Rat.le_refl⟩
  | x :: y :: S, _ => by
    obtain ⟨v, hv, hm⟩ := min_at α β (y :: S) (by simp)
    rcases (Rat.le_total : α * x.x + β * x.y ≤ α * v.x + β * v.y ∨ α * v.x + β * v.y ≤ α * x.x + β * x.y) with h | h
    · refine ⟨x, List.mem_cons_self, fun p hp => ?_⟩
      rcases List.mem_cons.mp hp with e | hp
      · rw [e]; exact Rat.le_refl
      · exact Rat.le_trans h (hm p hp)
    · refine ⟨v, List.mem_cons_of_mem _ hv, fun p hp => ?_⟩
      rcases List.mem_cons.mp hp with e | hp
      · rw [e]; exact h
      · exact hm p hp
/-- in the cone of a corner -/
theorem cone {a v c q : Pt} (h : 0 < crossP a v c) (h1 : 0 ≤ crossP a v q) (h2 : 0 ≤ crossP v c q) (α β : Rat) (ka : α * v.x + β * v.y ≤ α * a.x + β * a.y) (kc : α * v.x + β * v.y ≤ α * c.x + β * c.y) :
    α * v.x + β * v.y ≤ α * q.x + β * q.y := by
  have k1 := mnn h1 (show 0 ≤ (α * c.x + β * c.y) - (α * v.x + β * v.y) by grind)
  have k2 := mnn h2 (show 0 ≤ (α * a.x + β * a.y) - (α * v.x + β * v.y) by grind)
  have e : ((α * q.x + β * q.y) - (α * v.x + β * v.y)) * crossP a v c = crossP a v q * ((α * c.x + β * c.y) - (α * v.x + β * v.y)) + crossP v c q * ((α * a.x + β * a.y) - (α * v.x + β * v.y)) := by
    unfold crossP
    grind
  have := nn_of_mul h (show 0 ≤ ((α * q.x + β * q.y) - (α * v.x + β * v.y)) * crossP a v c by grind)
  grind
theorem Poly.conv {h : List Pt} (P : Poly h) {q : Pt} (k : ∀ e ∈ edgesP h, 0 ≤ crossP e.1 e.2 q) : Hs h q := fun α β γ hl => by
  obtain ⟨v, hv, hm⟩ := min_at α β h P.ne
  obtain ⟨a, c, ha, hc, hx⟩ := P.cor v hv
  have := cone hx (k _ ha) (k _ hc) α β (hm a (edge_mem ha).1) (hm c (edge_mem hc).2)
  have := hl v hv
  grind
theorem sgn_nn {x : Rat} : 0 ≤ sgn x ↔ 0 ≤ x := by
  unfold sgn
  by_cases h : 0 < x
  · rw [if_pos h]
    exact ⟨fun _ => Rat.le_of_lt h, fun _ => by decide⟩
  · rw [if_neg h]
    by_cases h2 : x < 0
    · rw [if_pos h2]
      exact ⟨fun k => absurd k (by decide), fun k => by grind⟩
    · rw [if_neg h2]
      exact ⟨fun _ => by grind, fun _ => by decide⟩
theorem belongs_iff {h : List Pt} {q : Pt} : belongsP h q = true ↔ ∀ e ∈ edgesP h, 0 ≤ crossP e.1 e.2 q := by
  unfold belongsP
  rw [List.all_eq_true]
  exact ⟨fun k e he => sgn_nn.mp (of_decide_eq_true (k e he)), fun k e he => decide_eq_true (sgn_nn.mpr (k e he))⟩
theorem Poly.belongs {h : List Pt} (P : Poly h) {q : Pt} : belongsP h q = true ↔ Hs h q := by
  rw [belongs_iff]
  exact ⟨P.conv, fun k e he => k.cross (P.left e he)⟩
/-- not all on one line -/
def NC (S : List Pt) : Prop := ∃ a b c, a ∈ S ∧ b ∈ S ∧ c ∈ S ∧ crossP a b c ≠ 0
theorem col3 {a v x y z : Pt} (hv : a.x ≠ v.x ∨ a.y ≠ v.y) (h1 : crossP a v x = 0) (h2 : crossP a v y = 0) (h3 : crossP a v z = 0) : crossP x y z = 0 := by
  have k : (v.x - a.x) * crossP x y z = 0 ∧ (v.y - a.y) * crossP x y z = 0 := by
    unfold crossP at *
    constructor <;> grind
  rcases hv with hv | hv
  · rcases Rat.mul_eq_zero.mp k.1 with e | e
    · exact absurd (by grind) hv
    · exact e
  · rcases Rat.mul_eq_zero.mp k.2 with e | e
    · exact absurd (by grind) hv
    · exact e
theorem Lt.ne {a b : Pt} (h : Lt a b) : a.x ≠ b.x ∨ a.y ≠ b.y := by
  unfold Lt at h
  grind
/-- two edges there and back on one line -/
theorem back0 {a b c d e f : Rat} (hu : Vp a b) (hw : Vp (-c) (-d)) (h0 : a * d - b * c = 0) (h1 : 0 ≤ a * f - b * e) (h2 : 0 ≤ c * f - d * e) : a * f - b * e = 0 := by
  rcases hu with ha | ⟨ha, hb⟩
  · have hc : 0 < -c := by
      rcases hw with h | ⟨h, h'⟩
      · exact h
      · have c0 : c = 0 := by grind
        subst c0
        have : a * d = 0 := by grind
        rcases Rat.mul_eq_zero.mp this with z | z <;> grind
    have k : 0 ≤ -(a * f - b * e) := by
      apply nn_of_mul hc
      have := mnn h2 (Rat.le_of_lt ha)
      have z : -(a * f - b * e) * -c = (c * f - d * e) * a := by grind
      rw [z]
      exact this
    grind
  · subst ha
    have hc : c = 0 := by
      have : b * c = 0 := by grind
      rcases Rat.mul_eq_zero.mp this with z | z <;> grind
    subst hc
    have hd : 0 < -d := by unfold Vp at hw; grind
    have k1 : 0 ≤ e := nn_of_mul hd (by grind)
    have k2 : 0 ≤ -e := nn_of_mul hb (by grind)
    have : e = 0 := by grind
    subst this
    grind
theorem joint {S : List Pt} (nc : NC S) {a v c : Pt} (hc : c ∈ S) (l1 : ∀ x ∈ S, 0 ≤ crossP a v x) (l2 : ∀ x ∈ S, 0 ≤ crossP v c x) (hd : (Lt a v ∧ Lt c v) ∨ (Lt v a ∧ Lt v c)) : 0 < crossP a v c := by
  have h0 := l1 c hc
  by_cases hz : crossP a v c = 0
  · exfalso
    have key : ∀ x ∈ S, crossP a v x = 0 := fun x hx => by
      have k1 := l1 x hx
      have k2 := l2 x hx
      rcases hd with ⟨d1, d2⟩ | ⟨d1, d2⟩
      · have := back0 (e := x.x - v.x) (f := x.y - v.y) d1.vp (c := c.x - v.x) (d := c.y - v.y) (by have := d2.vp; unfold Vp at *; grind) (by unfold crossP at hz; grind) (by unfold crossP at k1; grind) (by unfold crossP at k2; grind)
        unfold crossP
        grind
      · have := back0 (a := -(v.x - a.x)) (b := -(v.y - a.y)) (e := v.x - x.x) (f := v.y - x.y) (by have := d1.vp; unfold Vp at *; grind) (c := -(c.x - v.x)) (d := -(c.y - v.y)) (by have := d2.vp; unfold Vp at *; grind) (by unfold crossP at hz; grind) (by unfold crossP at k1; grind) (by unfold crossP at k2; grind)
        unfold crossP
        grind
    obtain ⟨x, y, z, hx, hy, hz', n⟩ := nc
    have hne : a.x ≠ v.x ∨ a.y ≠ v.y := by
      rcases hd with ⟨d1, _⟩ | ⟨d1, _⟩
      · exact d1.ne
      · have := d1.ne
        grind
    exact n (col3 hne (key x hx) (key y hy) (key z hz'))
  · grind
theorem Half.uniq {R : Pt → Pt → Prop} {S L : List Pt} {m M : Pt} (h : Half R S L m M) : m ∈ S ∧ M ∈ S := by
  refine ⟨h.sub m ?_, h.sub M (List.mem_of_getLast? h.last)⟩
  have := h.head
  cases L with
  | nil => cases this
  | cons x L =>
    have : x = m := by simpa using this
    rw [this]; exact List.mem_cons_self
/-- a corner of one half -/
theorem half_cor {R : Pt → Pt → Prop} {S L X : List Pt} {m M e : Pt} (h : Half R S L m M) (hX : L = X ++ [e]) {v : Pt} (hv : v ∈ X) : (v = m ∧ ∃ c, Adj L v c) ∨ ∃ a c, Adj L a v ∧ Adj L v c ∧ 0 < crossP a v c := by
  obtain ⟨pre, post, rfl⟩ := List.append_of_mem hv
  obtain ⟨c, rest, hc⟩ : ∃ c rest, post ++ [e] = c :: rest := by
    cases post with
    | nil => exact ⟨e, [], rfl⟩
    | cons c post => exact ⟨c, post ++ [e], rfl⟩
  have eL : L = pre ++ v :: c :: rest := by rw [hX, List.append_assoc, List.cons_append, hc]
  rcases List.eq_nil_or_concat pre with rfl | ⟨pre', a, rfl⟩
  · left
    have := h.head
    rw [eL] at this
    have : v = m := by simpa using this
    exact ⟨this, c, adj_split.mpr ⟨[], rest, eL⟩⟩
  · right
    have eL' : L = pre' ++ a :: v :: c :: rest := by rw [eL]; simp
    exact ⟨a, c, adj_split.mpr ⟨pre', c :: rest, eL'⟩, adj_split.mpr ⟨pre' ++ [a], rest, by rw [eL']; simp⟩, h.str _ _ _ _ _ eL'⟩
theorem half_lastAdj {R : Pt → Pt → Prop} {S L X : List Pt} {m M e : Pt} (h : Half R S L m M) (hX : L = X ++ [e]) (hne : X ≠ []) : ∃ a, Adj L a M := by
  have hl := h.last
  rw [hX, List.getLast?_append] at hl
  have : e = M := by simpa using hl
  subst this
  rcases List.eq_nil_or_concat X with rfl | ⟨X', a, rfl⟩
  · exact absurd rfl hne
  · exact ⟨a, adj_split.mpr ⟨X', [], by rw [hX]; simp⟩⟩
theorem hull_poly {S : List Pt} (hs : Srt S) (h2 : 2 ≤ S.length) : (∀ c ∈ hull S, c ∈ S) ∧ (2 < (hull S).length ↔ NC S) ∧ (NC S → Poly (hull S) ∧ ∀ e ∈ edgesP (hull S), ∀ x ∈ S, 0 ≤ crossP e.1 e.2 x) := by
  have hne : S ≠ [] := by
    intro z
    rw [z] at h2
    exact absurd h2 (by decide)
  obtain ⟨m, M, hL⟩ := half_lo hs hne
  obtain ⟨M', m', hU⟩ := half_up hs hne
  have eM : M' = M := by
    rcases Lt.tri M M' with g | g | g
    · exact absurd g (hL.max _ hU.uniq.1)
    · exact g.symm
    · exact absurd g (hU.min _ hL.uniq.2)
  have em : m' = m := by
    rcases Lt.tri m m' with g | g | g
    · exact absurd g (hU.max _ hL.uniq.1)
    · exact g.symm
    · exact absurd g (hL.min _ hU.uniq.2)
  subst eM
  subst em
  have hmM : m' ≠ M' := by
    intro z
    subst z
    match S, h2, hs with
    | x :: y :: S, _, hs =>
      have hxy := (List.pairwise_cons.mp hs).1 y List.mem_cons_self
      have ex : x = m' := by
        rcases Lt.tri x m' with g | g | g
        · exact absurd g (hL.min x List.mem_cons_self)
        · exact g
        · exact absurd g (hL.max x List.mem_cons_self)
      have ey : y = m' := by
        rcases Lt.tri y m' with g | g | g
        · exact absurd g (hL.min y (List.mem_cons_of_mem _ List.mem_cons_self))
        · exact g
        · exact absurd g (hL.max y (List.mem_cons_of_mem _ List.mem_cons_self))
      subst ex
      subst ey
      exact hxy.irrefl
  unfold hull
  generalize halfRound S = L at *
  generalize halfRound S.reverse = U at *
  have dec : ∀ {R : Pt → Pt → Prop} {L : List Pt} {m M : Pt}, Half R S L m M → m ≠ M → ∃ X, L = m :: X ++ [M] := fun {R L m M} h n => by
    rcases List.eq_nil_or_concat L with e | ⟨X, y, e⟩
    · have := h.head
      rw [e] at this
      cases this
    · have hl := h.last
      rw [e] at hl
      have : y = M := by simpa using hl
      subst this
      cases X with
      | nil =>
        have := h.head
        rw [e] at this
        have : y = m := by simpa using this
        exact absurd this.symm n
      | cons x X =>
        have := h.head
        rw [e] at this
        have : x = m := by simpa using this
        subst this
        exact ⟨X, by rw [e]; simp⟩
  obtain ⟨X, eL⟩ := dec hL hmM
  obtain ⟨Y, eU⟩ := dec hU (Ne.symm hmM)
  have dL : L.dropLast = m' :: X := by rw [eL, List.dropLast_concat]
  have dU : U.dropLast = M' :: Y := by rw [eU, List.dropLast_concat]
  rw [dL, dU]
  have adj : ∀ {a b}, (a, b) ∈ edgesP (m' :: X ++ M' :: Y) ↔ Adj L a b ∨ Adj U a b := fun {a b} => by
    have : m' :: X ++ M' :: Y = m' :: (X ++ M' :: Y) := rfl
    rw [this, edges_adj]
    have e : m' :: (X ++ M' :: Y) ++ [m'] = (m' :: X) ++ M' :: (Y ++ [m']) := by simp
    rw [e, adj_app, eL, eU]
    exact Iff.rfl
  have left : ∀ e ∈ edgesP (m' :: X ++ M' :: Y), ∀ x ∈ S, 0 ≤ crossP e.1 e.2 x := fun e he x hx => by
    rcases adj.mp (show (e.1, e.2) ∈ _ from he) with k | k
    · exact hL.left _ _ k x hx
    · exact hU.left _ _ k x hx
  have sub : ∀ c ∈ m' :: X ++ M' :: Y, c ∈ S := fun c hc => by
    rcases List.mem_append.mp hc with h | h
    · exact hL.sub c (by rw [eL]; exact List.mem_append_left _ h)
    · exact hU.sub c (by rw [eU]; exact List.mem_append_left _ h)
  refine ⟨sub, ⟨fun hl => ?_, fun nc => ?_⟩, fun nc => ⟨⟨by simp, fun v hv => ?_, fun e he p hp => left e he p (sub p hp)⟩, left⟩⟩
  · cases X with
    | cons x X =>
      obtain ⟨y, Z, hZ⟩ : ∃ y Z, X ++ [M'] = y :: Z := by
        cases X with
        | nil => exact ⟨M', [], rfl⟩
        | cons y X => exact ⟨y, X ++ [M'], rfl⟩
      have e3 : L = [] ++ m' :: x :: y :: Z := by rw [eL]; show m' :: x :: (X ++ [M']) = _; rw [hZ]; rfl
      have := hL.str _ _ _ _ _ e3
      exact ⟨m', x, y, hL.sub _ (by rw [e3]; simp), hL.sub _ (by rw [e3]; simp), hL.sub _ (by rw [e3]; simp), fun z => by rw [z] at this; exact Rat.lt_irrefl this⟩
    | nil =>
      cases Y with
      | nil => exact absurd (show 2 < 2 from hl) (by decide)
      | cons x Y =>
        obtain ⟨y, Z, hZ⟩ : ∃ y Z, Y ++ [m'] = y :: Z := by
          cases Y with
          | nil => exact ⟨m', [], rfl⟩
          | cons y Y => exact ⟨y, Y ++ [m'], rfl⟩
        have e3 : U = [] ++ M' :: x :: y :: Z := by rw [eU]; show M' :: x :: (Y ++ [m']) = _; rw [hZ]; rfl
        have := hU.str _ _ _ _ _ e3
        exact ⟨M', x, y, hU.sub _ (by rw [e3]; simp), hU.sub _ (by rw [e3]; simp), hU.sub _ (by rw [e3]; simp), fun z => by rw [z] at this; exact Rat.lt_irrefl this⟩
  · cases X with
    | cons x X => simp; omega
    | nil =>
      cases Y with
      | cons x Y => simp
      | nil =>
        exfalso
        obtain ⟨x, y, z, hx, hy, hz, n⟩ := nc
        have d : Lt m' M' := hL.dir _ _ (by rw [eL]; exact .inl ⟨rfl, rfl⟩)
        have k : ∀ x ∈ S, crossP m' M' x = 0 := fun x hx => by
          have k1 := hL.left m' M' (by rw [eL]; exact .inl ⟨rfl, rfl⟩) x hx
          have k2 := hU.left M' m' (by rw [eU]; exact .inl ⟨rfl, rfl⟩) x hx
          unfold crossP at *
          grind
        exact n (col3 d.ne (k x hx) (k y hy) (k z hz))
  · have mem : ∀ {a v c}, (a, v) ∈ edgesP (m' :: X ++ M' :: Y) → (v, c) ∈ edgesP (m' :: X ++ M' :: Y) → (Lt a v ∧ Lt c v) ∨ (Lt v a ∧ Lt v c) → ∃ a c, (a, v) ∈ edgesP (m' :: X ++ M' :: Y) ∧ (v, c) ∈ edgesP (m' :: X ++ M' :: Y) ∧ 0 < crossP a v c :=
      fun {a v c} h1 h2 hd => ⟨a, c, h1, h2, joint nc (sub c (edge_mem h2).2) (left _ h1) (left _ h2) hd⟩
    rcases List.mem_append.mp hv with h | h
    · rcases half_cor hL eL h with ⟨rfl, c, hc⟩ | ⟨a, c, h1, h2, h3⟩
      · obtain ⟨a, ha⟩ := half_lastAdj hU eU (by simp)
        exact mem (adj.mpr (.inr ha)) (adj.mpr (.inl hc)) (.inr ⟨hU.dir _ _ ha, hL.dir _ _ hc⟩)
      · exact ⟨a, c, adj.mpr (.inl h1), adj.mpr (.inl h2), h3⟩
    · rcases half_cor hU eU h with ⟨rfl, c, hc⟩ | ⟨a, c, h1, h2, h3⟩
      · obtain ⟨a, ha⟩ := half_lastAdj hL eL (by simp)
        exact mem (adj.mpr (.inl ha)) (adj.mpr (.inr hc)) (.inl ⟨hL.dir _ _ ha, hU.dir _ _ hc⟩)
      · exact ⟨a, c, adj.mpr (.inr h1), adj.mpr (.inr h2), h3⟩
end W15

/-! ## G4 -/
/-! shapes and cut shapes -/
namespace W15
theorem srt_split {one : Pt} : ∀ {l : List Pt}, Srt l → ∃ A B, l = A ++ B ∧ (∀ a ∈ A, Lt a one) ∧ (∀ b ∈ B, ¬ Lt b one) ∧ (l.filter fun o => ltP o one) = A
  | [], _ => ⟨[], [], rfl, by simp, by simp, rfl⟩
  | x :: r, h => by
    have h' := List.pairwise_cons.mp h
    by_cases hx : Lt x one
    · obtain ⟨A, B, e, h1, h2, h3⟩ := srt_split (one := one) h'.2
      refine ⟨x :: A, B, by rw [e]; rfl, fun a ha => ?_, h2, ?_⟩
      · rcases List.mem_cons.mp ha with z | z
        · rw [z]; exact hx
        · exact h1 a z
      · rw [List.filter_cons, if_pos (ltP_iff.mpr hx), h3]
    · have n : ∀ b ∈ x :: r, ¬ Lt b one := fun b hb => by
        rcases List.mem_cons.mp hb with z | z
        · rw [z]; exact hx
        · exact fun k => hx ((h'.1 b z).trans k)
      refine ⟨[], x :: r, rfl, by simp, n, ?_⟩
      apply List.filter_eq_nil_iff.mpr
      exact fun b hb k => n b hb (ltP_iff.mp k)
theorem insP_spec {found : List Pt} (h : Srt found) (one : Pt) : Srt (insP found one) ∧ ∀ x, x ∈ insP found one ↔ x ∈ found ∨ x = one := by
  obtain ⟨A, B, e, h1, h2, h3⟩ := srt_split (one := one) h
  unfold insP
  rw [h3]
  have t1 : found.take A.length = A := by rw [e]; exact List.take_left' rfl
  have t2 : found.drop A.length = B := by rw [e]; exact List.drop_left' rfl
  have t3 : found[A.length]? = B.head? := by
    rw [e, List.getElem?_append_right (Nat.le_refl _), Nat.sub_self, List.head?_eq_getElem?]
  rw [t1, t2, t3]
  have hs := h
  rw [e] at hs
  obtain ⟨p1, p2, p3⟩ := List.pairwise_append.mp hs
  by_cases hc : A.length = found.length ∨ B.head? ≠ some one
  · rw [if_pos hc]
    have gt : ∀ b ∈ B, Lt one b := fun b hb => by
      cases B with
      | nil => cases hb
      | cons y B =>
        have ny : y ≠ one := by
          rcases hc with hc | hc
          · rw [e, List.length_append] at hc
            simp at hc
          · intro z
            rw [z] at hc
            exact hc rfl
        have ly : Lt one y := by
          rcases Lt.tri one y with g | g | g
          · exact g
          · exact absurd g.symm ny
          · exact absurd g (h2 y List.mem_cons_self)
        rcases List.mem_cons.mp hb with z | z
        · rw [z]; exact ly
        · exact ly.trans ((List.pairwise_cons.mp p2).1 b z)
    refine ⟨?_, fun x => ?_⟩
    · rw [Srt, List.append_assoc]
      refine List.pairwise_append.mpr ⟨p1, List.pairwise_cons.mpr ⟨gt, p2⟩, fun a ha b hb => ?_⟩
      rcases List.mem_cons.mp hb with z | z
      · rw [z]; exact h1 a ha
      · exact p3 a ha b z
    · rw [e]
      simp only [List.mem_append, List.mem_singleton]
      grind
  · rw [if_neg hc]
    refine ⟨h, fun x => ⟨.inl, fun k => ?_⟩⟩
    rcases k with k | k
    · exact k
    · have hb : B.head? = some one := by
        have := fun z => hc (.inr z)
        exact Classical.not_not.mp this
      rw [k, e]
      exact List.mem_append_right _ (List.mem_of_head? hb)
theorem sort_spec : ∀ (S found : List Pt), Srt found → Srt (S.foldl insP found) ∧ ∀ x, x ∈ S.foldl insP found ↔ x ∈ found ∨ x ∈ S
  | [], found, h => ⟨h, fun x => by simp⟩
  | one :: S, found, h => by
    obtain ⟨k1, k2⟩ := insP_spec h one
    obtain ⟨q1, q2⟩ := sort_spec S (insP found one) k1
    refine ⟨q1, fun x => ?_⟩
    show x ∈ S.foldl insP (insP found one) ↔ _
    rw [q2, k2, List.mem_cons, or_assoc]
theorem sortP_srt (S : List Pt) : Srt (sortP S) := (sort_spec S [] List.Pairwise.nil).1
theorem sortP_mem {S : List Pt} {x : Pt} : x ∈ sortP S ↔ x ∈ S := by
  rw [sortP, (sort_spec S [] List.Pairwise.nil).2]
  simp
theorem nc_sub {S T : List Pt} (h : NC S) (k : ∀ x ∈ S, x ∈ T) : NC T := by
  obtain ⟨a, b, c, ha, hb, hc, n⟩ := h
  exact ⟨a, b, c, k a ha, k b hb, k c hc, n⟩
/-- the shape about places not on one line -/
theorem shape_spec {S : List Pt} (nc : NC S) : ∃ h, shapeOf S = some h ∧ Poly h ∧ (∀ c ∈ h, c ∈ S) ∧ ∀ q, belongsP h q = true ↔ Hs S q := by
  have nc' : NC (sortP S) := nc_sub nc fun x hx => sortP_mem.mpr hx
  have l3 : 3 ≤ (sortP S).length := by
    obtain ⟨a, b, c, ha, hb, hc, n⟩ := nc'
    match h : sortP S with
    | [] => rw [h] at ha; cases ha
    | [x] =>
      rw [h] at ha hb hc
      rw [List.mem_singleton.mp ha, List.mem_singleton.mp hb, List.mem_singleton.mp hc] at n
      exact absurd (by unfold crossP; grind) n
    | [x, y] =>
      rw [h] at ha hb hc
      exfalso
      apply n
      simp only [List.mem_cons, List.not_mem_nil, or_false] at ha hb hc
      rcases ha with rfl | rfl <;> rcases hb with rfl | rfl <;> rcases hc with rfl | rfl <;> unfold crossP <;> grind
    | x :: y :: z :: r => simp
  obtain ⟨h1, h2, h3⟩ := hull_poly (sortP_srt S) (by omega)
  obtain ⟨p, l⟩ := h3 nc'
  have sub : ∀ c ∈ hull (sortP S), c ∈ S := fun c hc => sortP_mem.mp (h1 c hc)
  refine ⟨hull (sortP S), ?_, p, sub, fun q => ?_⟩
  · unfold shapeOf
    rw [if_neg (by omega), if_pos (h2.mpr nc')]
  · rw [p.belongs]
    refine ⟨fun k => k.sub sub, fun k => ?_⟩
    exact p.conv fun e he => k.cross fun x hx => l e he x (sortP_mem.mpr hx)

/-! ### cutting -/
theorem edges_idx {h : List Pt} {k : Nat} (hk : k < h.length) : (h.getD k ⟨0, 0⟩, h.getD ((k + 1) % h.length) ⟨0, 0⟩) ∈ edgesP h := by
  unfold edgesP
  exact List.mem_map_of_mem (f := fun k => (h.getD k ⟨0, 0⟩, h.getD ((k + 1) % h.length) ⟨0, 0⟩)) (List.mem_range.mpr hk)
/-- round the shape, a change of a mark is on an edge -/
theorem round {h : List Pt} (f : Pt → Prop) [DecidablePred f] {v w : Pt} (hv : v ∈ h) (hw : w ∈ h) (fv : f v) (fw : ¬ f w) : ∃ e ∈ edgesP h, f e.1 ∧ ¬ f e.2 := by
  apply Classical.byContradiction
  intro no
  have step : ∀ k, k < h.length → f (h.getD k ⟨0, 0⟩) → f (h.getD ((k + 1) % h.length) ⟨0, 0⟩) := fun k hk fk => by
    apply Classical.byContradiction
    intro n
    exact no ⟨_, edges_idx hk, fk, n⟩
  obtain ⟨i, hi, ei⟩ := List.getElem_of_mem hv
  obtain ⟨j, hj, ej⟩ := List.getElem_of_mem hw
  have all : ∀ n, f (h.getD ((i + n) % h.length) ⟨0, 0⟩) := fun n => by
    induction n with
    | zero =>
      rw [Nat.add_zero, Nat.mod_eq_of_lt hi, List.getD_eq_getElem?_getD, List.getElem?_eq_getElem hi, ei]
      exact fv
    | succ n ih =>
      have := step _ (Nat.mod_lt _ (by omega)) ih
      rw [Nat.mod_add_mod] at this
      exact this
  have := all (h.length - i + j)
  rw [show i + (h.length - i + j) = j + h.length by omega, Nat.add_mod_right, Nat.mod_eq_of_lt hj, List.getD_eq_getElem?_getD, List.getElem?_eq_getElem hj, ej] at this
  exact fw this
theorem div_mul_c {x y : Rat} (h : y ≠ 0) : x / y * y = x := Rat.div_mul_cancel h
/-- the meeting place of the line from a to b and of an edge that crosses it -/
theorem meet_spec {a b x y : Pt} (h : crossP a b x ≠ crossP a b y) : ∃ s : Rat, (meetP a b x y).x = a.x + s * (b.x - a.x) ∧ (meetP a b x y).y = a.y + s * (b.y - a.y) ∧
    s * (crossP a b y - crossP a b x) = (x.x - a.x) * (y.y - x.y) - (x.y - a.y) * (y.x - x.x) := by
  refine ⟨_, by with_unfolding_all exact rfl, by with_unfolding_all exact rfl, ?_⟩
  have e : (b.x - a.x) * (y.y - x.y) - (b.y - a.y) * (y.x - x.x) = crossP a b y - crossP a b x := by
    unfold crossP
    grind
  rw [e]
  exact Rat.div_mul_cancel (by grind)
theorem sgn_pos {x : Rat} : sgn x = 1 ↔ 0 < x := by
  unfold sgn
  split
  · simp [*]
  · split
    · exact ⟨fun h => absurd h (by decide), fun h => by grind⟩
    · exact ⟨fun h => absurd h (by decide), fun h => by grind⟩
theorem sgn_neg {x : Rat} : sgn x = -1 ↔ x < 0 := by
  unfold sgn
  split
  · exact ⟨fun h => absurd h (by decide), fun h => by grind⟩
  · split
    · simp [*]
    · exact ⟨fun h => absurd h (by decide), fun h => by grind⟩
theorem sgn_cases (x : Rat) : (0 < x ∧ sgn x = 1) ∨ (x < 0 ∧ sgn x = -1) ∨ (x = 0 ∧ sgn x = 0) := by
  unfold sgn
  split
  · exact .inl ⟨by assumption, rfl⟩
  · split
    · exact .inr (.inl ⟨by assumption, rfl⟩)
    · exact .inr (.inr ⟨by grind, rfl⟩)
theorem opp_iff {x y : Rat} : sgn x * sgn y < 0 ↔ (0 < x ∧ y < 0) ∨ (x < 0 ∧ 0 < y) := by
  rcases sgn_cases x with ⟨h, e⟩ | ⟨h, e⟩ | ⟨h, e⟩ <;> rcases sgn_cases y with ⟨k, f⟩ | ⟨k, f⟩ | ⟨k, f⟩ <;> rw [e, f] <;> constructor <;> intro z <;> first
    | exact absurd z (by decide)
    | decide
    | exact .inl ⟨h, k⟩
    | exact .inr ⟨h, k⟩
    | (exfalso; grind)
theorem mem_kept {S : List Pt} {a b p : Pt} : p ∈ keptP S a b ↔ (p ∈ S ∧ 0 ≤ crossP a b p) ∨ ∃ e ∈ edgesP S, ((0 < crossP a b e.1 ∧ crossP a b e.2 < 0) ∨ (crossP a b e.1 < 0 ∧ 0 < crossP a b e.2)) ∧ p = meetP a b e.1 e.2 := by
  unfold keptP
  rw [List.mem_append, List.mem_filter, List.mem_map]
  constructor
  · rintro (⟨h1, h2⟩ | ⟨e, he, rfl⟩)
    · exact .inl ⟨h1, sgn_nn.mp (of_decide_eq_true h2)⟩
    · obtain ⟨k1, k2⟩ := List.mem_filter.mp he
      exact .inr ⟨e, k1, opp_iff.mp (of_decide_eq_true k2), rfl⟩
  · rintro (⟨h1, h2⟩ | ⟨e, he, h, rfl⟩)
    · exact .inl ⟨h1, decide_eq_true (sgn_nn.mpr h2)⟩
    · exact .inr ⟨e, List.mem_filter.mpr ⟨he, decide_eq_true (opp_iff.mpr h)⟩, rfl⟩
/-- between two places -/
theorem Hs.seg {S : List Pt} {x y p : Pt} {s t : Rat} (hx : Hs S x) (hy : Hs S y) (hs : 0 ≤ s) (ht : 0 ≤ t) (hp : 0 < s + t) (e1 : (s + t) * p.x = s * x.x + t * y.x) (e2 : (s + t) * p.y = s * x.y + t * y.y) : Hs S p := fun α β γ k => by
  have k1 := mnn hs (hx α β γ k)
  have k2 := mnn ht (hy α β γ k)
  have k3 : 0 ≤ (α * p.x + β * p.y + γ) * (s + t) := by
    have : (α * p.x + β * p.y + γ) * (s + t) = s * (α * x.x + β * x.y + γ) + t * (α * y.x + β * y.y + γ) := by
      have a1 : α * ((s + t) * p.x) = α * (s * x.x + t * y.x) := by rw [e1]
      have a2 : β * ((s + t) * p.y) = β * (s * x.y + t * y.y) := by rw [e2]
      grind
    grind
  exact nn_of_mul hp k3
end W15

/-! ## G5 -/
/-! what a cut shape holds -/
namespace W15
theorem cr_lin (a b : Pt) : ∀ p, crossP a b p = (-(b.y - a.y)) * p.x + (b.x - a.x) * p.y + ((b.y - a.y) * a.x - (b.x - a.x) * a.y) := fun p => by
  unfold crossP
  grind
/-- the meeting of an edge with the line: on the line, on the edge -/
theorem meet_on {a b x y : Pt} (h : crossP a b x ≠ crossP a b y) : crossP a b (meetP a b x y) = 0 ∧ (crossP a b x - crossP a b y) * (meetP a b x y).x = -(crossP a b y) * x.x + crossP a b x * y.x ∧ (crossP a b x - crossP a b y) * (meetP a b x y).y = -(crossP a b y) * x.y + crossP a b x * y.y := by
  obtain ⟨s, e1, e2, e3⟩ := meet_spec h
  have k1 : (crossP a b x - crossP a b y) * (meetP a b x y).x = (crossP a b x - crossP a b y) * a.x - ((x.x - a.x) * (y.y - x.y) - (x.y - a.y) * (y.x - x.x)) * (b.x - a.x) := by
    rw [e1, ← e3]
    grind
  have k2 : (crossP a b x - crossP a b y) * (meetP a b x y).y = (crossP a b x - crossP a b y) * a.y - ((x.x - a.x) * (y.y - x.y) - (x.y - a.y) * (y.x - x.x)) * (b.y - a.y) := by
    rw [e2, ← e3]
    grind
  refine ⟨?_, ?_, ?_⟩
  · unfold crossP
    rw [e1, e2]
    grind
  · rw [k1]
    unfold crossP
    grind
  · rw [k2]
    unfold crossP
    grind
theorem meet_hs {S : List Pt} {a b : Pt} {e : Pt × Pt} (he : e ∈ edgesP S) (h : (0 < crossP a b e.1 ∧ crossP a b e.2 < 0) ∨ (crossP a b e.1 < 0 ∧ 0 < crossP a b e.2)) : Hs S (meetP a b e.1 e.2) := by
  obtain ⟨m0, m1, m2⟩ := meet_on (a := a) (b := b) (x := e.1) (y := e.2) (by grind)
  have h1 := Hs.mem (edge_mem (a := e.1) (b := e.2) he).1
  have h2 := Hs.mem (edge_mem (a := e.1) (b := e.2) he).2
  rcases h with ⟨k1, k2⟩ | ⟨k1, k2⟩
  · exact Hs.seg (s := -(crossP a b e.2)) (t := crossP a b e.1) h1 h2 (by grind) (by grind) (by grind) (by grind) (by grind)
  · exact Hs.seg (s := crossP a b e.2) (t := -(crossP a b e.1)) h1 h2 (by grind) (by grind) (by grind) (by grind) (by grind)
/-- the place of an edge on the line -/
theorem edge_on {S : List Pt} {a b : Pt} {e : Pt × Pt} (he : e ∈ edgesP S) (h : (0 ≤ crossP a b e.1 ∧ crossP a b e.2 < 0) ∨ (crossP a b e.1 < 0 ∧ 0 ≤ crossP a b e.2)) :
    ∃ m ∈ keptP S a b, crossP a b m = 0 ∧ crossP e.1 e.2 m = 0 := by
  by_cases h1 : crossP a b e.1 = 0
  · exact ⟨e.1, mem_kept.mpr (.inl ⟨(edge_mem (a := e.1) (b := e.2) he).1, by grind⟩), h1, by unfold crossP; grind⟩
  · by_cases h2 : crossP a b e.2 = 0
    · exact ⟨e.2, mem_kept.mpr (.inl ⟨(edge_mem (a := e.1) (b := e.2) he).2, by grind⟩), h2, by unfold crossP; grind⟩
    · obtain ⟨m0, m1, m2⟩ := meet_on (a := a) (b := b) (x := e.1) (y := e.2) (by grind)
      refine ⟨meetP a b e.1 e.2, mem_kept.mpr (.inr ⟨e, he, by grind, rfl⟩), m0, ?_⟩
      have k : (crossP a b e.1 - crossP a b e.2) * crossP e.1 e.2 (meetP a b e.1 e.2) = 0 := by
        have : (crossP a b e.1 - crossP a b e.2) * crossP e.1 e.2 (meetP a b e.1 e.2) =
          (e.2.x - e.1.x) * ((crossP a b e.1 - crossP a b e.2) * (meetP a b e.1 e.2).y - (crossP a b e.1 - crossP a b e.2) * e.1.y) - (e.2.y - e.1.y) * ((crossP a b e.1 - crossP a b e.2) * (meetP a b e.1 e.2).x - (crossP a b e.1 - crossP a b e.2) * e.1.x) := by
          generalize crossP a b e.1 - crossP a b e.2 = k
          unfold crossP
          grind
        rw [this, m1, m2]
        grind
      rcases Rat.mul_eq_zero.mp k with z | z
      · exfalso
        grind
      · exact z
/-- on the line, beside an edge that crosses it -/
theorem on_line {a b x y m q : Pt} {α β : Rat} (h0 : crossP a b q = 0) (h1 : crossP a b m = 0) (h2 : crossP x y m = 0) (h3 : 0 ≤ crossP x y q) :
    ∃ K : Rat, 0 ≤ K ∧ (crossP a b y - crossP a b x) * ((α * q.x + β * q.y) - (α * m.x + β * m.y)) = -(K * (α * (b.x - a.x) + β * (b.y - a.y))) := by
  refine ⟨crossP x y q, h3, ?_⟩
  have e1 : crossP x y q = (y.x - x.x) * (q.y - m.y) - (y.y - x.y) * (q.x - m.x) := by
    unfold crossP at *
    grind
  have e2 : (b.x - a.x) * (q.y - m.y) = (b.y - a.y) * (q.x - m.x) := by
    unfold crossP at *
    grind
  have e3 : crossP a b y - crossP a b x = (b.x - a.x) * (y.y - x.y) - (b.y - a.y) * (y.x - x.x) := by
    unfold crossP
    grind
  rw [e1, e3]
  have f1 : ((b.x - a.x) * (y.y - x.y) - (b.y - a.y) * (y.x - x.x)) * (q.x - m.x) = -(((y.x - x.x) * (q.y - m.y) - (y.y - x.y) * (q.x - m.x)) * (b.x - a.x)) := by
    have : ((b.x - a.x) * (y.y - x.y) - (b.y - a.y) * (y.x - x.x)) * (q.x - m.x) = (b.x - a.x) * (y.y - x.y) * (q.x - m.x) - ((b.y - a.y) * (q.x - m.x)) * (y.x - x.x) := by grind
    rw [this, ← e2]
    grind
  have f2 : ((b.x - a.x) * (y.y - x.y) - (b.y - a.y) * (y.x - x.x)) * (q.y - m.y) = -(((y.x - x.x) * (q.y - m.y) - (y.y - x.y) * (q.x - m.x)) * (b.y - a.y)) := by
    have : ((b.x - a.x) * (y.y - x.y) - (b.y - a.y) * (y.x - x.x)) * (q.y - m.y) = ((b.x - a.x) * (q.y - m.y)) * (y.y - x.y) - (b.y - a.y) * (y.x - x.x) * (q.y - m.y) := by grind
    rw [this, e2]
    grind
  have : ((b.x - a.x) * (y.y - x.y) - (b.y - a.y) * (y.x - x.x)) * ((α * q.x + β * q.y) - (α * m.x + β * m.y)) = α * (((b.x - a.x) * (y.y - x.y) - (b.y - a.y) * (y.x - x.x)) * (q.x - m.x)) + β * (((b.x - a.x) * (y.y - x.y) - (b.y - a.y) * (y.x - x.x)) * (q.y - m.y)) := by grind
  rw [this, f1, f2]
  grind
theorem pos_of_mul {a b : Rat} (ha : 0 ≤ a) (h : 0 < a * b) : 0 < b := by
  rcases (Rat.le_total : b ≤ 0 ∨ 0 ≤ b) with k | k
  · have := mnn ha (show 0 ≤ -b by grind)
    grind
  · by_cases z : b = 0
    · rw [z, Rat.mul_zero] at h
      exact absurd h Rat.lt_irrefl
    · grind
theorem neg_mul {a b : Rat} (ha : 0 < a) (hb : b < 0) : a * b < 0 := by
  have := Rat.mul_pos ha (show 0 < -b by grind)
  grind
theorem kept_iff {S : List Pt} (P : Poly S) {a b q : Pt} : Hs (keptP S a b) q ↔ Hs S q ∧ 0 ≤ crossP a b q := by
  constructor
  · intro h
    refine ⟨h.mono fun p hp => ?_, h.cross fun p hp => ?_⟩
    · rcases mem_kept.mp hp with ⟨k, _⟩ | ⟨e, he, k, rfl⟩
      · exact Hs.mem k
      · exact meet_hs he k
    · rcases mem_kept.mp hp with ⟨_, k⟩ | ⟨e, he, k, rfl⟩
      · exact k
      · rw [(meet_on (by grind)).1]
        exact Rat.le_refl
  · rintro ⟨hq, hf⟩ α β γ hg
    apply Classical.byContradiction
    intro hn
    have gq : α * q.x + β * q.y + γ < 0 := by grind
    obtain ⟨v, hv, hm⟩ := min_at α β S P.ne
    have gv : α * v.x + β * v.y ≤ α * q.x + β * q.y := by
      have := hq α β (-(α * v.x + β * v.y)) (fun p hp => by have := hm p hp; grind)
      grind
    have fv : crossP a b v < 0 := by
      apply Classical.byContradiction
      intro z
      have := hg v (mem_kept.mpr (.inl ⟨hv, by grind⟩))
      grind
    obtain ⟨w, hw, fw⟩ : ∃ w ∈ S, ¬ crossP a b w < 0 := by
      apply Classical.byContradiction
      intro z
      obtain ⟨w, hw, hm⟩ := min_at (b.y - a.y) (-(b.x - a.x)) S P.ne
      have h1 : crossP a b w < 0 := Classical.byContradiction fun k => z ⟨w, hw, k⟩
      have h2 := hq (b.y - a.y) (-(b.x - a.x)) (-((b.y - a.y) * w.x + (-(b.x - a.x)) * w.y)) (fun p hp => by have := hm p hp; grind)
      have e1 := cr_lin a b w
      have e2 := cr_lin a b q
      grind
    obtain ⟨e, he, e1, e2⟩ := round (fun p => crossP a b p < 0) hv hw fv fw
    obtain ⟨e', he', e1', e2'⟩ := round (fun p => ¬ crossP a b p < 0) hw hv fw (fun k => k fv)
    have e2' : crossP a b e'.2 < 0 := Classical.not_not.mp e2'
    obtain ⟨m, m1, m2, m3⟩ := edge_on he (.inr ⟨e1, by grind⟩)
    obtain ⟨m', m1', m2', m3'⟩ := edge_on he' (.inl ⟨by grind, e2'⟩)
    have F : 0 < -(crossP a b v) + crossP a b q := by grind
    have Fn : (-(crossP a b v) + crossP a b q) ≠ 0 := by grind
    generalize hF : (-(crossP a b v) + crossP a b q) = F' at *
    obtain ⟨q0, q1, q2⟩ : ∃ q0 : Pt, F' * q0.x = -(crossP a b v) * q.x + crossP a b q * v.x ∧ F' * q0.y = -(crossP a b v) * q.y + crossP a b q * v.y :=
      ⟨⟨(-(crossP a b v) * q.x + crossP a b q * v.x) / F', (-(crossP a b v) * q.y + crossP a b q * v.y) / F'⟩, by rw [Rat.mul_comm]; exact Rat.div_mul_cancel Fn, by rw [Rat.mul_comm]; exact Rat.div_mul_cancel Fn⟩
    have hq0 : Hs S q0 := Hs.seg (s := -(crossP a b v)) (t := crossP a b q) hq (Hs.mem hv) (by grind) hf (by rw [hF]; exact F) (by rw [hF]; exact q1) (by rw [hF]; exact q2)
    have f0 : crossP a b q0 = 0 := by
      have : F' * crossP a b q0 = 0 := by
        rw [cr_lin a b q0]
        have : F' * (-(b.y - a.y) * q0.x + (b.x - a.x) * q0.y + ((b.y - a.y) * a.x - (b.x - a.x) * a.y)) = -(b.y - a.y) * (F' * q0.x) + (b.x - a.x) * (F' * q0.y) + F' * ((b.y - a.y) * a.x - (b.x - a.x) * a.y) := by grind
        rw [this, q1, q2, ← hF]
        unfold crossP
        grind
      rcases Rat.mul_eq_zero.mp this with z | z
      · exact absurd z Fn
      · exact z
    have g0 : α * q0.x + β * q0.y + γ < 0 := by
      have k : F' * (α * q0.x + β * q0.y + γ) < 0 := by
        have : F' * (α * q0.x + β * q0.y + γ) = -(crossP a b v) * (α * q.x + β * q.y + γ) + crossP a b q * (α * v.x + β * v.y + γ) := by
          have : F' * (α * q0.x + β * q0.y + γ) = α * (F' * q0.x) + β * (F' * q0.y) + F' * γ := by grind
          rw [this, q1, q2, ← hF]
          grind
        rw [this]
        have k1 := neg_mul (show 0 < -(crossP a b v) by grind) gq
        have k2 := mnn hf (show 0 ≤ -(α * v.x + β * v.y + γ) by grind)
        grind
      apply Classical.byContradiction
      intro z
      have := mnn (Rat.le_of_lt F) (show 0 ≤ α * q0.x + β * q0.y + γ by grind)
      grind
    obtain ⟨K, k1, k2⟩ := on_line (α := α) (β := β) f0 m2 m3 (hq0.cross (P.left e he))
    obtain ⟨K', k1', k2'⟩ := on_line (α := α) (β := β) f0 m2' m3' (hq0.cross (P.left e' he'))
    have gm := hg m m1
    have gm' := hg m' m1'
    have d1 : 0 < crossP a b e.2 - crossP a b e.1 := by grind
    have d2 : 0 < -(crossP a b e'.2 - crossP a b e'.1) := by grind
    have s1 := neg_mul d1 (show (α * q0.x + β * q0.y) - (α * m.x + β * m.y) < 0 by grind)
    have s2 := neg_mul d2 (show (α * q0.x + β * q0.y) - (α * m'.x + β * m'.y) < 0 by grind)
    have t1 := pos_of_mul k1 (b := α * (b.x - a.x) + β * (b.y - a.y)) (by grind)
    have t2 := mnn k1' (Rat.le_of_lt t1)
    grind
/-- places not on one line, held by a set -/
theorem nc_of {K : List Pt} {x y z : Pt} (hx : Hs K x) (hy : Hs K y) (hz : Hs K z) (n : crossP x y z ≠ 0) : NC K := by
  apply Classical.byContradiction
  intro no
  have all : ∀ a ∈ K, ∀ b ∈ K, ∀ c ∈ K, crossP a b c = 0 := fun a ha b hb c hc => Classical.byContradiction fun k => no ⟨a, b, c, ha, hb, hc, k⟩
  have fin : ∀ u v : Pt, (u.x ≠ v.x ∨ u.y ≠ v.y) → (∀ p ∈ K, crossP u v p = 0) → False := fun u v huv h => by
    have k : ∀ {q}, Hs K q → crossP u v q = 0 := fun {q} hq => by
      have k1 := hq.cross (a := u) (b := v) fun p hp => by rw [h p hp]; exact Rat.le_refl
      have e := cr_lin u v
      have k2 := hq (v.y - u.y) (-(v.x - u.x)) (-((v.y - u.y) * u.x - (v.x - u.x) * u.y)) fun p hp => by
        have := h p hp
        rw [e] at this
        grind
      have := e q
      grind
    exact n (col3 huv (k hx) (k hy) (k hz))
  cases K with
  | nil =>
    have := hx 0 0 (-1) (fun p hp => by cases hp)
    grind
  | cons u K =>
    by_cases h : ∃ v ∈ u :: K, u.x ≠ v.x ∨ u.y ≠ v.y
    · obtain ⟨v, hv, hne⟩ := h
      exact fin u v hne fun p hp => all u List.mem_cons_self v hv p hp
    · refine fin u ⟨u.x + 1, u.y⟩ (.inl (by show u.x ≠ u.x + 1; grind)) fun p hp => ?_
      have : p.x = u.x ∧ p.y = u.y := by
        constructor
        · exact Classical.byContradiction fun k => h ⟨p, hp, .inl fun e => k e.symm⟩
        · exact Classical.byContradiction fun k => h ⟨p, hp, .inr fun e => k e.symm⟩
      unfold crossP
      grind
theorem cut_spec {S : List Pt} (P : Poly S) {a b x y z : Pt} (hx : belongsP S x = true ∧ 0 ≤ crossP a b x) (hy : belongsP S y = true ∧ 0 ≤ crossP a b y) (hz : belongsP S z = true ∧ 0 ≤ crossP a b z) (n : crossP x y z ≠ 0) :
    ∃ h, cutOff S a b = some h ∧ Poly h ∧ ∀ q, belongsP h q = true ↔ belongsP S q = true ∧ 0 ≤ crossP a b q := by
  have k : ∀ {q}, belongsP S q = true ∧ 0 ≤ crossP a b q → Hs (keptP S a b) q := fun {q} h => (kept_iff P).mpr ⟨P.belongs.mp h.1, h.2⟩
  have nc := nc_of (k hx) (k hy) (k hz) n
  obtain ⟨h, e, p, _, hb⟩ := shape_spec nc
  refine ⟨h, ?_, p, fun q => ?_⟩
  · unfold cutOff
    rw [if_neg, e]
    intro z
    obtain ⟨a', _, _, ha, _⟩ := nc
    rw [List.eq_nil_of_length_eq_zero z] at ha
    cases ha
  · rw [hb, kept_iff P, P.belongs]
end W15

/-! ## G6 -/
/-! the law's own test for round shapes -/
namespace W15
/-- how q lies to each edge, from the corner before to the corner -/
def sidesP (C : List Pt) (q : Pt) : List Int := (List.range C.length).map fun k => sgn (crossP (C.getD ((k + C.length - 1) % C.length) ⟨0, 0⟩) (C.getD k ⟨0, 0⟩) q)
@[irreducible] def inConvex (C : List Pt) (q : Pt) : Bool := (sidesP C q).all (fun s => decide (0 ≤ s)) || (sidesP C q).all (fun s => decide (s ≤ 0))
theorem sides_mem {C : List Pt} {q : Pt} {s : Int} : s ∈ sidesP C q ↔ ∃ e ∈ edgesP C, s = sgn (crossP e.1 e.2 q) := by
  unfold sidesP edgesP
  rw [List.mem_map]
  constructor
  · rintro ⟨k, hk, rfl⟩
    have hk := List.mem_range.mp hk
    refine ⟨_, List.mem_map_of_mem (List.mem_range.mpr (Nat.mod_lt (k + C.length - 1) (show 0 < C.length by omega))), ?_⟩
    have e : ((k + C.length - 1) % C.length + 1) % C.length = k := by
      rw [Nat.mod_add_mod, show k + C.length - 1 + 1 = k + C.length by omega, Nat.add_mod_right, Nat.mod_eq_of_lt hk]
    show _ = sgn (crossP (C.getD _ _) (C.getD _ _) q)
    rw [e]
  · rintro ⟨e, he, rfl⟩
    obtain ⟨k, hk, rfl⟩ := List.mem_map.mp he
    have hk := List.mem_range.mp hk
    refine ⟨(k + 1) % C.length, List.mem_range.mpr (Nat.mod_lt _ (by omega)), ?_⟩
    have e : ((k + 1) % C.length + C.length - 1) % C.length = k := by
      rcases Nat.lt_or_ge (k + 1) C.length with h | h
      · rw [Nat.mod_eq_of_lt h, show k + 1 + C.length - 1 = k + C.length by omega, Nat.add_mod_right, Nat.mod_eq_of_lt hk]
      · have : k + 1 = C.length := by omega
        rw [this, Nat.mod_self, Nat.zero_add, Nat.mod_eq_of_lt (by omega)]
        omega
    rw [e]
theorem sgn_np {x : Rat} : sgn x ≤ 0 ↔ x ≤ 0 := by
  rcases sgn_cases x with ⟨h, e⟩ | ⟨h, e⟩ | ⟨h, e⟩ <;> rw [e]
  · exact ⟨fun k => absurd k (by decide), fun k => by grind⟩
  · exact ⟨fun k => Rat.le_of_lt h, fun k => by decide⟩
  · exact ⟨fun k => by rw [h]; exact Rat.le_refl, fun k => by decide⟩
theorem inConvex_iff {C : List Pt} {q : Pt} : inConvex C q = true ↔ (∀ e ∈ edgesP C, 0 ≤ crossP e.1 e.2 q) ∨ (∀ e ∈ edgesP C, crossP e.1 e.2 q ≤ 0) := by
  unfold inConvex
  rw [Bool.or_eq_true, List.all_eq_true, List.all_eq_true]
  refine or_congr ⟨fun h e he => ?_, fun h s hs => ?_⟩ ⟨fun h e he => ?_, fun h s hs => ?_⟩
  · exact sgn_nn.mp (of_decide_eq_true (h _ (sides_mem.mpr ⟨e, he, rfl⟩)))
  · obtain ⟨e, he, rfl⟩ := sides_mem.mp hs
    exact decide_eq_true (sgn_nn.mpr (h e he))
  · exact sgn_np.mp (of_decide_eq_true (h _ (sides_mem.mpr ⟨e, he, rfl⟩)))
  · obtain ⟨e, he, rfl⟩ := sides_mem.mp hs
    exact decide_eq_true (sgn_np.mpr (h e he))
/-- no place is right of every edge -/
theorem Poly.notRight {h : List Pt} (P : Poly h) {q : Pt} (k : ∀ e ∈ edgesP h, crossP e.1 e.2 q ≤ 0) : False := by
  obtain ⟨v0, r, e0⟩ : ∃ v r, h = v :: r := by
    cases h with
    | nil => exact absurd rfl P.ne
    | cons v r => exact ⟨v, r, rfl⟩
  obtain ⟨a, c, ha, hc, hx⟩ := P.cor v0 (by rw [e0]; exact List.mem_cons_self)
  obtain ⟨w, hw, hm⟩ := min_at (v0.y - a.y) (-(v0.x - a.x)) h P.ne
  obtain ⟨a', c', ha', hc', hx'⟩ := P.cor w hw
  have f : ∀ p, crossP a v0 p = -((v0.y - a.y) * p.x + -(v0.x - a.x) * p.y) + ((v0.y - a.y) * a.x - (v0.x - a.x) * a.y) := fun p => by
    rw [cr_lin]
    grind
  have h1 : crossP a v0 a' ≤ crossP a v0 w := by rw [f, f]; have := hm a' (edge_mem ha').1; grind
  have h2 : crossP a v0 c' ≤ crossP a v0 w := by rw [f, f]; have := hm c' (edge_mem hc').2; grind
  have h3 : 0 < crossP a v0 w := by
    have := hm c (edge_mem hc).2
    have e1 := f c
    have e2 := f w
    grind
  have k1 := k _ ha'
  have k2 := k _ hc'
  have k0 := k _ ha
  have e : (crossP a v0 q - crossP a v0 w) * crossP a' w c' = crossP a' w q * (crossP a v0 c' - crossP a v0 w) + crossP w c' q * (crossP a v0 a' - crossP a v0 w) := by
    unfold crossP
    grind
  have m1 := mnn (show 0 ≤ -crossP a' w q by grind) (show 0 ≤ crossP a v0 w - crossP a v0 c' by grind)
  have m2 := mnn (show 0 ≤ -crossP w c' q by grind) (show 0 ≤ crossP a v0 w - crossP a v0 a' by grind)
  have := nn_of_mul hx' (show 0 ≤ (crossP a v0 q - crossP a v0 w) * crossP a' w c' by grind)
  grind
theorem Poly.inConvex {h : List Pt} (P : Poly h) {q : Pt} : inConvex h q = true ↔ Hs h q := by
  rw [inConvex_iff]
  refine ⟨fun k => k.elim P.conv fun k => (P.notRight k).elim, fun k => .inl fun e he => k.cross (P.left e he)⟩
/-- the other way round -/
theorem Poly.inConvexR {h C : List Pt} (P : Poly h) (hC : ∀ a b, (a, b) ∈ edgesP C ↔ (b, a) ∈ edgesP h) {q : Pt} : W15.inConvex C q = true ↔ Hs h q := by
  rw [inConvex_iff]
  have fl : ∀ a b, crossP a b q = -crossP b a q := fun a b => by
    unfold crossP
    grind
  constructor
  · rintro (k | k)
    · refine (P.notRight (q := q) fun e he => ?_).elim
      have := k (e.2, e.1) ((hC _ _).mpr he)
      rw [fl]
      grind
    · refine P.conv fun e he => ?_
      have := k (e.2, e.1) ((hC _ _).mpr he)
      rw [fl]
      grind
  · intro k
    refine .inr fun e he => ?_
    have := k.cross (P.left (e.2, e.1) ((hC e.1 e.2).mp he))
    rw [fl]
    grind
theorem edges3 (a b c : Pt) : edgesP [a, b, c] = [(a, b), (b, c), (c, a)] := by simp [edgesP, List.range_succ]
theorem edges4 (a b c d : Pt) : edgesP [a, b, c, d] = [(a, b), (b, c), (c, d), (d, a)] := by simp [edgesP, List.range_succ]
theorem cr_cyc (a b c : Pt) : crossP b c a = crossP a b c := by
  unfold crossP
  grind
theorem cr_aab (a b : Pt) : crossP a b a = 0 := by
  unfold crossP
  grind
theorem cr_abb (a b : Pt) : crossP a b b = 0 := by
  unfold crossP
  grind
theorem tri_poly {a b c : Pt} (h : 0 < crossP a b c) : Poly [a, b, c] := by
  have h1 : 0 < crossP b c a := by rw [cr_cyc]; exact h
  have h2 : 0 < crossP c a b := by rw [cr_cyc, cr_cyc]; exact h
  refine ⟨by simp, fun v hv => ?_, fun e he p hp => ?_⟩
  · rw [edges3]
    simp only [List.mem_cons, List.not_mem_nil, or_false] at hv
    rcases hv with rfl | rfl | rfl
    · exact ⟨c, b, by simp, by simp, h2⟩
    · exact ⟨a, c, by simp, by simp, h⟩
    · exact ⟨b, a, by simp, by simp, h1⟩
  · rw [edges3] at he
    simp only [List.mem_cons, List.not_mem_nil, or_false] at he hp
    have z : ∀ {x : Rat}, x = 0 → 0 ≤ x := fun e => by rw [e]; exact Rat.le_refl
    rcases he with rfl | rfl | rfl <;> rcases hp with rfl | rfl | rfl <;> first
      | exact z (cr_aab _ _)
      | exact z (cr_abb _ _)
      | exact Rat.le_of_lt h
      | exact Rat.le_of_lt h1
      | exact Rat.le_of_lt h2
theorem quad_poly {a b c d : Pt} (h1 : 0 < crossP a b c) (h2 : 0 < crossP b c d) (h3 : 0 < crossP c d a) (h4 : 0 < crossP d a b) : Poly [a, b, c, d] := by
  have g1 : 0 < crossP c a b := by rw [cr_cyc, cr_cyc]; exact h1
  have f1 : 0 < crossP a b d := by rw [← cr_cyc, ← cr_cyc, ← cr_cyc, cr_cyc]; exact h4
  have f2 : 0 < crossP b c a := by rw [cr_cyc]; exact h1
  have f3 : 0 < crossP c d b := by rw [cr_cyc]; exact h2
  have f4 : 0 < crossP d a c := by rw [cr_cyc]; exact h3
  refine ⟨by simp, fun v hv => ?_, fun e he p hp => ?_⟩
  · rw [edges4]
    simp only [List.mem_cons, List.not_mem_nil, or_false] at hv
    rcases hv with rfl | rfl | rfl | rfl
    · exact ⟨d, b, by simp, by simp, h4⟩
    · exact ⟨a, c, by simp, by simp, h1⟩
    · exact ⟨b, d, by simp, by simp, h2⟩
    · exact ⟨c, a, by simp, by simp, h3⟩
  · rw [edges4] at he
    simp only [List.mem_cons, List.not_mem_nil, or_false] at he hp
    have z : ∀ {x : Rat}, x = 0 → 0 ≤ x := fun e => by rw [e]; exact Rat.le_refl
    rcases he with rfl | rfl | rfl | rfl <;> rcases hp with rfl | rfl | rfl | rfl <;> first
      | exact z (cr_aab _ _)
      | exact z (cr_abb _ _)
      | exact Rat.le_of_lt h1
      | exact Rat.le_of_lt h2
      | exact Rat.le_of_lt h3
      | exact Rat.le_of_lt h4
      | exact Rat.le_of_lt f1
      | exact Rat.le_of_lt f2
      | exact Rat.le_of_lt f3
      | exact Rat.le_of_lt f4
/-- a triangle either way round -/
theorem tri_inConvex {a b c q : Pt} (h : crossP a b c ≠ 0) : inConvex [a, b, c] q = true ↔ Hs [a, b, c] q := by
  by_cases k : 0 < crossP a b c
  · exact (tri_poly k).inConvex
  · have k' : 0 < crossP a c b := by unfold crossP at *; grind
    rw [(tri_poly k').inConvexR (C := [a, b, c]) (fun x y => by rw [edges3, edges3]; simp only [List.mem_cons, Prod.mk.injEq, List.not_mem_nil, or_false]; grind)]
    exact ⟨fun k => k.sub fun p hp => by simp at *; grind, fun k => k.sub fun p hp => by simp at *; grind⟩
theorem quad_inConvexR {a b c d q : Pt} (h1 : crossP a b c < 0) (h2 : crossP b c d < 0) (h3 : crossP c d a < 0) (h4 : crossP d a b < 0) : inConvex [a, b, c, d] q = true ↔ Hs [a, b, c, d] q := by
  have P : Poly [a, d, c, b] := quad_poly (by unfold crossP at *; grind) (by unfold crossP at *; grind) (by unfold crossP at *; grind) (by unfold crossP at *; grind)
  rw [P.inConvexR (C := [a, b, c, d]) (fun x y => by rw [edges4, edges4]; simp only [List.mem_cons, Prod.mk.injEq, List.not_mem_nil, or_false]; grind)]
  exact ⟨fun k => k.sub fun p hp => by simp at *; grind, fun k => k.sub fun p hp => by simp at *; grind⟩
end W15

/-! ## G7 -/
/-! the twelve, rectangles -/
namespace W15
def lawPairs : List (Int × Int) := [(-5, 0), (-4, -3), (-3, -4), (0, -5), (3, -4), (4, -3), (5, 0), (4, 3), (3, 4), (0, 5), (-3, 4), (-4, 3)]
def w12 (p : Pt) (h : Rat) (e : Int × Int) : Pt := addP p (h * ((e.1 : Rat) / 5)) (h * ((e.2 : Rat) / 5))
def lawTwelve (p : Pt) (h : Rat) : List Pt := lawPairs.map (w12 p h)
def icr (a b c : Int × Int) : Int := (b.1 - a.1) * (c.2 - a.2) - (b.2 - a.2) * (c.1 - a.1)
def iedges : List ((Int × Int) × (Int × Int)) := [((-5, 0), (-4, -3)), ((-4, -3), (-3, -4)), ((-3, -4), (0, -5)), ((0, -5), (3, -4)), ((3, -4), (4, -3)), ((4, -3), (5, 0)), ((5, 0), (4, 3)), ((4, 3), (3, 4)), ((3, 4), (0, 5)), ((0, 5), (-3, 4)), ((-3, 4), (-4, 3)), ((-4, 3), (-5, 0))]
theorem cross_w12 (p : Pt) (h : Rat) (a b c : Int × Int) : crossP (w12 p h a) (w12 p h b) (w12 p h c) = h * h / 25 * (icr a b c : Rat) := by
  unfold crossP w12 addP icr
  simp only [Rat.intCast_sub, Rat.intCast_mul]
  grind
theorem edges12 (p : Pt) (h : Rat) : edgesP (lawTwelve p h) = iedges.map fun e => (w12 p h e.1, w12 p h e.2) := by
  simp [edgesP, lawTwelve, lawPairs, iedges, List.range_succ]
theorem lawTwelve_poly (p : Pt) {h : Rat} (hh : 0 < h) : Poly (lawTwelve p h) := by
  have k : 0 < h * h / 25 := by
    have := Rat.mul_pos hh hh
    grind
  have hc : ∀ v ∈ lawPairs, ∃ e ∈ iedges, ∃ f ∈ iedges, e.2 = v ∧ f.1 = v ∧ 0 < icr e.1 v f.2 := by decide
  have hl : ∀ e ∈ iedges, ∀ c ∈ lawPairs, 0 ≤ icr e.1 e.2 c := by decide
  refine ⟨by simp [lawTwelve, lawPairs], fun v hv => ?_, fun e he c hc' => ?_⟩
  · obtain ⟨i, hi, rfl⟩ := List.mem_map.mp hv
    obtain ⟨e, he, f, hf, e1, e2, e3⟩ := hc i hi
    refine ⟨w12 p h e.1, w12 p h f.2, ?_, ?_, ?_⟩
    · rw [edges12, ← e1]
      exact List.mem_map_of_mem (f := fun e : (Int × Int) × (Int × Int) => (w12 p h e.1, w12 p h e.2)) he
    · rw [edges12, ← e2]
      exact List.mem_map_of_mem (f := fun e : (Int × Int) × (Int × Int) => (w12 p h e.1, w12 p h e.2)) hf
    · rw [cross_w12]
      exact Rat.mul_pos k (Rat.intCast_pos.mpr e3)
  · rw [edges12] at he
    obtain ⟨i, hi, rfl⟩ := List.mem_map.mp he
    obtain ⟨j, hj, rfl⟩ := List.mem_map.mp hc'
    rw [cross_w12]
    exact mnn (Rat.le_of_lt k) (Rat.intCast_nonneg.mpr (hl i hi j hj))
theorem twelve_mem {p : Pt} {h : Rat} {x : Pt} : x ∈ twelvePts p h ↔ x ∈ lawTwelve p h := by
  have h1 : ∀ e ∈ pairs12, e ∈ lawPairs := by decide
  have h2 : ∀ e ∈ lawPairs, e ∈ pairs12 := by decide
  unfold twelvePts lawTwelve
  rw [List.mem_map, List.mem_map]
  exact ⟨fun ⟨e, he, k⟩ => ⟨e, h1 e he, k⟩, fun ⟨e, he, k⟩ => ⟨e, h2 e he, k⟩⟩
theorem twelve_spec (p : Pt) {h : Rat} (hh : 0 < h) : ∃ T, twelveP p h = some T ∧ Poly T ∧ (∀ c ∈ T, c ∈ twelvePts p h) ∧ ∀ q, belongsP T q = true ↔ Hs (lawTwelve p h) q := by
  have P := lawTwelve_poly p hh
  obtain ⟨v, hv⟩ := List.exists_mem_of_ne_nil _ P.ne
  obtain ⟨a, c, ha, hc, hx⟩ := P.cor v hv
  have nc : NC (twelvePts p h) := ⟨a, v, c, twelve_mem.mpr (edge_mem ha).1, twelve_mem.mpr hv, twelve_mem.mpr (edge_mem hc).2, fun z => by rw [z] at hx; exact Rat.lt_irrefl hx⟩
  obtain ⟨T, e, PT, s, hb⟩ := shape_spec nc
  exact ⟨T, by unfold twelveP; exact e, PT, s, fun q => by rw [hb]; exact ⟨fun k => k.sub fun x hx => twelve_mem.mp hx, fun k => k.sub fun x hx => twelve_mem.mpr hx⟩⟩
theorem Twelve_holds : Twelve := fun p h hh => by
  obtain ⟨T, e, _⟩ := twelve_spec p hh
  exact ⟨T, e⟩
/-- near the place -/
theorem twelve_near (p : Pt) {h x y : Rat} (hx1 : -h ≤ 2 * x) (hx2 : 2 * x ≤ h) (hy1 : -h ≤ 2 * y) (hy2 : 2 * y ≤ h) : Hs (lawTwelve p h) (addP p x y) := fun α β γ k => by
  have m : ∀ e ∈ lawPairs, 0 ≤ α * (w12 p h e).x + β * (w12 p h e).y + γ := fun e he => k _ (List.mem_map_of_mem he)
  have k1 := m (5, 0) (by decide)
  have k2 := m (-5, 0) (by decide)
  have k3 := m (0, 5) (by decide)
  have k4 := m (0, -5) (by decide)
  simp only [w12, addP] at k1 k2 k3 k4 ⊢
  have e1 : ((5 : Int) : Rat) / 5 = 1 := by grind
  have e2 : ((-5 : Int) : Rat) / 5 = -1 := by grind
  have e3 : ((0 : Int) : Rat) / 5 = 0 := by grind
  rw [e1, e3] at k1
  rw [e2, e3] at k2
  rw [e3, e1] at k3
  rw [e3, e2] at k4
  rcases (Rat.le_total : 0 ≤ α ∨ α ≤ 0) with ha | ha <;> rcases (Rat.le_total : 0 ≤ β ∨ β ≤ 0) with hb | hb
  · have a1 := mnn ha (show 0 ≤ 2 * x + h by grind)
    have a2 := mnn hb (show 0 ≤ 2 * y + h by grind)
    grind
  · have a1 := mnn ha (show 0 ≤ 2 * x + h by grind)
    have a2 := mnn (show 0 ≤ -β by grind) (show 0 ≤ h - 2 * y by grind)
    grind
  · have a1 := mnn (show 0 ≤ -α by grind) (show 0 ≤ h - 2 * x by grind)
    have a2 := mnn hb (show 0 ≤ 2 * y + h by grind)
    grind
  · have a1 := mnn (show 0 ≤ -α by grind) (show 0 ≤ h - 2 * x by grind)
    have a2 := mnn (show 0 ≤ -β by grind) (show 0 ≤ h - 2 * y by grind)
    grind
theorem unit_le {x y : Rat} (h : x * x + y * y = 1) : -1 ≤ x ∧ x ≤ 1 := by
  have sq : ∀ z : Rat, 0 ≤ z * z := fun z => by
    rcases (Rat.le_total : 0 ≤ z ∨ z ≤ 0) with k | k
    · exact mnn k k
    · have := mnn (show 0 ≤ -z by grind) (show 0 ≤ -z by grind)
      grind
  have hy := sq y
  constructor
  · apply Classical.byContradiction
    intro n
    have := Rat.mul_pos (show 0 < -1 - x by grind) (show 0 < 1 - x by grind)
    grind
  · apply Classical.byContradiction
    intro n
    have := Rat.mul_pos (show 0 < x - 1 by grind) (show 0 < x + 1 by grind)
    grind
/-- a place so far along u and so far to its left -/
def rp (a u : Pt) (s t : Rat) : Pt := addP a (t * u.x - s * u.y) (t * u.y + s * u.x)
theorem rp_of {a u q : Pt} (hu : u.x * u.x + u.y * u.y = 1) : q = rp a u (u.x * (q.y - a.y) - u.y * (q.x - a.x)) (u.x * (q.x - a.x) + u.y * (q.y - a.y)) := by
  obtain ⟨qx, qy⟩ := q
  unfold rp addP
  simp only [Pt.mk.injEq]
  constructor
  · have : qx - a.x = (u.x * u.x + u.y * u.y) * (qx - a.x) := by rw [hu]; grind
    grind
  · have : qy - a.y = (u.x * u.x + u.y * u.y) * (qy - a.y) := by rw [hu]; grind
    grind
theorem rect {a u q : Pt} {lo hi T : Rat} (hu : u.x * u.x + u.y * u.y = 1) (h1 : lo < hi) (h2 : 0 < T) :
    Hs [rp a u lo 0, rp a u hi 0, rp a u lo T, rp a u hi T] q ↔ (lo ≤ u.x * (q.y - a.y) - u.y * (q.x - a.x) ∧ u.x * (q.y - a.y) - u.y * (q.x - a.x) ≤ hi) ∧ 0 ≤ u.x * (q.x - a.x) + u.y * (q.y - a.y) ∧ u.x * (q.x - a.x) + u.y * (q.y - a.y) ≤ T := by
  have kx : ∀ s t, u.x * ((rp a u s t).y - a.y) - u.y * ((rp a u s t).x - a.x) = s := fun s t => by
    have : u.x * ((rp a u s t).y - a.y) - u.y * ((rp a u s t).x - a.x) = s * (u.x * u.x + u.y * u.y) := by
      unfold rp addP
      grind
    rw [this, hu]
    grind
  have ky : ∀ s t, u.x * ((rp a u s t).x - a.x) + u.y * ((rp a u s t).y - a.y) = t := fun s t => by
    have : u.x * ((rp a u s t).x - a.x) + u.y * ((rp a u s t).y - a.y) = t * (u.x * u.x + u.y * u.y) := by
      unfold rp addP
      grind
    rw [this, hu]
    grind
  constructor
  · intro h
    have g : ∀ (f : Rat → Rat → Rat) (A B C : Rat), (∀ s t, f s t = A * s + B * t + C) → 0 ≤ f lo 0 → 0 ≤ f hi 0 → 0 ≤ f lo T → 0 ≤ f hi T → 0 ≤ f (u.x * (q.y - a.y) - u.y * (q.x - a.x)) (u.x * (q.x - a.x) + u.y * (q.y - a.y)) := fun f A B C hf f1 f2 f3 f4 => by
      have := h (B * u.x - A * u.y) (B * u.y + A * u.x) (C - (B * u.x - A * u.y) * a.x - (B * u.y + A * u.x) * a.y) (fun p hp => by
        have e : (B * u.x - A * u.y) * p.x + (B * u.y + A * u.x) * p.y + (C - (B * u.x - A * u.y) * a.x - (B * u.y + A * u.x) * a.y) = A * (u.x * (p.y - a.y) - u.y * (p.x - a.x)) + B * (u.x * (p.x - a.x) + u.y * (p.y - a.y)) + C := by grind
        rw [e]
        simp only [List.mem_cons, List.not_mem_nil, or_false] at hp
        rcases hp with rfl | rfl | rfl | rfl <;> rw [kx, ky, ← hf] <;> assumption)
      rw [hf]
      grind
    have g1 := g (fun s t => s - lo) 1 0 (-lo) (fun s t => by grind) (by grind) (by grind) (by grind) (by grind)
    have g2 := g (fun s t => hi - s) (-1) 0 hi (fun s t => by grind) (by grind) (by grind) (by grind) (by grind)
    have g3 := g (fun s t => t) 0 1 0 (fun s t => by grind) (by grind) (by grind) (by grind) (by grind)
    have g4 := g (fun s t => T - t) 0 (-1) T (fun s t => by grind) (by grind) (by grind) (by grind) (by grind)
    exact ⟨⟨by grind, by grind⟩, g3, by grind⟩
  · rintro ⟨⟨b1, b2⟩, b3, b4⟩ α β γ k
    have eq := rp_of (a := a) (q := q) hu
    generalize u.x * (q.y - a.y) - u.y * (q.x - a.x) = s at *
    generalize u.x * (q.x - a.x) + u.y * (q.y - a.y) = t at *
    have c1 := k (rp a u lo 0) (by simp)
    have c2 := k (rp a u hi 0) (by simp)
    have c3 := k (rp a u lo T) (by simp)
    have c4 := k (rp a u hi T) (by simp)
    have lin : ∀ s t, α * (rp a u s t).x + β * (rp a u s t).y + γ = (α * a.x + β * a.y + γ) + s * (β * u.x - α * u.y) + t * (α * u.x + β * u.y) := fun s t => by
      unfold rp addP
      grind
    rw [eq, lin]
    rw [lin] at c1 c2 c3 c4
    generalize α * a.x + β * a.y + γ = C at *
    generalize β * u.x - α * u.y = A at *
    generalize α * u.x + β * u.y = B at *
    have p1 := mnn (mnn (show 0 ≤ hi - s by grind) (show 0 ≤ T - t by grind)) c1
    have p2 := mnn (mnn (show 0 ≤ s - lo by grind) (show 0 ≤ T - t by grind)) c2
    have p3 := mnn (mnn (show 0 ≤ hi - s by grind) (show 0 ≤ t by grind)) c3
    have p4 := mnn (mnn (show 0 ≤ s - lo by grind) (show 0 ≤ t by grind)) c4
    apply nn_of_mul (Rat.mul_pos (show 0 < hi - lo by grind) h2)
    have : (C + s * A + t * B) * ((hi - lo) * T) = (hi - s) * (T - t) * (C + lo * A + 0 * B) + (s - lo) * (T - t) * (C + hi * A + 0 * B) + (hi - s) * t * (C + lo * A + T * B) + (s - lo) * t * (C + hi * A + T * B) := by grind
    rw [this]
    grind
theorem rect_nc {a u : Pt} {lo hi T : Rat} (hu : u.x * u.x + u.y * u.y = 1) (h1 : lo < hi) (h2 : 0 < T) : NC [rp a u lo 0, rp a u hi 0, rp a u lo T, rp a u hi T] := by
  refine ⟨rp a u lo 0, rp a u lo T, rp a u hi 0, by simp, by simp, by simp, ?_⟩
  have e : crossP (rp a u lo 0) (rp a u lo T) (rp a u hi 0) = T * (hi - lo) * (u.x * u.x + u.y * u.y) := by
    unfold crossP rp addP
    grind
  rw [e, hu, Rat.mul_one]
  have := Rat.mul_pos h2 (show 0 < hi - lo by grind)
  intro z
  rw [z] at this
  exact Rat.lt_irrefl this
theorem rect_spec {a u : Pt} {lo hi T : Rat} (hu : u.x * u.x + u.y * u.y = 1) (h1 : lo < hi) (h2 : 0 < T) {S : List Pt} (hS : S = [rp a u lo 0, rp a u hi 0, rp a u lo T, rp a u hi T]) :
    ∃ h, shapeOf S = some h ∧ ∀ q, belongsP h q = true ↔ (lo ≤ u.x * (q.y - a.y) - u.y * (q.x - a.x) ∧ u.x * (q.y - a.y) - u.y * (q.x - a.x) ≤ hi) ∧ 0 ≤ u.x * (q.x - a.x) + u.y * (q.y - a.y) ∧ u.x * (q.x - a.x) + u.y * (q.y - a.y) ≤ T := by
  obtain ⟨h, e, _, _, hb⟩ := shape_spec (rect_nc (a := a) hu h1 h2)
  exact ⟨h, by rw [hS, e], fun q => by rw [hb, rect hu h1 h2]⟩
end W15

/-! ## G8 -/
/-! each part of the widened line against the law's test -/
namespace W15
def someB (o : Option (List Pt)) (q : Pt) : Bool := match o with
  | none => false
  | some S => belongsP S q
/-- along the piece, to its left -/
def lies (a b q : Pt) : Rat × Rat := ((b.x - a.x) * (q.x - a.x) + (b.y - a.y) * (q.y - a.y), (b.x - a.x) * (q.y - a.y) - (b.y - a.y) * (q.x - a.x))
def loR (r : Rl) : Rat := if r.side = .left then 0 else -r.half
def hiR (r : Rl) : Rat := if r.side = .right then 0 else r.half
def inRims (L : Rat) (r : Rl) (left : Rat) : Bool := decide (loR r * L ≤ left) && decide (left ≤ hiR r * L)
@[irreducible] def stripL (a b : Pt) (L : Rat) (r : Rl) (q : Pt) : Bool := (decide (0 ≤ (lies a b q).1) && decide ((lies a b q).1 ≤ L * L)) && inRims L r (lies a b q).2
@[irreducible] def joinL (a p b u v : Pt) (L : Rat) (r : Rl) (q : Pt) : Bool :=
  if crU u v = 0 then (decide (r.joining = .round) && decide (L * L ≤ (lies a p q).1)) && inConvex (lawTwelve p r.half) q
  else if r.side = (if 0 < crU u v then Side.left else Side.right) then false
  else if r.joining = .round then (decide (0 ≤ sgn (crU u v) * sgn (crossP p (outerP p u v r.half).1 q)) && decide (sgn (crU u v) * sgn (crossP p (outerP p u v r.half).2 q) ≤ 0)) && inConvex (lawTwelve p r.half) q
  else if r.joining = .pointed ∧ sqd p (tipAt a p b u v r.half) ≤ (r.half * r.bound) * (r.half * r.bound) then inConvex [p, (outerP p u v r.half).1, tipAt a p b u v r.half, (outerP p u v r.half).2] q
  else inConvex [p, (outerP p u v r.half).1, (outerP p u v r.half).2] q
/-- at the end b of the piece, or at its start a -/
@[irreducible] def endL (a b : Pt) (L : Rat) (last : Bool) (r : Rl) (q : Pt) : Bool :=
  if r.ending = .cut ∨ (if last then (lies a b q).1 - L * L else -(lies a b q).1) < 0 then false
  else if r.ending = .square then decide ((if last then (lies a b q).1 - L * L else -(lies a b q).1) ≤ r.half * L) && inRims L r (lies a b q).2
  else if r.side ≠ .both ∧ (lies a b q).2 * (if r.side = .right then -1 else 1) < 0 then false
  else inConvex (lawTwelve (if last then b else a) r.half) q
theorem pt_ext {p q : Pt} (h1 : p.x = q.x) (h2 : p.y = q.y) : p = q := by
  obtain ⟨a, b⟩ := p
  obtain ⟨c, d⟩ := q
  simp only at h1 h2
  rw [h1, h2]
theorem rims_rp (p u : Pt) (r : Rl) : rimsP p (offP u r.half) r.side = (rp p u (loR r) 0, rp p u (hiR r) 0) := by
  unfold rimsP loR hiR toL toR offP
  rw [Prod.mk.injEq]
  constructor
  · split
    · apply pt_ext <;> simp only [rp, addP] <;> grind
    · apply pt_ext <;> simp only [rp, addP] <;> grind
  · split
    · apply pt_ext <;> simp only [rp, addP] <;> grind
    · apply pt_ext <;> simp only [rp, addP] <;> grind
theorem lo_hi {r : Rl} (h : r.Ok) : loR r < hiR r := by
  have := h.pos
  unfold loR hiR
  cases r.side <;> simp <;> grind
theorem rp_along {a b u : Pt} {L : Rat} (c : Pc a b u L) (s : Rat) : rp b u s 0 = rp a u s L := by
  have := c.ex
  have := c.ey
  apply pt_ext <;> simp only [rp, addP] <;> grind
theorem mul_le_l {c a b : Rat} (hc : 0 < c) : c * a ≤ c * b ↔ a ≤ b := by
  constructor
  · intro h
    have := nn_of_mul hc (show 0 ≤ (b - a) * c by grind)
    grind
  · intro h
    have := mnn (Rat.le_of_lt hc) (show 0 ≤ b - a by grind)
    grind
theorem le_mul {L x y : Rat} (hL : 0 < L) : x * L ≤ L * y ↔ x ≤ y := by
  rw [Rat.mul_comm x L]
  exact mul_le_l hL
theorem lies_pc {a b u q : Pt} {L : Rat} (c : Pc a b u L) : lies a b q = (L * (u.x * (q.x - a.x) + u.y * (q.y - a.y)), L * (u.x * (q.y - a.y) - u.y * (q.x - a.x))) := by
  have := c.ex
  have := c.ey
  unfold lies
  rw [Prod.mk.injEq]
  constructor <;> grind
theorem bool_ext {a b : Bool} (h : a = true ↔ b = true) : a = b := by
  cases a <;> cases b <;> simp at h <;> rfl
theorem strip_spec {a b u q : Pt} {L : Rat} {r : Rl} (c : Pc a b u L) (h : r.Ok) : someB (stripP a b u r) q = stripL a b L r q := by
  obtain ⟨S, e, hb⟩ := rect_spec (a := a) c.one (lo_hi h) c.pos (S := stripS a b u r) (by unfold stripS; rw [rims_rp, rims_rp, rp_along c, rp_along c])
  apply bool_ext
  unfold stripP
  rw [e]
  show belongsP S q = true ↔ _
  rw [hb, stripL, inRims, lies_pc c]
  simp only [Bool.and_eq_true, decide_eq_true_eq]
  have k2 : ∀ x y : Rat, L * x ≤ L * y ↔ x ≤ y := fun x y => mul_le_l c.pos
  have k1 : 0 ≤ L * (u.x * (q.x - a.x) + u.y * (q.y - a.y)) ↔ 0 ≤ u.x * (q.x - a.x) + u.y * (q.y - a.y) := by
    have := le_mul (x := 0) (y := u.x * (q.x - a.x) + u.y * (q.y - a.y)) c.pos
    rw [Rat.zero_mul] at this
    exact this
  rw [le_mul c.pos, k1, Rat.mul_comm (hiR r) L, k2, k2]
  exact And.comm
/-! ### ahead -/
/-- the half of the twelve ahead along u -/
theorem ahead_spec {p u : Pt} {h : Rat} (hu : u.x * u.x + u.y * u.y = 1) (hh : 0 < h) :
    ∃ F, aheadP (T12 p h) p (offP u h) = some F ∧ Poly F ∧ ∀ q, belongsP F q = true ↔ Hs (lawTwelve p h) q ∧ 0 ≤ u.x * (q.x - p.x) + u.y * (q.y - p.y) := by
  obtain ⟨T, e, P, _, hb⟩ := twelve_spec p hh
  have eT : T12 p h = T := by unfold T12; rw [e]; rfl
  rw [eT]
  have cr : ∀ q, crossP (toL p (offP u h)) p q = h * (u.x * (q.x - p.x) + u.y * (q.y - p.y)) := fun q => by
    unfold crossP toL offP addP
    grind
  have sg : ∀ q, 0 ≤ crossP (toL p (offP u h)) p q ↔ 0 ≤ u.x * (q.x - p.x) + u.y * (q.y - p.y) := fun q => by
    rw [cr]
    have := mul_le_l (a := 0) (b := u.x * (q.x - p.x) + u.y * (q.y - p.y)) hh
    rw [Rat.mul_zero] at this
    exact this
  have ux := unit_le hu
  have uy := unit_le (x := u.y) (y := u.x) (by grind)
  have near : ∀ s t : Rat, -1 ≤ s → s ≤ 1 → -1 ≤ t → t ≤ 1 → belongsP T (addP p (h / 2 * s) (h / 2 * t)) = true := fun s t s1 s2 t1 t2 => by
    rw [hb]
    have a1 := mnn (Rat.le_of_lt hh) (show 0 ≤ s + 1 by grind)
    have a2 := mnn (Rat.le_of_lt hh) (show 0 ≤ 1 - s by grind)
    have a3 := mnn (Rat.le_of_lt hh) (show 0 ≤ t + 1 by grind)
    have a4 := mnn (Rat.le_of_lt hh) (show 0 ≤ 1 - t by grind)
    exact twelve_near p (by grind) (by grind) (by grind) (by grind)
  have h2 : 0 < h / 2 := by grind
  obtain ⟨F, e1, PF, hF⟩ := cut_spec P (a := toL p (offP u h)) (b := p) (x := addP p (h / 2 * 0) (h / 2 * 0)) (y := addP p (h / 2 * u.x) (h / 2 * u.y)) (z := addP p (h / 2 * -u.y) (h / 2 * u.x))
    ⟨near 0 0 (by grind) (by grind) (by grind) (by grind), (sg _).mpr (by unfold addP; grind)⟩
    ⟨near _ _ ux.1 ux.2 uy.1 uy.2, (sg _).mpr (by
      have : u.x * ((addP p (h / 2 * u.x) (h / 2 * u.y)).x - p.x) + u.y * ((addP p (h / 2 * u.x) (h / 2 * u.y)).y - p.y) = h / 2 * (u.x * u.x + u.y * u.y) := by unfold addP; grind
      rw [this, hu]
      grind)⟩
    ⟨near _ _ (by grind) (by grind) ux.1 ux.2, (sg _).mpr (by unfold addP; grind)⟩ (by
      have : crossP (addP p (h / 2 * 0) (h / 2 * 0)) (addP p (h / 2 * u.x) (h / 2 * u.y)) (addP p (h / 2 * -u.y) (h / 2 * u.x)) = (h / 2) * (h / 2) * (u.x * u.x + u.y * u.y) := by unfold crossP addP; grind
      rw [this, hu, Rat.mul_one]
      have := Rat.mul_pos h2 h2
      intro z
      rw [z] at this
      exact Rat.lt_irrefl this)
  exact ⟨F, by unfold aheadP; exact e1, PF, fun q => by rw [hF, hb, sg]⟩
/-- cut by a ray from p -/
theorem side_spec {p u : Pt} {h k : Rat} (hu : u.x * u.x + u.y * u.y = 1) (hh : 0 < h) {F : List Pt} (PF : Poly F) (hF : ∀ q, belongsP F q = true ↔ Hs (lawTwelve p h) q ∧ 0 ≤ u.x * (q.x - p.x) + u.y * (q.y - p.y))
    {σ : Rat} (hσ : σ = 1 ∨ σ = -1) (hk : 0 < k) {a b : Pt} (hab : ∀ q, crossP a b q = k * (σ * (u.x * (q.y - p.y) - u.y * (q.x - p.x)))) :
    ∃ G, cutOff F a b = some G ∧ Poly G ∧ ∀ q, belongsP G q = true ↔ (Hs (lawTwelve p h) q ∧ 0 ≤ u.x * (q.x - p.x) + u.y * (q.y - p.y)) ∧ 0 ≤ σ * (u.x * (q.y - p.y) - u.y * (q.x - p.x)) := by
  have sg : ∀ q, 0 ≤ crossP a b q ↔ 0 ≤ σ * (u.x * (q.y - p.y) - u.y * (q.x - p.x)) := fun q => by
    rw [hab]
    have := mul_le_l (a := 0) (b := σ * (u.x * (q.y - p.y) - u.y * (q.x - p.x))) hk
    rw [Rat.mul_zero] at this
    exact this
  have ux := unit_le hu
  have uy := unit_le (x := u.y) (y := u.x) (by grind)
  have near : ∀ s t : Rat, -1 ≤ s → s ≤ 1 → -1 ≤ t → t ≤ 1 → Hs (lawTwelve p h) (addP p (h / 2 * s) (h / 2 * t)) := fun s t s1 s2 t1 t2 => by
    have a1 := mnn (Rat.le_of_lt hh) (show 0 ≤ s + 1 by grind)
    have a2 := mnn (Rat.le_of_lt hh) (show 0 ≤ 1 - s by grind)
    have a3 := mnn (Rat.le_of_lt hh) (show 0 ≤ t + 1 by grind)
    have a4 := mnn (Rat.le_of_lt hh) (show 0 ≤ 1 - t by grind)
    exact twelve_near p (by grind) (by grind) (by grind) (by grind)
  have h2 : 0 < h / 2 := by grind
  have e1 : ∀ s t, u.x * ((addP p (h / 2 * (t * u.x - s * u.y)) (h / 2 * (t * u.y + s * u.x))).x - p.x) + u.y * ((addP p (h / 2 * (t * u.x - s * u.y)) (h / 2 * (t * u.y + s * u.x))).y - p.y) = h / 2 * t := fun s t => by
    have : u.x * ((addP p (h / 2 * (t * u.x - s * u.y)) (h / 2 * (t * u.y + s * u.x))).x - p.x) + u.y * ((addP p (h / 2 * (t * u.x - s * u.y)) (h / 2 * (t * u.y + s * u.x))).y - p.y) = h / 2 * t * (u.x * u.x + u.y * u.y) := by unfold addP; grind
    rw [this, hu]
    grind
  have e2 : ∀ s t, u.x * ((addP p (h / 2 * (t * u.x - s * u.y)) (h / 2 * (t * u.y + s * u.x))).y - p.y) - u.y * ((addP p (h / 2 * (t * u.x - s * u.y)) (h / 2 * (t * u.y + s * u.x))).x - p.x) = h / 2 * s := fun s t => by
    have : u.x * ((addP p (h / 2 * (t * u.x - s * u.y)) (h / 2 * (t * u.y + s * u.x))).y - p.y) - u.y * ((addP p (h / 2 * (t * u.x - s * u.y)) (h / 2 * (t * u.y + s * u.x))).x - p.x) = h / 2 * s * (u.x * u.x + u.y * u.y) := by unfold addP; grind
    rw [this, hu]
    grind
  obtain ⟨G, e, PG, hG⟩ := cut_spec PF (a := a) (b := b) (x := addP p (h / 2 * (0 * u.x - 0 * u.y)) (h / 2 * (0 * u.y + 0 * u.x))) (y := addP p (h / 2 * (1 * u.x - 0 * u.y)) (h / 2 * (1 * u.y + 0 * u.x))) (z := addP p (h / 2 * (0 * u.x - σ * u.y)) (h / 2 * (0 * u.y + σ * u.x)))
    ⟨(hF _).mpr ⟨near _ _ (by grind) (by grind) (by grind) (by grind), by rw [e1]; grind⟩, (sg _).mpr (by rw [e2]; grind)⟩
    ⟨(hF _).mpr ⟨near _ _ (by grind) (by grind) (by grind) (by grind), by rw [e1]; grind⟩, (sg _).mpr (by rw [e2]; grind)⟩
    ⟨(hF _).mpr ⟨near _ _ (by rcases hσ with rfl | rfl <;> grind) (by rcases hσ with rfl | rfl <;> grind) (by rcases hσ with rfl | rfl <;> grind) (by rcases hσ with rfl | rfl <;> grind), by rw [e1]; grind⟩, (sg _).mpr (by rw [e2]; rcases hσ with rfl | rfl <;> grind)⟩ (by
      have : crossP (addP p (h / 2 * (0 * u.x - 0 * u.y)) (h / 2 * (0 * u.y + 0 * u.x))) (addP p (h / 2 * (1 * u.x - 0 * u.y)) (h / 2 * (1 * u.y + 0 * u.x))) (addP p (h / 2 * (0 * u.x - σ * u.y)) (h / 2 * (0 * u.y + σ * u.x))) = (h / 2) * (h / 2) * σ * (u.x * u.x + u.y * u.y) := by unfold crossP addP; grind
      rw [this, hu, Rat.mul_one]
      have := Rat.mul_pos h2 h2
      intro z
      rcases hσ with rfl | rfl <;> grind)
  exact ⟨G, e, PG, fun q => by rw [hG, hF, sg]⟩
end W15

/-! ## G9 -/
/-! joins and ends against the law's tests -/
namespace W15
theorem law12 {p : Pt} {h : Rat} (hh : 0 < h) {q : Pt} : inConvex (lawTwelve p h) q = true ↔ Hs (lawTwelve p h) q := (lawTwelve_poly p hh).inConvex
theorem near12 {p : Pt} {h : Rat} (hh : 0 < h) {s t : Rat} (s1 : -1 ≤ s) (s2 : s ≤ 1) (t1 : -1 ≤ t) (t2 : t ≤ 1) : Hs (lawTwelve p h) (addP p (h / 2 * s) (h / 2 * t)) := by
  have a1 := mnn (Rat.le_of_lt hh) (show 0 ≤ s + 1 by grind)
  have a2 := mnn (Rat.le_of_lt hh) (show 0 ≤ 1 - s by grind)
  have a3 := mnn (Rat.le_of_lt hh) (show 0 ≤ t + 1 by grind)
  have a4 := mnn (Rat.le_of_lt hh) (show 0 ≤ 1 - t by grind)
  exact twelve_near p (by grind) (by grind) (by grind) (by grind)
theorem mul_nn_iff {k x : Rat} (hk : 0 < k) : 0 ≤ k * x ↔ 0 ≤ x := by
  have := mul_le_l (a := 0) (b := x) hk
  rw [Rat.mul_zero] at this
  exact this
/-- the twelve between two rays: the corners p + h (a, b) and p + h (c, d) -/
theorem wedge_spec {p : Pt} {h a b c d : Rat} (hh : 0 < h) (hx : 0 < a * d - b * c) (a1 : -1 ≤ a) (a2 : a ≤ 1) (b1 : -1 ≤ b) (b2 : b ≤ 1) (c1 : -1 ≤ c) (c2 : c ≤ 1) (d1 : -1 ≤ d) (d2 : d ≤ 1) :
    ∃ G, wedgeP (T12 p h) p (addP p (h * a) (h * b)) (addP p (h * c) (h * d)) = some G ∧ ∀ q, belongsP G q = true ↔ Hs (lawTwelve p h) q ∧ 0 ≤ crossP p (addP p (h * a) (h * b)) q ∧ crossP p (addP p (h * c) (h * d)) q ≤ 0 := by
  obtain ⟨T, e, P, _, hb⟩ := twelve_spec p hh
  have eT : T12 p h = T := by unfold T12; rw [e]; rfl
  have hh2 := Rat.mul_pos hh hh
  have key := Rat.mul_pos hh2 hx
  have pn : crossP (addP p (h / 2 * 0) (h / 2 * 0)) (addP p (h / 2 * a) (h / 2 * b)) (addP p (h / 2 * c) (h / 2 * d)) ≠ 0 := by
    have : crossP (addP p (h / 2 * 0) (h / 2 * 0)) (addP p (h / 2 * a) (h / 2 * b)) (addP p (h / 2 * c) (h / 2 * d)) = h * h * (a * d - b * c) / 4 := by unfold crossP addP; grind
    rw [this]
    grind
  have n0 := near12 (p := p) hh (s := 0) (t := 0) (by grind) (by grind) (by grind) (by grind)
  have n1 := near12 (p := p) hh a1 a2 b1 b2
  have n2 := near12 (p := p) hh c1 c2 d1 d2
  obtain ⟨F, e1, PF, hF⟩ := cut_spec P (a := p) (b := addP p (h * a) (h * b)) (x := addP p (h / 2 * 0) (h / 2 * 0)) (y := addP p (h / 2 * a) (h / 2 * b)) (z := addP p (h / 2 * c) (h / 2 * d))
    ⟨(hb _).mpr n0, by unfold crossP addP; grind⟩ ⟨(hb _).mpr n1, by unfold crossP addP; grind⟩ ⟨(hb _).mpr n2, by
      have : crossP p (addP p (h * a) (h * b)) (addP p (h / 2 * c) (h / 2 * d)) = h * h * (a * d - b * c) / 2 := by unfold crossP addP; grind
      rw [this]; grind⟩ pn
  obtain ⟨G, e2, PG, hG⟩ := cut_spec PF (a := addP p (h * c) (h * d)) (b := p) (x := addP p (h / 2 * 0) (h / 2 * 0)) (y := addP p (h / 2 * a) (h / 2 * b)) (z := addP p (h / 2 * c) (h / 2 * d))
    ⟨(hF _).mpr ⟨(hb _).mpr n0, by unfold crossP addP; grind⟩, by unfold crossP addP; grind⟩
    ⟨(hF _).mpr ⟨(hb _).mpr n1, by unfold crossP addP; grind⟩, by
      have : crossP (addP p (h * c) (h * d)) p (addP p (h / 2 * a) (h / 2 * b)) = h * h * (a * d - b * c) / 2 := by unfold crossP addP; grind
      rw [this]; grind⟩
    ⟨(hF _).mpr ⟨(hb _).mpr n2, by
      have : crossP p (addP p (h * a) (h * b)) (addP p (h / 2 * c) (h / 2 * d)) = h * h * (a * d - b * c) / 2 := by unfold crossP addP; grind
      rw [this]; grind⟩, by unfold crossP addP; grind⟩ pn
  refine ⟨G, ?_, fun q => ?_⟩
  · unfold wedgeP
    rw [eT, e1]
    exact e2
  · rw [hG, hF, hb]
    have : crossP (addP p (h * c) (h * d)) p q = -crossP p (addP p (h * c) (h * d)) q := by unfold crossP; grind
    rw [this]
    constructor
    · rintro ⟨⟨k1, k2⟩, k3⟩
      exact ⟨k1, k2, by grind⟩
    · rintro ⟨k1, k2, k3⟩
      exact ⟨⟨k1, k2⟩, by grind⟩
/-! ### ends -/
structure Out (a b w : Pt) (L : Rat) : Prop where
  pos : 0 < L
  ex : b.x = a.x + L * w.x
  ey : b.y = a.y + L * w.y
  one : w.x * w.x + w.y * w.y = 1
theorem end_gen {p a b w q : Pt} {L : Rat} {r : Rl} (c : Out a b w L) (h : r.Ok) : someB (endP p a b w r) q = true ↔
    if r.ending = .square then (loR r ≤ w.x * (q.y - p.y) - w.y * (q.x - p.x) ∧ w.x * (q.y - p.y) - w.y * (q.x - p.x) ≤ hiR r) ∧ 0 ≤ w.x * (q.x - p.x) + w.y * (q.y - p.y) ∧ w.x * (q.x - p.x) + w.y * (q.y - p.y) ≤ r.half
    else (Hs (lawTwelve p r.half) q ∧ 0 ≤ w.x * (q.x - p.x) + w.y * (q.y - p.y)) ∧ (r.side = .left → 0 ≤ w.x * (q.y - p.y) - w.y * (q.x - p.x)) ∧ (r.side = .right → w.x * (q.y - p.y) - w.y * (q.x - p.x) ≤ 0) := by
  have ex := c.ex
  have ey := c.ey
  unfold endP
  by_cases hs : r.ending = .square
  · rw [if_pos hs, if_pos hs]
    obtain ⟨S, e, hb⟩ := rect_spec (a := p) c.one (lo_hi h) h.pos (S := [(rimsP p (offP w r.half) r.side).1, (rimsP p (offP w r.half) r.side).2, addP (rimsP p (offP w r.half) r.side).1 (r.half * w.x) (- -(r.half * w.y)), addP (rimsP p (offP w r.half) r.side).2 (r.half * w.x) (- -(r.half * w.y))]) (by
      rw [rims_rp]
      have k : ∀ s, addP (rp p w s 0) (r.half * w.x) (- -(r.half * w.y)) = rp p w s r.half := fun s => by
        apply pt_ext <;> simp only [rp, addP] <;> grind
      rw [k, k])
    rw [e]
    exact hb q
  · rw [if_neg hs, if_neg hs]
    obtain ⟨F, e, PF, hF⟩ := ahead_spec (p := p) c.one h.pos
    rw [e]
    show someB (match r.side with | .both => some F | .left => cutOff F p (wayAdd p a b) | .right => cutOff F (wayAdd p a b) p) q = true ↔ _
    cases hsd : r.side with
    | both =>
      show belongsP F q = true ↔ _
      rw [hF]
      simp
    | left =>
      obtain ⟨G, e2, _, hG⟩ := side_spec c.one h.pos PF hF (σ := 1) (.inl rfl) c.pos (a := p) (b := wayAdd p a b) (fun q => by unfold crossP wayAdd addP; grind)
      show someB (cutOff F p (wayAdd p a b)) q = true ↔ _
      rw [e2]
      show belongsP G q = true ↔ _
      rw [hG, Rat.one_mul]
      simp
    | right =>
      obtain ⟨G, e2, _, hG⟩ := side_spec c.one h.pos PF hF (σ := -1) (.inr rfl) c.pos (a := wayAdd p a b) (b := p) (fun q => by unfold crossP wayAdd addP; grind)
      show someB (cutOff F (wayAdd p a b) p) q = true ↔ _
      rw [e2]
      show belongsP G q = true ↔ _
      rw [hG]
      simp
      grind
theorem end_last {a b u q : Pt} {L : Rat} {r : Rl} (c : Pc a b u L) (h : r.Ok) (hc : r.ending ≠ .cut) : someB (endP b a b u r) q = endL a b L true r q := by
  apply bool_ext
  rw [end_gen ⟨c.pos, c.ex, c.ey, c.one⟩ h]
  have one := c.one
  have ex := c.ex
  have ey := c.ey
  have hp := c.pos
  have e1 : u.x * (q.x - b.x) + u.y * (q.y - b.y) = (u.x * (q.x - a.x) + u.y * (q.y - a.y)) - L := by
    have : u.x * (q.x - b.x) + u.y * (q.y - b.y) = (u.x * (q.x - a.x) + u.y * (q.y - a.y)) - L * (u.x * u.x + u.y * u.y) := by rw [ex, ey]; grind
    rw [this, one]
    grind
  have e2 : u.x * (q.y - b.y) - u.y * (q.x - b.x) = u.x * (q.y - a.y) - u.y * (q.x - a.x) := by rw [ex, ey]; grind
  rw [e1, e2]
  unfold endL
  rw [lies_pc c]
  simp only [if_true]
  generalize u.x * (q.x - a.x) + u.y * (q.y - a.y) = d
  generalize u.x * (q.y - a.y) - u.y * (q.x - a.x) = s
  have g0 : (L * d - L * L < 0) ↔ d - L < 0 := by
    have := mul_le_l (a := L) (b := d) hp
    grind
  have g1 : (L * d - L * L ≤ r.half * L) ↔ d - L ≤ r.half := by
    have := mul_le_l (a := d - L) (b := r.half) hp
    grind
  have g2 : (loR r * L ≤ L * s) ↔ loR r ≤ s := le_mul hp
  have g3 : (L * s ≤ hiR r * L) ↔ s ≤ hiR r := by rw [Rat.mul_comm (hiR r)]; exact mul_le_l hp
  have g4 : (L * s * 1 < 0) ↔ s < 0 := by
    have := mul_le_l (a := 0) (b := s) hp
    grind
  have g5 : (L * s * -1 < 0) ↔ 0 < s := by
    have := mul_le_l (a := s) (b := 0) hp
    grind
  by_cases hd : d - L < 0
  · rw [if_pos (show r.ending = .cut ∨ L * d - L * L < 0 from .inr (g0.mpr hd))]
    have : ¬ 0 ≤ d - L := by grind
    split <;> simp [this]
  · have hd' : 0 ≤ d - L := by grind
    rw [if_neg (show ¬ (r.ending = .cut ∨ L * d - L * L < 0) from fun z => z.elim hc (fun k => hd (g0.mp k)))]
    by_cases hs : r.ending = .square
    · rw [if_pos hs, if_pos hs]
      unfold inRims
      simp only [Bool.and_eq_true, decide_eq_true_eq, g1, g2, g3]
      grind
    · rw [if_neg hs, if_neg hs]
      cases hsd : r.side with
      | both =>
        simp only [ne_eq, not_true_eq_false, false_and, if_false]
        rw [law12 h.pos]
        simp [hd']
      | left =>
        have : ¬ (Side.left = Side.right) := by decide
        simp only [if_neg this, g4]
        by_cases hs0 : s < 0
        · have : ¬ 0 ≤ s := by grind
          simp [hs0, this]
        · have : 0 ≤ s := by grind
          simp only [hs0, and_false, if_false]
          rw [law12 h.pos]
          simp [hd', this]
      | right =>
        simp only [if_true, g5]
        by_cases hs0 : 0 < s
        · have : ¬ s ≤ 0 := by grind
          simp [hs0, this]
        · have : s ≤ 0 := by grind
          simp only [hs0, and_false, if_false]
          rw [law12 h.pos]
          simp [hd', this]
theorem end_first {a b u q : Pt} {L : Rat} {r : Rl} (c : Pc a b u L) (h : r.Ok) (hc : r.ending ≠ .cut) : someB (endP a b a (negP u) { r with side := flipS r.side }) q = endL a b L false r q := by
  apply bool_ext
  have one := c.one
  have ex := c.ex
  have ey := c.ey
  have hp := c.pos
  have h' : ({ r with side := flipS r.side } : Rl).Ok := ⟨h.pos, h.bh, h.bb, h.one⟩
  rw [end_gen (a := b) (b := a) (w := negP u) ⟨c.pos, by unfold negP; grind, by unfold negP; grind, by unfold negP; grind⟩ h']
  have e1 : (negP u).x * (q.x - a.x) + (negP u).y * (q.y - a.y) = -(u.x * (q.x - a.x) + u.y * (q.y - a.y)) := by unfold negP; grind
  have e2 : (negP u).x * (q.y - a.y) - (negP u).y * (q.x - a.x) = -(u.x * (q.y - a.y) - u.y * (q.x - a.x)) := by unfold negP; grind
  have l1 : loR { r with side := flipS r.side } = -hiR r := by
    unfold loR hiR
    cases r.side <;> simp [flipS]
  have l2 : hiR { r with side := flipS r.side } = -loR r := by
    unfold loR hiR
    cases r.side <;> simp [flipS]
  rw [e1, e2, l1, l2]
  unfold endL
  rw [lies_pc c]
  show (if r.ending = .square then _ else _) ↔ _
  simp only [Bool.false_eq_true, if_false]
  generalize u.x * (q.x - a.x) + u.y * (q.y - a.y) = d
  generalize u.x * (q.y - a.y) - u.y * (q.x - a.x) = s
  have g0 : (-(L * d) < 0) ↔ -d < 0 := by
    have := mul_le_l (a := d) (b := 0) hp
    grind
  have g1 : (-(L * d) ≤ r.half * L) ↔ -d ≤ r.half := by
    have := mul_le_l (a := -d) (b := r.half) hp
    grind
  have g2 : (loR r * L ≤ L * s) ↔ loR r ≤ s := le_mul hp
  have g3 : (L * s ≤ hiR r * L) ↔ s ≤ hiR r := by rw [Rat.mul_comm (hiR r)]; exact mul_le_l hp
  have g4 : (L * s * 1 < 0) ↔ s < 0 := by
    have := mul_le_l (a := 0) (b := s) hp
    grind
  have g5 : (L * s * -1 < 0) ↔ 0 < s := by
    have := mul_le_l (a := s) (b := 0) hp
    grind
  by_cases hd : -d < 0
  · rw [if_pos (show r.ending = .cut ∨ -(L * d) < 0 from .inr (g0.mpr hd))]
    have : ¬ 0 ≤ -d := by grind
    split <;> simp [this]
  · have hd' : 0 ≤ -d := by grind
    rw [if_neg (show ¬ (r.ending = .cut ∨ -(L * d) < 0) from fun z => z.elim hc (fun k => hd (g0.mp k)))]
    by_cases hs : r.ending = .square
    · rw [if_pos hs, if_pos hs]
      unfold inRims
      simp only [Bool.and_eq_true, decide_eq_true_eq, g1, g2, g3]
      grind
    · rw [if_neg hs, if_neg hs]
      cases hsd : r.side with
      | both =>
        simp only [ne_eq, not_true_eq_false, false_and, if_false]
        rw [law12 h.pos]
        simp [hd', flipS]
      | left =>
        have : ¬ (Side.left = Side.right) := by decide
        simp only [if_neg this, g4]
        by_cases hs0 : s < 0
        · have : ¬ -s ≤ 0 := by grind
          simp [hs0, this, flipS]
        · have : -s ≤ 0 := by grind
          simp only [hs0, and_false, if_false]
          rw [law12 h.pos]
          simp [hd', this, flipS]
      | right =>
        simp only [if_true, g5]
        by_cases hs0 : 0 < s
        · have : ¬ 0 ≤ -s := by grind
          simp [hs0, this, flipS]
        · have : 0 ≤ -s := by grind
          simp only [hs0, and_false, if_false]
          rw [law12 h.pos]
          simp [hd', this, flipS]
end W15

/-! ## G10 -/
/-! joins; the whole line -/
namespace W15
theorem cr_unit {u v : Pt} (hu : u.x * u.x + u.y * u.y = 1) (hv : v.x * v.x + v.y * v.y = 1) (h : crU u v ≠ 0) : u.x * v.x + u.y * v.y < 1 := by
  have e : crU u v * crU u v + (u.x * v.x + u.y * v.y) * (u.x * v.x + u.y * v.y) = 1 := by
    have : crU u v * crU u v + (u.x * v.x + u.y * v.y) * (u.x * v.x + u.y * v.y) = (u.x * u.x + u.y * u.y) * (v.x * v.x + v.y * v.y) := by unfold crU; grind
    rw [this, hu, hv, Rat.mul_one]
  have k : 0 < crU u v * crU u v := by
    rcases (Rat.le_total : 0 ≤ crU u v ∨ crU u v ≤ 0) with z | z
    · exact Rat.mul_pos (by grind) (by grind)
    · have := Rat.mul_pos (show 0 < -crU u v by grind) (show 0 < -crU u v by grind)
      grind
  have l := unit_le (x := u.x * v.x + u.y * v.y) (y := crU u v) (by grind)
  apply Classical.byContradiction
  intro n
  have : u.x * v.x + u.y * v.y = 1 := by grind
  rw [this] at e
  grind
/-- the corners of a join: σ = 1 turns left -/
structure Cn (p u v lo hi : Pt) (h σ : Rat) : Prop where
  lx : lo.x = p.x + σ * h * u.y
  ly : lo.y = p.y - σ * h * u.x
  hx : hi.x = p.x + σ * h * v.y
  hy : hi.y = p.y - σ * h * v.x
  sg : σ * σ = 1
  pos : 0 < σ * crU u v
theorem outer_cn {p u v : Pt} {h : Rat} (hn : crU u v ≠ 0) : Cn p u v (outerP p u v h).1 (outerP p u v h).2 h (if 0 < crU u v then 1 else -1) := by
  unfold outerP toR toL offP
  by_cases k : 0 < crU u v
  · rw [if_pos k, if_pos k]
    refine ⟨?_, ?_, ?_, ?_, by grind, by grind⟩ <;> simp only [addP] <;> grind
  · rw [if_neg k, if_neg k]
    refine ⟨?_, ?_, ?_, ?_, by grind, by grind⟩ <;> simp only [addP] <;> grind
theorem cn_tri {p u v lo hi : Pt} {h σ : Rat} (c : Cn p u v lo hi h σ) : crossP p lo hi = h * h * crU u v := by
  have e : crossP p lo hi = (σ * σ) * (h * h * crU u v) := by
    unfold crossP crU
    rw [c.lx, c.ly, c.hx, c.hy]
    grind
  rw [e, c.sg, Rat.one_mul]
/-- the tip of a join -/
structure Tp (lo hi u v t : Pt) (τ : Rat) : Prop where
  x1 : t.x = lo.x + τ * u.x
  y1 : t.y = lo.y + τ * u.y
  x2 : t.x = hi.x - τ * v.x
  y2 : t.y = hi.y - τ * v.y
theorem field1 {L M K W x : Rat} (hL : L ≠ 0) (hM : M ≠ 0) (hK : K ≠ 0) : M * W / (L * M * K) * (L * x) = W / K * x := by
  have hLM : L * M * K ≠ 0 := fun z => by
    rcases Rat.mul_eq_zero.mp z with z | z
    · rcases Rat.mul_eq_zero.mp z with z | z
      · exact hL z
      · exact hM z
    · exact hK z
  grind
theorem tip_cn {p a b u v lo hi : Pt} {h σ L M : Rat} (c : Cn p u v lo hi h σ) (hh : 0 < h) (c1 : Pc a p u L) (c2 : Pc p b v M) :
    ∃ τ, 0 < τ ∧ Tp lo hi u v (meetP lo (wayAdd lo a p) hi (wayAdd hi p b)) τ ∧ τ * crU u v = (hi.x - lo.x) * v.y - (hi.y - lo.y) * v.x := by
  have hn : crU u v ≠ 0 := fun z => by
    have := c.pos
    rw [z, Rat.mul_zero] at this
    exact Rat.lt_irrefl this
  have hu := c1.one
  have hv := c2.one
  have lt := cr_unit hu hv hn
  have L0 := c1.pos
  have M0 := c2.pos
  have ex1 := c1.ex
  have ey1 := c1.ey
  have ex2 := c2.ex
  have ey2 := c2.ey
  have N : (hi.x - lo.x) * v.y - (hi.y - lo.y) * v.x = σ * h * (1 - (u.x * v.x + u.y * v.y)) := by
    have : (hi.x - lo.x) * v.y - (hi.y - lo.y) * v.x = σ * h * ((v.x * v.x + v.y * v.y) - (u.x * v.x + u.y * v.y)) := by
      rw [c.lx, c.ly, c.hx, c.hy]
      grind
    rw [this, hv]
  refine ⟨((hi.x - lo.x) * v.y - (hi.y - lo.y) * v.x) / crU u v, ?_, ?_, Rat.div_mul_cancel hn⟩
  · rw [N]
    have e : σ * h * (1 - (u.x * v.x + u.y * v.y)) / crU u v * (σ * crU u v) = h * (1 - (u.x * v.x + u.y * v.y)) := by
      have : σ * h * (1 - (u.x * v.x + u.y * v.y)) / crU u v * (σ * crU u v) = (σ * σ) * (h * (1 - (u.x * v.x + u.y * v.y))) := by grind
      rw [this, c.sg, Rat.one_mul]
    have k : 0 < h * (1 - (u.x * v.x + u.y * v.y)) := Rat.mul_pos hh (by grind)
    rw [← e] at k
    exact pos_of_mul (Rat.le_of_lt c.pos) (by rw [Rat.mul_comm]; exact k)
  · have ht : ∀ τ, τ = ((hi.x - lo.x) * v.y - (hi.y - lo.y) * v.x) / crU u v → τ * crU u v = σ * h * (1 - (u.x * v.x + u.y * v.y)) := fun τ e => by
      rw [e, ← N]
      exact Rat.div_mul_cancel hn
    have mx : meetP lo (wayAdd lo a p) hi (wayAdd hi p b) = addP lo (((hi.x - lo.x) * v.y - (hi.y - lo.y) * v.x) / crU u v * u.x) (((hi.x - lo.x) * v.y - (hi.y - lo.y) * v.x) / crU u v * u.y) := by
      have LM : L * M ≠ 0 := by
        have := Rat.mul_pos L0 M0
        grind
      have e1 : ((wayAdd lo a p).x - lo.x) = L * u.x := by simp only [wayAdd, addP]; grind
      have e2 : ((wayAdd lo a p).y - lo.y) = L * u.y := by simp only [wayAdd, addP]; grind
      have e3 : ((wayAdd hi p b).x - hi.x) = M * v.x := by simp only [wayAdd, addP]; grind
      have e4 : ((wayAdd hi p b).y - hi.y) = M * v.y := by simp only [wayAdd, addP]; grind
      unfold meetP
      rw [e1, e2, e3, e4]
      have d : L * u.x * (M * v.y) - L * u.y * (M * v.x) = L * M * crU u v := by unfold crU; grind
      have n : (hi.x - lo.x) * (M * v.y) - (hi.y - lo.y) * (M * v.x) = M * ((hi.x - lo.x) * v.y - (hi.y - lo.y) * v.x) := by grind
      rw [d, n]
      generalize (hi.x - lo.x) * v.y - (hi.y - lo.y) * v.x = W
      generalize crU u v = K at *
      have hL : L ≠ 0 := by grind
      have hM : M ≠ 0 := by grind
      rw [field1 hL hM hn, field1 hL hM hn]
    rw [mx]
    have htau := ht _ rfl
    generalize ((hi.x - lo.x) * v.y - (hi.y - lo.y) * v.x) / crU u v = τ at *
    have can : ∀ x y : Rat, crU u v * (x - y) = 0 → x = y := fun x y e => by
      rcases Rat.mul_eq_zero.mp e with z | z
      · exact absurd z hn
      · grind
    refine ⟨rfl, rfl, can _ _ ?_, can _ _ ?_⟩
    · show crU u v * (lo.x + τ * u.x - (hi.x - τ * v.x)) = 0
      have : crU u v * (lo.x + τ * u.x - (hi.x - τ * v.x)) = crU u v * (lo.x - hi.x) + (τ * crU u v) * (u.x + v.x) := by grind
      rw [this, htau, c.lx, c.hx]
      unfold crU
      have e5 : u.y * u.y = 1 - u.x * u.x := by grind
      have e6 : v.y * v.y = 1 - v.x * v.x := by grind
      have : (u.x * v.y - u.y * v.x) * (p.x + σ * h * u.y - (p.x + σ * h * v.y)) + σ * h * (1 - (u.x * v.x + u.y * v.y)) * (u.x + v.x) = σ * h * (u.x * (1 - v.y * v.y - v.x * v.x) + v.x * (1 - u.y * u.y - u.x * u.x)) := by grind
      rw [this, e5, e6]
      grind
    · show crU u v * (lo.y + τ * u.y - (hi.y - τ * v.y)) = 0
      have : crU u v * (lo.y + τ * u.y - (hi.y - τ * v.y)) = crU u v * (lo.y - hi.y) + (τ * crU u v) * (u.y + v.y) := by grind
      rw [this, htau, c.ly, c.hy]
      unfold crU
      have e5 : u.y * u.y = 1 - u.x * u.x := by grind
      have e6 : v.y * v.y = 1 - v.x * v.x := by grind
      have : (u.x * v.y - u.y * v.x) * (p.y - σ * h * u.x - (p.y - σ * h * v.x)) + σ * h * (1 - (u.x * v.x + u.y * v.y)) * (u.y + v.y) = σ * h * (u.y * (1 - v.y * v.y - v.x * v.x) + v.y * (1 - u.y * u.y - u.x * u.x)) := by grind
      rw [this, e5, e6]
      grind
/-- the four corners of a pointed join turn one way -/
theorem kite {p u v lo hi t : Pt} {h σ τ : Rat} (c : Cn p u v lo hi h σ) (T : Tp lo hi u v t τ) (hh : 0 < h) (ht : 0 < τ) (hu : u.x * u.x + u.y * u.y = 1) (hv : v.x * v.x + v.y * v.y = 1) :
    0 < σ * crossP p lo t ∧ 0 < σ * crossP lo t hi ∧ 0 < σ * crossP t hi p ∧ 0 < σ * crossP hi p lo := by
  have hn : crU u v ≠ 0 := fun z => by
    have := c.pos
    rw [z, Rat.mul_zero] at this
    exact Rat.lt_irrefl this
  have lt := cr_unit hu hv hn
  have ht' := Rat.mul_pos hh ht
  refine ⟨?_, ?_, ?_, ?_⟩
  · have : σ * crossP p lo t = (σ * σ) * (h * τ * (u.x * u.x + u.y * u.y)) := by
      unfold crossP
      rw [T.x1, T.y1, c.lx, c.ly]
      grind
    rw [this, c.sg, hu]
    grind
  · have : σ * crossP lo t hi = (σ * σ) * (h * τ * ((u.x * u.x + u.y * u.y) - (u.x * v.x + u.y * v.y))) := by
      unfold crossP
      rw [T.x1, T.y1, c.lx, c.ly, c.hx, c.hy]
      grind
    rw [this, c.sg, hu]
    have := Rat.mul_pos ht' (show 0 < 1 - (u.x * v.x + u.y * v.y) by grind)
    grind
  · have : σ * crossP t hi p = (σ * σ) * (h * τ * (v.x * v.x + v.y * v.y)) := by
      unfold crossP
      rw [T.x2, T.y2, c.hx, c.hy]
      grind
    rw [this, c.sg, hv]
    grind
  · have : σ * crossP hi p lo = σ * crossP p lo hi := by unfold crossP; grind
    rw [this, cn_tri c]
    have := Rat.mul_pos (Rat.mul_pos hh hh) c.pos
    grind
theorem kite_inConvex {p lo t hi q : Pt} {σ : Rat} (hσ : σ * σ = 1) (k : 0 < σ * crossP p lo t ∧ 0 < σ * crossP lo t hi ∧ 0 < σ * crossP t hi p ∧ 0 < σ * crossP hi p lo) : inConvex [p, lo, t, hi] q = true ↔ Hs [p, lo, t, hi] q := by
  obtain ⟨k1, k2, k3, k4⟩ := k
  have : σ = 1 ∨ σ = -1 := by
    have : (σ - 1) * (σ + 1) = 0 := by grind
    rcases Rat.mul_eq_zero.mp this with z | z
    · left; grind
    · right; grind
  rcases this with rfl | rfl
  · exact (quad_poly (by grind) (by grind) (by grind) (by grind)).inConvex
  · exact quad_inConvexR (by grind) (by grind) (by grind) (by grind)
theorem join_spec {a p b u v q : Pt} {L M : Rat} {r : Rl} (c1 : Pc a p u L) (c2 : Pc p b v M) (h : r.Ok) : someB (joinP a p b u v r) q = joinL a p b u v L r q := by
  have hu := c1.one
  have hv := c2.one
  have hh := h.pos
  unfold joinP joinL
  by_cases h0 : crU u v = 0
  · rw [if_pos h0, if_pos h0]
    unfold foldedP
    by_cases hj : r.joining = .round
    · rw [if_pos hj]
      obtain ⟨F, e, _, hF⟩ := ahead_spec (p := p) hu hh
      rw [e]
      apply bool_ext
      show belongsP F q = true ↔ _
      rw [hF, lies_pc c1]
      simp only [Bool.and_eq_true, decide_eq_true_eq]
      rw [law12 hh]
      have ex := c1.ex
      have ey := c1.ey
      have e1 : u.x * (q.x - p.x) + u.y * (q.y - p.y) = (u.x * (q.x - a.x) + u.y * (q.y - a.y)) - L := by
        have : u.x * (q.x - p.x) + u.y * (q.y - p.y) = (u.x * (q.x - a.x) + u.y * (q.y - a.y)) - L * (u.x * u.x + u.y * u.y) := by rw [ex, ey]; grind
        rw [this, hu]
        grind
      rw [e1, mul_le_l c1.pos]
      constructor
      · rintro ⟨k1, k2⟩
        exact ⟨⟨hj, by grind⟩, k1⟩
      · rintro ⟨⟨_, k1⟩, k2⟩
        exact ⟨k2, by grind⟩
    · rw [if_neg hj]
      simp [someB, hj]
  · rw [if_neg h0, if_neg h0]
    by_cases hs : r.side = (if 0 < crU u v then Side.left else Side.right)
    · rw [if_pos hs, if_pos hs]
      rfl
    · rw [if_neg hs, if_neg hs]
      have C := outer_cn (p := p) (h := r.half) h0
      have ux := unit_le hu
      have uy := unit_le (x := u.y) (y := u.x) (by grind)
      have vx := unit_le hv
      have vy := unit_le (x := v.y) (y := v.x) (by grind)
      by_cases hj : r.joining = .round
      · rw [if_pos hj, if_pos hj]
        apply bool_ext
        by_cases k : 0 < crU u v
        · rw [if_pos k]
          have e1 : (outerP p u v r.half).1 = addP p (r.half * u.y) (r.half * -u.x) := by
            rw [if_pos k] at C
            exact pt_ext (by rw [C.lx]; simp only [addP]; grind) (by rw [C.ly]; simp only [addP]; grind)
          have e2 : (outerP p u v r.half).2 = addP p (r.half * v.y) (r.half * -v.x) := by
            rw [if_pos k] at C
            exact pt_ext (by rw [C.hx]; simp only [addP]; grind) (by rw [C.hy]; simp only [addP]; grind)
          obtain ⟨G, e, hG⟩ := wedge_spec (p := p) (a := u.y) (b := -u.x) (c := v.y) (d := -v.x) hh (by unfold crU at k; grind) uy.1 uy.2 (by grind) (by grind) vy.1 vy.2 (by grind) (by grind)
          rw [e1, e2, e]
          show belongsP G q = true ↔ _
          rw [hG, sgn_pos.mpr k]
          simp only [Bool.and_eq_true, decide_eq_true_eq, Int.one_mul]
          rw [law12 hh, sgn_nn, sgn_np]
          exact And.comm
        · rw [if_neg k]
          have k' : crU u v < 0 := by grind
          have e1 : (outerP p u v r.half).1 = addP p (r.half * -u.y) (r.half * u.x) := by
            rw [if_neg k] at C
            exact pt_ext (by rw [C.lx]; simp only [addP]; grind) (by rw [C.ly]; simp only [addP]; grind)
          have e2 : (outerP p u v r.half).2 = addP p (r.half * -v.y) (r.half * v.x) := by
            rw [if_neg k] at C
            exact pt_ext (by rw [C.hx]; simp only [addP]; grind) (by rw [C.hy]; simp only [addP]; grind)
          obtain ⟨G, e, hG⟩ := wedge_spec (p := p) (a := -v.y) (b := v.x) (c := -u.y) (d := u.x) hh (by unfold crU at k'; grind) (by grind) (by grind) vx.1 vx.2 (by grind) (by grind) ux.1 ux.2
          rw [e1, e2, e]
          show belongsP G q = true ↔ _
          rw [hG, sgn_neg.mpr k']
          simp only [Bool.and_eq_true, decide_eq_true_eq]
          rw [law12 hh, ← sgn_nn, ← sgn_np]
          constructor
          · rintro ⟨k1, k2, k3⟩
            exact ⟨⟨by omega, by omega⟩, k1⟩
          · rintro ⟨⟨k1, k2⟩, k3⟩
            exact ⟨k3, by omega, by omega⟩
      · rw [if_neg hj, if_neg hj]
        have ct := cn_tri C
        have ctn : crossP p (outerP p u v r.half).1 (outerP p u v r.half).2 ≠ 0 := by
          rw [ct]
          intro z
          rcases Rat.mul_eq_zero.mp z with z | z
          · have := Rat.mul_pos hh hh
            grind
          · exact h0 z
        have pt : someB (shapeOf [p, (outerP p u v r.half).1, (outerP p u v r.half).2]) q = inConvex [p, (outerP p u v r.half).1, (outerP p u v r.half).2] q := by
          obtain ⟨S, e, _, _, hb⟩ := shape_spec (S := [p, (outerP p u v r.half).1, (outerP p u v r.half).2]) ⟨_, _, _, by simp, by simp, by simp, ctn⟩
          apply bool_ext
          rw [e]
          show belongsP S q = true ↔ _
          rw [hb, tri_inConvex ctn]
        unfold tipP
        by_cases hp : r.joining = .pointed
        · rw [if_pos hp]
          by_cases hm : r.half * r.half * (r.bound * r.bound) < sqd p (tipAt a p b u v r.half)
          · rw [if_pos hm, if_neg (fun z => by have := z.2; grind)]
            exact pt
          · rw [if_neg hm, if_pos ⟨hp, by grind⟩]
            unfold tipAt
            obtain ⟨τ, t0, T, _⟩ := tip_cn C hh c1 c2
            have K := kite C T hh t0 hu hv
            generalize meetP (outerP p u v r.half).1 (wayAdd (outerP p u v r.half).1 a p) (outerP p u v r.half).2 (wayAdd (outerP p u v r.half).2 p b) = t at *
            obtain ⟨S, e, _, _, hb⟩ := shape_spec (S := [p, (outerP p u v r.half).1, (outerP p u v r.half).2, t]) ⟨_, _, _, by simp, by simp, by simp, ctn⟩
            apply bool_ext
            rw [e]
            show belongsP S q = true ↔ _
            rw [hb, kite_inConvex C.sg K]
            exact ⟨fun k => k.sub fun x hx => by simp at *; grind, fun k => k.sub fun x hx => by simp at *; grind⟩
        · rw [if_neg hp, if_neg (fun z => hp z.1)]
          exact pt
end W15

/-! ## G11 -/
/-! the whole widened line against the law's test -/
namespace W15
@[irreducible] noncomputable def inWide (l : Ln) (r : Rl) (q : Pt) : Bool :=
  l.pieces.any (fun e => stripL e.1 e.2 (LOf e) r q) || (l.turns.any (fun e => joinL e.1.1 e.2.1 e.2.2 (uOf e.1) (uOf e.2) (LOf e.1) r q) ||
    (!l.closed && (endL (l.pieces.headD (⟨0, 0⟩, ⟨0, 0⟩)).1 (l.pieces.headD (⟨0, 0⟩, ⟨0, 0⟩)).2 (LOf (l.pieces.headD (⟨0, 0⟩, ⟨0, 0⟩))) false r q ||
      endL (l.pieces.getLastD (⟨0, 0⟩, ⟨0, 0⟩)).1 (l.pieces.getLastD (⟨0, 0⟩, ⟨0, 0⟩)).2 (LOf (l.pieces.getLastD (⟨0, 0⟩, ⟨0, 0⟩))) true r q)))
def Ln.pc (l : Ln) (k : Nat) : Pt × Pt := (l.pts.getD k ⟨0, 0⟩, l.pts.getD ((k + 1) % l.pts.length) ⟨0, 0⟩)
theorem zip_tail : ∀ (l : List Pt), l.zip l.tail = (List.range (l.length - 1)).map fun k => (l.getD k ⟨0, 0⟩, l.getD (k + 1) ⟨0, 0⟩)
  | [] => rfl
  | [x] => rfl
  | x :: y :: r => by
    have := zip_tail (y :: r)
    rw [List.tail_cons] at this ⊢
    rw [List.zip_cons_cons, this]
    show _ = (List.range (r.length + 1)).map _
    rw [List.range_succ_eq_map, List.map_cons, List.map_map]
    rfl
theorem pieces_eq {l : Ln} (h : 2 ≤ l.pts.length) : l.pieces = (List.range (if l.closed then l.pts.length else l.pts.length - 1)).map l.pc := by
  unfold Ln.pieces
  rw [zip_tail]
  have e : (List.range (l.pts.length - 1)).map (fun k => (l.pts.getD k ⟨0, 0⟩, l.pts.getD (k + 1) ⟨0, 0⟩)) = (List.range (l.pts.length - 1)).map l.pc := by
    apply List.map_congr_left
    intro k hk
    have hk := List.mem_range.mp hk
    unfold Ln.pc
    rw [Nat.mod_eq_of_lt (show k + 1 < l.pts.length by omega)]
  rw [e]
  cases l.closed with
  | false => simp
  | true =>
    simp only [if_true]
    have : l.pts.length = (l.pts.length - 1) + 1 := by omega
    conv => rhs; rw [this, List.range_succ, List.map_append]
    congr 1
    show [_] = [_]
    congr 1
    unfold Ln.pc
    rw [Prod.mk.injEq]
    constructor
    · rw [List.getLastD_eq_getLast?, List.getLast?_eq_getElem?, List.getD_eq_getElem?_getD]
    · rw [show l.pts.length - 1 + 1 = l.pts.length by omega, Nat.mod_self]
      cases l.pts <;> rfl
theorem pieces_len {l : Ln} (h : 2 ≤ l.pts.length) : l.pieces.length = if l.closed then l.pts.length else l.pts.length - 1 := by
  rw [pieces_eq h, List.length_map, List.length_range]
theorem piece_at {l : Ln} (h : 2 ≤ l.pts.length) {k : Nat} (hk : k < l.pieces.length) : l.pieces.getD k (⟨0, 0⟩, ⟨0, 0⟩) = l.pc k ∧ l.pc k ∈ l.pieces := by
  have hk' := hk
  rw [pieces_len h] at hk'
  have e : l.pieces[k]? = some (l.pc k) := by
    rw [pieces_eq h, List.getElem?_map, List.getElem?_range hk']
    rfl
  exact ⟨by rw [List.getD_eq_getElem?_getD, e]; rfl, List.mem_of_getElem? e⟩
theorem turns_at {l : Ln} (h : 2 ≤ l.pts.length) {t : (Pt × Pt) × (Pt × Pt)} (ht : t ∈ l.turns) : t.1 ∈ l.pieces ∧ t.2 ∈ l.pieces ∧ t.1.2 = t.2.1 := by
  unfold Ln.turns at ht
  have L := pieces_len h
  cases hc : l.closed with
  | true =>
    rw [hc] at ht L
    simp only [if_true] at ht L
    obtain ⟨k, hk, rfl⟩ := List.mem_map.mp ht
    have hk := List.mem_range.mp hk
    have hk2 : (k + 1) % l.pieces.length < l.pieces.length := Nat.mod_lt _ (by omega)
    obtain ⟨e1, m1⟩ := piece_at h hk
    obtain ⟨e2, m2⟩ := piece_at h hk2
    show l.pieces.getD k _ ∈ _ ∧ l.pieces.getD _ _ ∈ _ ∧ (l.pieces.getD k _).2 = (l.pieces.getD _ _).1
    rw [e1, e2]
    refine ⟨m1, m2, ?_⟩
    unfold Ln.pc
    rw [L]
  | false =>
    rw [hc] at ht L
    simp only [Bool.false_eq_true, if_false] at ht L
    obtain ⟨k, hk, rfl⟩ := List.mem_map.mp ht
    have hk := List.mem_range.mp hk
    obtain ⟨e1, m1⟩ := piece_at h (show k < l.pieces.length by omega)
    obtain ⟨e2, m2⟩ := piece_at h (show k + 1 < l.pieces.length by omega)
    show l.pieces.getD k _ ∈ _ ∧ l.pieces.getD _ _ ∈ _ ∧ (l.pieces.getD k _).2 = (l.pieces.getD _ _).1
    rw [e1, e2]
    refine ⟨m1, m2, ?_⟩
    unfold Ln.pc
    rw [Nat.mod_eq_of_lt (show k + 1 < l.pts.length by omega)]
theorem inArea_filter (q : Pt) : ∀ ps : List (Option (List Pt)), inArea (ps.filterMap id) q = ps.any fun o => someB o q
  | [] => by unfold inArea; rfl
  | none :: ps => by
    have := inArea_filter q ps
    rw [List.any_cons]
    show inArea (ps.filterMap id) q = _
    rw [this]
    rfl
  | some S :: ps => by
    have := inArea_filter q ps
    rw [List.any_cons, ← this]
    unfold inArea
    rfl
theorem any_congr {α : Type} {f g : α → Bool} : ∀ {l : List α}, (∀ x ∈ l, f x = g x) → l.any f = l.any g
  | [], _ => rfl
  | x :: l, h => by rw [List.any_cons, List.any_cons, h x List.mem_cons_self, any_congr fun y hy => h y (List.mem_cons_of_mem _ hy)]
theorem wide_spec {l : Ln} {r : Rl} (hl : l.Ok) (hr : r.Ok) (q : Pt) : inArea (widenedP l r) q = inWide l r q := by
  unfold widenedP partsP
  rw [inArea_filter, List.any_append, List.any_append, List.any_map, List.any_map, Bool.or_assoc]
  unfold inWide
  congr 1
  · refine any_congr fun e he => ?_
    have k := strip_spec (q := q) (pc_of (hl.ex e he)) hr
    rw [← stripE] at k
    rw [Function.comp_apply]
    exact k
  · congr 1
    · refine any_congr fun e he => ?_
      obtain ⟨m1, m2, lk⟩ := turns_at hl.two he
      have c1 := pc_of (hl.ex e.1 m1)
      have c2 := pc_of (hl.ex e.2 m2)
      rw [lk] at c1
      have k := join_spec (q := q) c1 c2 hr
      rw [← joinE] at k
      rw [Function.comp_apply]
      exact k
    · unfold endsP
      by_cases hc : l.closed = true
      · rw [if_pos (.inl hc), hc]
        rfl
      · have hf : l.closed = false := by simpa using hc
        by_cases he : r.ending = .cut
        · rw [if_pos (.inr he), hf]
          have z : ∀ a b L last, endL a b L last r q = false := fun a b L last => by
            unfold endL
            rw [if_pos (.inl he)]
          rw [z, z]
          rfl
        · rw [if_neg (fun z => z.elim hc he), hf]
          have hn : l.pieces ≠ [] := fun z => by
            have := pieces_len hl.two
            rw [z, hf] at this
            have := hl.two
            simp at *
            omega
          have m1 : l.pieces.headD (⟨0, 0⟩, ⟨0, 0⟩) ∈ l.pieces := by
            cases h : l.pieces with
            | nil => exact absurd h hn
            | cons x xs => exact List.mem_cons_self
          have m2 : l.pieces.getLastD (⟨0, 0⟩, ⟨0, 0⟩) ∈ l.pieces := by
            rw [List.getLastD_eq_getLast?, List.getLast?_eq_some_getLast hn]
            exact List.getLast_mem hn
          rw [List.any_cons, List.any_cons, List.any_nil, Bool.or_false, end_first (pc_of (hl.ex _ m1)) hr he, end_last (pc_of (hl.ex _ m2)) hr he]
          rfl
end W15

/-! ## DL1 -/
set_option maxRecDepth 100000
/-! a layer of data over the hand layer -/
namespace DL
open PySem PySem.Spec PyProof.Rows L2

/-- data -/
inductive D where
  | non | bl (b : Bool) | int (i : Int) | str (x : Str) | feed
  | tup (ds : List D) | lst (ds : List D)

mutual
inductive Rep (K : PySem.W.Frag) (fo : Option (Addr × Addr)) (G : Hp) : D → V → Prop
  | non : Rep K fo G .non .non
  | bl (b : Bool) : Rep K fo G (.bl b) (.bl b)
  | int (i : Int) : Rep K fo G (.int i) (.int i)
  | str (x : Str) : Rep K fo G (.str x) (.str x)
  | feed {fc : Addr × Addr} (h : fo = some fc) {ns : List Int} (c : G fc.2 = some (.lst (ns.map V.int))) : Rep K fo G .feed (.ref fc.1)
  | tup {a : Addr} {xs : List V} {ds : List D} (h : SqT K G a xs) (r : Reps K fo G ds xs) : Rep K fo G (.tup ds) (.ref a)
  | lst {a : Addr} {xs : List V} {ds : List D} (h : G a = some (.lst xs)) (r : Reps K fo G ds xs) : Rep K fo G (.lst ds) (.ref a)
inductive Reps (K : PySem.W.Frag) (fo : Option (Addr × Addr)) (G : Hp) : List D → List V → Prop
  | nil : Reps K fo G [] []
  | cons {d : D} {v : V} {ds : List D} {vs : List V} (h : Rep K fo G d v) (r : Reps K fo G ds vs) : Reps K fo G (d :: ds) (v :: vs)
end

theorem sqT_same {K : PySem.W.Frag} {H H' : Hp} {a : Addr} {xs : List V} (e : Same H H') (h : SqT K H a xs) : SqT K H' a xs := by
  rcases h with (h | ⟨o, h⟩) | h
  · exact .inl (.inl (e _ _ h))
  · exact .inl (.inr ⟨o, e _ _ h⟩)
  · exact .inr h

section
variable {K : PySem.W.Frag} {fo : Option (Addr × Addr)} {G G' : Hp}
mutual
theorem Rep.mono (e : Same G G') : ∀ {d : D} {v : V}, Rep K fo G d v → Rep K fo G' d v
  | _, _, .non => .non
  | _, _, .bl b => .bl b
  | _, _, .int i => .int i
  | _, _, .str x => .str x
  | _, _, .feed h c => .feed h (e _ _ c)
  | _, _, .tup h r => .tup (sqT_same e h) (Reps.mono e r)
  | _, _, .lst h r => .lst (e _ _ h) (Reps.mono e r)
theorem Reps.mono (e : Same G G') : ∀ {ds : List D} {vs : List V}, Reps K fo G ds vs → Reps K fo G' ds vs
  | _, _, .nil => .nil
  | _, _, .cons h r => .cons (Rep.mono e h) (Reps.mono e r)
end
theorem Reps.len : ∀ {ds : List D} {vs : List V}, Reps K fo G ds vs → vs.length = ds.length
  | _, _, .nil => rfl
  | _, _, .cons _ r => congrArg (· + 1) r.len
theorem Reps.get : ∀ {ds : List D} {vs : List V} {i : Nat} {d : D}, Reps K fo G ds vs → ds[i]? = some d → ∃ v, vs[i]? = some v ∧ Rep K fo G d v
  | _, _, _, _, .nil, e => by simp at e
  | _, _, 0, _, .cons h _, e => by simp at e; subst e; exact ⟨_, rfl, h⟩
  | _, _, i + 1, d, .cons _ r, e => by
    obtain ⟨v, h1, h2⟩ := Reps.get (i := i) (d := d) r (by simpa using e)
    exact ⟨v, by simpa using h1, h2⟩
theorem Reps.getV : ∀ {ds : List D} {vs : List V} {i : Nat} {v : V}, Reps K fo G ds vs → vs[i]? = some v → ∃ d, ds[i]? = some d ∧ Rep K fo G d v
  | _, _, _, _, .nil, e => by simp at e
  | _, _, 0, _, .cons h _, e => by simp at e; subst e; exact ⟨_, rfl, h⟩
  | _, _, i + 1, v, .cons _ r, e => by
    obtain ⟨d, h1, h2⟩ := Reps.getV (i := i) (v := v) r (by simpa using e)
    exact ⟨d, by simpa using h1, h2⟩
theorem Reps.append : ∀ {ds es : List D} {vs us : List V}, Reps K fo G ds vs → Reps K fo G es us → Reps K fo G (ds ++ es) (vs ++ us)
  | _, _, _, _, .nil, s => s
  | _, _, _, _, .cons h r, s => .cons h (r.append s)
theorem Reps.take : ∀ {ds : List D} {vs : List V} (n : Nat), Reps K fo G ds vs → Reps K fo G (ds.take n) (vs.take n)
  | _, _, 0, _ => .nil
  | _, _, _ + 1, .nil => .nil
  | _, _, n + 1, .cons h r => .cons h (r.take n)
theorem Reps.drop : ∀ {ds : List D} {vs : List V} (n : Nat), Reps K fo G ds vs → Reps K fo G (ds.drop n) (vs.drop n)
  | _, _, 0, r => r
  | _, _, _ + 1, .nil => .nil
  | _, _, n + 1, .cons _ r => Reps.drop n r
theorem Reps.rev {ds : List D} {vs : List V} (r : Reps K fo G ds vs) : Reps K fo G ds.reverse vs.reverse := by
  induction r using Reps.rec (motive_1 := fun _ _ _ => True) with
  | nil => exact .nil
  | cons h r _ ih => rw [List.reverse_cons, List.reverse_cons]; exact ih.append (.cons h .nil)
  | _ => trivial
theorem Reps.ints : ∀ {ns : List Int} {vs : List V}, Reps K fo G (ns.map D.int) vs → vs = ns.map V.int
  | [], _, .nil => rfl
  | n :: ns, _, .cons h r => by
    cases h
    rw [Reps.ints (ns := ns) r]
    rfl
theorem Reps.bls : ∀ {ns : List Bool} {vs : List V}, Reps K fo G (ns.map D.bl) vs → vs = ns.map V.bl
  | [], _, .nil => rfl
  | n :: ns, _, .cons h r => by
    cases h
    rw [Reps.bls (ns := ns) r]
    rfl
theorem Reps.dropLast {ds : List D} {vs : List V} (r : Reps K fo G ds vs) : Reps K fo G ds.dropLast vs.dropLast := by
  rw [List.dropLast_eq_take, List.dropLast_eq_take, r.len]
  exact r.take _
end

/-! ### steps of the two heaps: G what data may lean on, H the whole -/
structure Step (fo : Option (Addr × Addr)) (G H G' H' : Hp) : Prop where
  hh : ∀ p o, H p = some o → (∀ fc, fo = some fc → p ≠ fc.1) → H' p = some o
  gg : Same G G'
  sub : Same G' H'
  new : ∀ p, G p = none → H p ≠ none → G' p = none
  fd : ∀ fc, fo = some fc → G fc.1 = none → G' fc.1 = none

inductive Sl where
  | no | dat (d : D) | own (ds : List D)

structure En (K : PySem.W.Frag) (fo : Option (Addr × Addr)) (H0 : Hp) (δ : List Sl) (σ : L2.St) (G H : Hp) : Prop where
  sub : Same G H
  fd : ∀ fc, fo = some fc → G fc.1 = none
  len : σ.length = δ.length
  dat : ∀ (i : Nat) (d : D), δ[i]? = some (Sl.dat d) → ∃ v, σ[i]? = some (some v) ∧ Rep K fo G d v
  own : ∀ (i : Nat) (ds : List D), δ[i]? = some (Sl.own ds) → ∃ p xs, σ[i]? = some (some (V.ref p)) ∧ H p = some (HO.lst xs) ∧ G p = none ∧ H0 p = none ∧ (∀ fc, fo = some fc → p ≠ fc.1 ∧ p ≠ fc.2) ∧ Reps K fo G ds xs
  dis : ∀ (i j : Nat) (ds es : List D) (p : Addr), i ≠ j → δ[i]? = some (Sl.own ds) → δ[j]? = some (Sl.own es) → σ[i]? = some (some (V.ref p)) → σ[j]? ≠ some (some (V.ref p))

/-- the law's feed: its dict at the address fo, t draws so far -/
def Feed (fo : Option (Addr × Addr)) (t : Nat) (H : Hp) : Prop := ∀ fc, fo = some fc → ∃ (ns : List Int) (a l : Int),
  H fc.1 = some (.dK [(.inr "cells", .ref fc.2), (.inr "at", .int a), (.inr "left", .int l), (.inr "turn", .int (t : Int))]) ∧ H fc.2 = some (.lst (ns.map V.int)) ∧ ns.length ≤ 63 ∧ 0 ≤ a ∧ 0 ≤ l

section
variable {K : PySem.W.Frag} {fo : Option (Addr × Addr)} {G H G' H' G2 H2 H0 : Hp} {δ : List Sl} {σ : L2.St} {t : Nat}
theorem Step.refl (h : Same G H) : Step fo G H G H := ⟨fun _ _ e _ => e, Same.refl _, h, fun _ h _ => h, fun _ _ h => h⟩
theorem Feed.ne1 (F : Feed fo t H) {fc : Addr × Addr} (e : fo = some fc) : H fc.1 ≠ none := by
  obtain ⟨ns, a, l, h, _⟩ := F fc e
  rw [h]
  simp
theorem Feed.ne2 (F : Feed fo t H) {fc : Addr × Addr} (e : fo = some fc) : H fc.2 ≠ none := by
  obtain ⟨ns, a, l, _, h, _⟩ := F fc e
  rw [h]
  simp
theorem Step.trans (a : Step fo G H G' H') (b : Step fo G' H' G2 H2) : Step fo G H G2 H2 := by
  refine ⟨fun p o h e => b.hh p o (a.hh p o h e) e, a.gg.trans b.gg, b.sub, fun p h1 h2 => ?_, fun f e h => b.fd f e (a.fd f e h)⟩
  by_cases e : ∀ fc, fo = some fc → p ≠ fc.1
  · have h3 := a.new p h1 h2
    cases q : H p with
    | none => exact absurd q h2
    | some o => exact b.new p h3 (by rw [a.hh p o q e]; simp)
  · have ⟨fc, e⟩ := Classical.not_forall.mp e
    have ⟨e1, e2⟩ := Classical.not_imp.mp e
    have e3 : p = fc.1 := Classical.not_not.mp e2
    subst e3
    exact b.fd fc e1 (a.fd fc e1 h1)
theorem En.step (E : En K fo H0 δ σ G H) (s : Step fo G H G' H') : En K fo H0 δ σ G' H' := by
  refine ⟨s.sub, fun f e => s.fd f e (E.fd f e), E.len, fun i d h => ?_, fun i ds h => ?_, E.dis⟩
  · obtain ⟨v, h1, h2⟩ := E.dat i d h
    exact ⟨v, h1, h2.mono s.gg⟩
  · obtain ⟨p, xs, h1, h2, h3, h4, h5, h6⟩ := E.own i ds h
    exact ⟨p, xs, h1, s.hh p _ h2 (fun fc e => (h5 fc e).1), s.new p h3 (by rw [h2]; simp), h4, h5, h6.mono s.gg⟩
/-- a new object, laid, and data may lean on it -/
theorem Step.laid {p : Addr} {o : HO} (h : Same G H) (hp : H p = none) (F : Feed fo t H) : Step fo G H (upd G p o) (upd H p o) := by
  have gp : G p = none := h.free hp
  refine ⟨fun q u e _ => ?_, fun q u e => ?_, fun q u e => ?_, fun q h1 h2 => ?_, fun f e h1 => ?_⟩
  · rw [upd_ne (ne_of_none e hp)]; exact e
  · rw [upd_ne (ne_of_none e gp)]; exact e
  · by_cases hq : q = p
    · subst hq; rw [upd_same] at e; cases e; exact upd_same
    · rw [upd_ne hq] at e; rw [upd_ne hq]; exact h _ _ e
  · have : q ≠ p := fun z => h2 (z ▸ hp)
    rw [upd_ne this]; exact h1
  · have : f.1 ≠ p := fun z => F.ne1 e (z ▸ hp)
    rw [upd_ne this]; exact h1
/-- a new object that no data lean on -/
theorem Step.hid {p : Addr} {o : HO} (h : Same G H) (hp : H p = none) : Step fo G H G (upd H p o) := by
  refine ⟨fun q u e _ => ?_, Same.refl _, fun q u e => ?_, fun q h1 h2 => h1, fun f e h1 => h1⟩
  · rw [upd_ne (ne_of_none e hp)]; exact e
  · rw [upd_ne (ne_of_none e (h.free hp))]; exact h _ _ e
theorem Feed.laid {p : Addr} {o : HO} (F : Feed fo t H) (hp : H p = none) : Feed fo t (upd H p o) := fun f e => by
  obtain ⟨ns, a, l, h1, h2, h3⟩ := F f e
  exact ⟨ns, a, l, by rw [upd_ne (ne_of_none h1 hp)]; exact h1, by rw [upd_ne (ne_of_none h2 hp)]; exact h2, h3⟩
/-- an own list is changed -/
theorem Feed.upd {p : Addr} {o : HO} (F : Feed fo t H) (h : ∀ fc, fo = some fc → p ≠ fc.1 ∧ p ≠ fc.2) : Feed fo t (L2.upd H p o) := fun f e => by
  obtain ⟨ns, a, l, h1, h2, h3⟩ := F f e
  obtain ⟨q1, q2⟩ := h f e
  exact ⟨ns, a, l, by rw [upd_ne (Ne.symm q1)]; exact h1, by rw [upd_ne (Ne.symm q2)]; exact h2, h3⟩
end
end DL

/-! ## DL2 -/
set_option maxRecDepth 100000
/-! expressions over data -/
namespace DL
open PySem PySem.Spec PyProof.Rows L2

abbrev Fo := Option (Addr × Addr)
abbrev KD := D → Nat → Prop
abbrev WE := List Sl → Nat → KD → Prop
abbrev WT := List Sl → Nat → (Bool → Nat → Prop) → Prop
abbrev WA := List Sl → Nat → (List D → Nat → Prop) → Prop

def Up (K : PySem.W.Frag) (fo : Fo) (G H : Hp) (Q : VK) : KD := fun d t' => ∀ v G' H', Step fo G H G' H' → Feed fo t' H' → Rep K fo G' d v → Q v H'
def UpT (fo : Fo) (G H : Hp) (Q : Bool → Hp → Prop) : Bool → Nat → Prop := fun b t' => ∀ G' H', Step fo G H G' H' → Feed fo t' H' → Q b H'
def UpA (K : PySem.W.Frag) (fo : Fo) (G H : Hp) (Q : List V → Hp → Prop) : List D → Nat → Prop := fun ds t' => ∀ vs G' H', Step fo G H G' H' → Feed fo t' H' → Reps K fo G' ds vs → Q vs H'

structure Sn (K : PySem.W.Frag) (te : TE) (w : WE) : Prop where
  mono : ∀ δ t (P P' : KD), (∀ d t, P d t → P' d t) → w δ t P → w δ t P'
  run : ∀ fo H0 δ t σ G H Q, En K fo H0 δ σ G H → Feed fo t H → w δ t (Up K fo G H Q) → te σ H Q
structure SnT (K : PySem.W.Frag) (tt : TT) (w : WT) : Prop where
  mono : ∀ δ t (P P' : Bool → Nat → Prop), (∀ d t, P d t → P' d t) → w δ t P → w δ t P'
  run : ∀ fo H0 δ t σ G H Q, En K fo H0 δ σ G H → Feed fo t H → w δ t (UpT fo G H Q) → tt σ H Q
structure SnA (K : PySem.W.Frag) (ta : TA) (w : WA) : Prop where
  mono : ∀ δ t (P P' : List D → Nat → Prop), (∀ d t, P d t → P' d t) → w δ t P → w δ t P'
  run : ∀ fo H0 δ t σ G H Q, En K fo H0 δ σ G H → Feed fo t H → w δ t (UpA K fo G H Q) → ta σ H Q

/-- operations on data -/
abbrev O1 := D → Nat → KD → Prop
abbrev O2 := D → D → Nat → KD → Prop
structure SnR (K : PySem.W.Frag) (r : R2) (rho : O2) : Prop where
  mono : ∀ x y t (P P' : KD), (∀ d t, P d t → P' d t) → rho x y t P → rho x y t P'
  run : ∀ fo x y t u v G H Q, Rep K fo G x u → Rep K fo G y v → Same G H → Feed fo t H → rho x y t (Up K fo G H Q) → r u v H Q
structure SnU (K : PySem.W.Frag) (r : V → Hp → VK → Prop) (rho : O1) : Prop where
  mono : ∀ x t (P P' : KD), (∀ d t, P d t → P' d t) → rho x t P → rho x t P'
  run : ∀ fo x t u G H Q, Rep K fo G x u → Same G H → Feed fo t H → rho x t (Up K fo G H Q) → r u H Q
abbrev OC := List D → Nat → KD → Prop
structure SnC (K : PySem.W.Frag) (r : List V → Hp → VK → Prop) (rho : OC) : Prop where
  mono : ∀ x t (P P' : KD), (∀ d t, P d t → P' d t) → rho x t P → rho x t P'
  run : ∀ fo x t u G H Q, Reps K fo G x u → Same G H → Feed fo t H → rho x t (Up K fo G H Q) → r u H Q

section
variable {K : PySem.W.Frag} {fo : Fo} {G H G' H' : Hp} {Q : VK} {d : D} {t t' : Nat}
theorem Up.step (s : Step fo G H G' H') (u : Up K fo G H Q d t) : Up K fo G' H' Q d t := fun v G2 H2 s2 f r => u v G2 H2 (s.trans s2) f r
theorem UpT.step {Q : Bool → Hp → Prop} {b : Bool} (s : Step fo G H G' H') (u : UpT fo G H Q b t) : UpT fo G' H' Q b t := fun G2 H2 s2 f => u G2 H2 (s.trans s2) f
theorem UpA.step {Q : List V → Hp → Prop} {b : List D} (s : Step fo G H G' H') (u : UpA K fo G H Q b t) : UpA K fo G' H' Q b t := fun v G2 H2 s2 f r => u v G2 H2 (s.trans s2) f r
/-- a value that is there already -/
theorem Up.at (u : Up K fo G H Q d t) {v : V} (h : Same G H) (f : Feed fo t H) (r : Rep K fo G d v) : Q v H := u v G H (Step.refl h) f r
/-- a new tuple, a new list -/
theorem Up.tup {ds : List D} {xs : List V} {p : Addr} (u : Up K fo G H Q (.tup ds) t) (h : Same G H) (f : Feed fo t H) (r : Reps K fo G ds xs) (hp : H p = none) : Q (.ref p) (upd H p (.tup xs)) := by
  have s : Step fo G H (L2.upd G p (.tup xs)) (L2.upd H p (.tup xs)) := Step.laid h hp f
  exact u _ _ _ s (f.laid hp) (.tup (.inl (.inl upd_same)) (r.mono s.gg))
theorem Up.lst {ds : List D} {xs : List V} {p : Addr} (u : Up K fo G H Q (.lst ds) t) (h : Same G H) (f : Feed fo t H) (r : Reps K fo G ds xs) (hp : H p = none) : Q (.ref p) (upd H p (.lst xs)) := by
  have s : Step fo G H (L2.upd G p (.lst xs)) (L2.upd H p (.lst xs)) := Step.laid h hp f
  exact u _ _ _ s (f.laid hp) (.lst upd_same (r.mono s.gg))
end

/-! ### names, constants -/
def slD (o : Option Sl) (Q : D → Prop) : Prop := match o with
  | some (.dat d) => Q d
  | _ => False
def slO (o : Option Sl) (Q : List D → Prop) : Prop := match o with
  | some (.own ds) => Q ds
  | _ => False
theorem slD_of {o : Option Sl} {Q : D → Prop} (h : slD o Q) : ∃ d, o = some (.dat d) ∧ Q d := by
  cases o with
  | none => exact h.elim
  | some s => cases s with
    | dat d => exact ⟨d, rfl, h⟩
    | no => exact h.elim
    | own _ => exact h.elim
theorem slO_of {o : Option Sl} {Q : List D → Prop} (h : slO o Q) : ∃ d, o = some (.own d) ∧ Q d := by
  cases o with
  | none => exact h.elim
  | some s => cases s with
    | own d => exact ⟨d, rfl, h⟩
    | no => exact h.elim
    | dat _ => exact h.elim
theorem slD_mono {o : Option Sl} {Q Q' : D → Prop} (k : ∀ d, Q d → Q' d) (h : slD o Q) : slD o Q' := by
  obtain ⟨d, e, q⟩ := slD_of h
  subst e
  exact k d q
theorem slO_mono {o : Option Sl} {Q Q' : List D → Prop} (k : ∀ d, Q d → Q' d) (h : slO o Q) : slO o Q' := by
  obtain ⟨d, e, q⟩ := slO_of h
  subst e
  exact k d q
def wVar (i : Nat) : WE := fun δ t Q => slD δ[i]? fun d => Q d t
def wC (d : D) : WE := fun _ t Q => Q d t
section
variable {K : PySem.W.Frag}
theorem sn_var {i : Nat} : Sn K (tVar i) (wVar i) := by
  refine ⟨fun δ t P P' k h => slD_mono (fun d q => k d t q) h, fun fo H0 δ t σ G H Q E F h => ?_⟩
  obtain ⟨d, e, q⟩ := slD_of h
  obtain ⟨v, h1, h2⟩ := E.dat i d e
  exact ⟨v, h1, q.at E.sub F h2⟩
theorem sn_int {i : Int} : Sn K (tC (.int i)) (wC (.int i)) := ⟨fun _ _ _ _ k h => k _ _ h, fun _ _ _ _ _ _ _ _ E F h => h.at E.sub F (.int i)⟩
theorem sn_bl {i : Bool} : Sn K (tC (.bl i)) (wC (.bl i)) := ⟨fun _ _ _ _ k h => k _ _ h, fun _ _ _ _ _ _ _ _ E F h => h.at E.sub F (.bl i)⟩
theorem sn_str {i : Str} : Sn K (tC (.str i)) (wC (.str i)) := ⟨fun _ _ _ _ k h => k _ _ h, fun _ _ _ _ _ _ _ _ E F h => h.at E.sub F (.str i)⟩
theorem sn_non : Sn K (tC .non) (wC .non) := ⟨fun _ _ _ _ k h => k _ _ h, fun _ _ _ _ _ _ _ _ E F h => h.at E.sub F .non⟩
theorem sn_glob {v : V} {d : D} (r : ∀ fo G, Rep K fo G d v) : Sn K (tC v) (wC d) := ⟨fun _ _ _ _ k h => k _ _ h, fun _ _ _ _ _ _ _ _ E F h => h.at E.sub F (r _ _)⟩

/-! ### operators -/
def wOp (rho : O2) (wa wb : WE) : WE := fun δ t Q => wa δ t fun x t1 => wb δ t1 fun y t2 => rho x y t2 Q
def wUn (rho : O1) (wa : WE) : WE := fun δ t Q => wa δ t fun x t1 => rho x t1 Q
variable {ta tb : TE} {wa wb : WE} {r : R2} {rho : O2}
theorem sn_op (hr : SnR K r rho) (ha : Sn K ta wa) (hb : Sn K tb wb) : Sn K (tOp r ta tb) (wOp rho wa wb) := by
  refine ⟨fun δ t P P' k h => ha.mono _ _ _ _ (fun x t1 h1 => hb.mono _ _ _ _ (fun y t2 h2 => hr.mono _ _ _ _ _ k h2) h1) h, fun fo H0 δ t σ G H Q E F h => ?_⟩
  refine ha.run fo H0 δ t σ G H _ E F (ha.mono _ _ _ _ (fun x t1 h1 u G1 H1 s1 F1 r1 => ?_) h)
  refine hb.run fo H0 δ t1 σ G1 H1 _ (E.step s1) F1 (hb.mono _ _ _ _ (fun y t2 h2 v G2 H2 s2 F2 r2 => ?_) h1)
  exact hr.run fo x y t2 u v G2 H2 Q (r1.mono s2.gg) r2 s2.sub F2 (hr.mono _ _ _ _ _ (fun d t q => q.step (s1.trans s2)) h2)
theorem sn_un {r : V → Hp → VK → Prop} {rho : O1} (hr : SnU K r rho) (ha : Sn K ta wa) : Sn K (tUn r ta) (wUn rho wa) := by
  refine ⟨fun δ t P P' k h => ha.mono _ _ _ _ (fun x t1 h1 => hr.mono _ _ _ _ k h1) h, fun fo H0 δ t σ G H Q E F h => ?_⟩
  refine ha.run fo H0 δ t σ G H _ E F (ha.mono _ _ _ _ (fun x t1 h1 u G1 H1 s1 F1 r1 => ?_) h)
  exact hr.run fo x t1 u G1 H1 Q r1 s1.sub F1 (hr.mono _ _ _ _ (fun d t q => q.step s1) h1)
theorem SnR.or {r' : R2} (h : SnR K r rho) : SnR K (fun x y H Q => r x y H Q ∨ r' x y H Q) rho := ⟨h.mono, fun fo x y t u v G H Q a b c d e => .inl (h.run fo x y t u v G H Q a b c d e)⟩
theorem SnR.or' {r' : R2} (h : SnR K r' rho) : SnR K (fun x y H Q => r x y H Q ∨ r' x y H Q) rho := ⟨h.mono, fun fo x y t u v G H Q a b c d e => .inr (h.run fo x y t u v G H Q a b c d e)⟩

/-- two ints -/
def rhoI (g : Int → Int → D) : O2
  | .int i, .int j, t, Q => Q (g i j) t
  | _, _, _, _ => False
def rhoIC (C : Int → Int → Prop) (g : Int → Int → D) : O2
  | .int i, .int j, t, Q => C i j ∧ Q (g i j) t
  | _, _, _, _ => False
theorem rhoI_of {g : Int → Int → D} {x y : D} {t : Nat} {Q : KD} (h : rhoI g x y t Q) : ∃ i j, x = .int i ∧ y = .int j ∧ Q (g i j) t := by
  cases x <;> try exact h.elim
  cases y <;> try exact h.elim
  exact ⟨_, _, rfl, rfl, h⟩
theorem rhoIC_of {C : Int → Int → Prop} {g : Int → Int → D} {x y : D} {t : Nat} {Q : KD} (h : rhoIC C g x y t Q) : ∃ i j, x = .int i ∧ y = .int j ∧ C i j ∧ Q (g i j) t := by
  cases x <;> try exact h.elim
  cases y <;> try exact h.elim
  exact ⟨_, _, rfl, rfl, h⟩
theorem snr_I {g : Int → Int → Int} : SnR K (rI0 fun i j => .int (g i j)) (rhoI fun i j => .int (g i j)) := by
  refine ⟨fun x y t P P' k h => ?_, fun fo x y t u v G H Q rx ry s F h => ?_⟩
  · obtain ⟨i, j, rfl, rfl, q⟩ := rhoI_of h
    exact k _ _ q
  · obtain ⟨i, j, rfl, rfl, q⟩ := rhoI_of h
    cases rx
    cases ry
    exact ⟨i, j, rfl, rfl, q.at s F (.int _)⟩
theorem snr_B {g : Int → Int → Bool} : SnR K (rI0 fun i j => .bl (g i j)) (rhoI fun i j => .bl (g i j)) := by
  refine ⟨fun x y t P P' k h => ?_, fun fo x y t u v G H Q rx ry s F h => ?_⟩
  · obtain ⟨i, j, rfl, rfl, q⟩ := rhoI_of h
    exact k _ _ q
  · obtain ⟨i, j, rfl, rfl, q⟩ := rhoI_of h
    cases rx
    cases ry
    exact ⟨i, j, rfl, rfl, q.at s F (.bl _)⟩
theorem snr_IC {C : Int → Int → Prop} {g : Int → Int → Int} : SnR K (rI C fun i j => .int (g i j)) (rhoIC C fun i j => .int (g i j)) := by
  refine ⟨fun x y t P P' k h => ?_, fun fo x y t u v G H Q rx ry s F h => ?_⟩
  · obtain ⟨i, j, rfl, rfl, c, q⟩ := rhoIC_of h
    exact ⟨c, k _ _ q⟩
  · obtain ⟨i, j, rfl, rfl, c, q⟩ := rhoIC_of h
    cases rx
    cases ry
    exact ⟨i, j, rfl, rfl, c, q.at s F (.int _)⟩

/-! ### + of ints, lists, tuples -/
def szOk (n : Nat) (P : Prop) : Prop := match Nat.ble n 1000 with
  | true => P
  | false => False
theorem szOk_of {n : Nat} {P : Prop} (h : szOk n P) : n ≤ 1000 ∧ P := by
  unfold szOk at h
  split at h
  · rename_i e
    exact ⟨Nat.le_of_ble_eq_true e, h⟩
  · exact h.elim
theorem szOk_mk {n : Nat} {P : Prop} (h : n ≤ 1000) (p : P) : szOk n P := by
  unfold szOk
  rw [Nat.ble_eq_true_of_le h]
  exact p
theorem szOk_mono {n : Nat} {P P' : Prop} (k : P → P') (h : szOk n P) : szOk n P' := by
  obtain ⟨a, b⟩ := szOk_of h
  exact szOk_mk a (k b)
theorem sz1000 {n : Nat} (h : n ≤ 1000) : n ≤ sizeLine := Nat.le_trans h (by decide)
def rhoAdd : O2
  | .int i, .int j, t, Q => Q (.int (i + j)) t
  | .tup xs, .tup ys, t, Q => szOk (xs.length + ys.length) (Q (.tup (xs ++ ys)) t)
  | .lst xs, .lst ys, t, Q => szOk (xs.length + ys.length) (Q (.lst (xs ++ ys)) t)
  | _, _, _, _ => False
theorem rhoAdd_of {x y : D} {t : Nat} {Q : KD} (h : rhoAdd x y t Q) : (∃ i j, x = .int i ∧ y = .int j ∧ Q (.int (i + j)) t) ∨ (∃ xs ys, x = .tup xs ∧ y = .tup ys ∧ xs.length + ys.length ≤ 1000 ∧ Q (.tup (xs ++ ys)) t) ∨
    (∃ xs ys, x = .lst xs ∧ y = .lst ys ∧ xs.length + ys.length ≤ 1000 ∧ Q (.lst (xs ++ ys)) t) := by
  cases x with
  | int i => cases y <;> first | exact h.elim | exact .inl ⟨_, _, rfl, rfl, h⟩
  | tup xs => cases y <;> first | exact h.elim | exact .inr (.inl ⟨_, _, rfl, rfl, szOk_of h⟩)
  | lst xs => cases y <;> first | exact h.elim | exact .inr (.inr ⟨_, _, rfl, rfl, szOk_of h⟩)
  | _ => exact h.elim
/-- .. the rule of the layer below -/
def rAddA (K : PySem.W.Frag) : R2 := fun x y H Q => (rI0 (fun i j => .int (i + j)) x y H Q) ∨ (rCat x y H Q ∨ rCatA K x y H Q)
theorem op_addA {X : Cx} : OpR X (binaryOp .Add) (rAddA X.K) := op_add.or (op_cat.or op_catA)
theorem snr_add : SnR K (rAddA K) rhoAdd := by
  refine ⟨fun x y t P P' k h => ?_, fun fo x y t u v G H Q rx ry s F h => ?_⟩
  · rcases rhoAdd_of h with ⟨i, j, rfl, rfl, q⟩ | ⟨xs, ys, rfl, rfl, c, q⟩ | ⟨xs, ys, rfl, rfl, c, q⟩
    · exact k _ _ q
    · exact szOk_mk c (k _ _ q)
    · exact szOk_mk c (k _ _ q)
  · rcases rhoAdd_of h with ⟨i, j, rfl, rfl, q⟩ | ⟨xs, ys, rfl, rfl, c, q⟩ | ⟨xs, ys, rfl, rfl, c, q⟩
    · cases rx
      cases ry
      exact .inl ⟨i, j, rfl, rfl, q.at s F (.int _)⟩
    · cases rx with
      | @tup a us _ ha ra =>
      cases ry with
      | @tup b ws _ hb rb =>
      refine .inr (.inr ⟨a, b, us, ws, rfl, rfl, sqT_same s ha, sqT_same s hb, sz1000 (by rw [ra.len, rb.len]; exact c), fun e => ?_, fun e1 e2 => ?_, fun e1 e2 p hp => ?_⟩)
      · subst e
        cases ra
        exact q.at s F (.tup hb rb)
      · subst e2
        cases rb
        rw [List.append_nil] at q
        exact q.at s F (.tup ha ra)
      · exact q.tup s F (ra.append rb) hp
    · cases rx with
      | @lst a us _ ha ra =>
      cases ry with
      | @lst b ws _ hb rb =>
      exact .inr (.inl ⟨a, b, us, ws, rfl, rfl, s _ _ ha, s _ _ hb, sz1000 (by rw [ra.len, rb.len]; exact c), fun p hp => q.lst s F (ra.append rb) hp⟩)

/-! ### ==, != -/
def isN : D → Bool
  | .non => true
  | _ => false
mutual
def pyOf : D → Option PyData
  | .non => some .none
  | .bl b => some (.bool b)
  | .int i => some (.int i)
  | .str x => some (.str x)
  | .feed => none
  | .tup ds => (pysOf ds).map .tuple
  | .lst ds => (pysOf ds).map .list
def pysOf : List D → Option (List PyData)
  | [] => some []
  | d :: ds => match pyOf d, pysOf ds with
    | some p, some ps => some (p :: ps)
    | _, _ => none
end
mutual
theorem Rep.dp {fo : Fo} {G H : Hp} (s : Same G H) : ∀ {d : D} {v : V} {p : PyData}, Rep K fo G d v → pyOf d = some p → Dp K H v p
  | _, _, _, .non, e => by simp [pyOf] at e; subst e; exact .non
  | _, _, _, .bl b, e => by simp [pyOf] at e; subst e; exact .bl b
  | _, _, _, .int i, e => by simp [pyOf] at e; subst e; exact .int i
  | _, _, _, .str x, e => by simp [pyOf] at e; subst e; exact .str x
  | _, _, _, .feed _ _, e => by simp [pyOf] at e
  | _, _, _, .tup h r, e => by
    unfold pyOf at e
    obtain ⟨ps, e1, e2⟩ := Option.map_eq_some_iff.mp e
    subst e2
    exact .tup (sqT_same s h) (Reps.dp s r e1)
  | _, _, _, .lst h r, e => by
    unfold pyOf at e
    obtain ⟨ps, e1, e2⟩ := Option.map_eq_some_iff.mp e
    subst e2
    exact .lst (SqL.of (s _ _ h)) (Reps.dp s r e1)
theorem Reps.dp {fo : Fo} {G H : Hp} (s : Same G H) : ∀ {ds : List D} {vs : List V} {ps : List PyData}, Reps K fo G ds vs → pysOf ds = some ps → DpAll K H vs ps
  | _, _, _, .nil, e => by simp [pysOf] at e; subst e; exact .nil
  | _, _, _, .cons (d := d) (ds := ds) h r, e => by
    unfold pysOf at e
    cases e1 : pyOf d with
    | none => rw [e1] at e; cases e
    | some p => 
      cases e2 : pysOf ds with
      | none => rw [e1, e2] at e; cases e
      | some ps' =>
        rw [e1, e2] at e
        cases e
        exact .cons (Rep.dp s h e1) (Reps.dp s r e2)
end
/-- tuples of ints -/
def intsOf : List D → Option (List Int)
  | [] => some []
  | .int i :: r => (intsOf r).map (i :: ·)
  | _ => none
theorem intsOf_map : ∀ (ds : List D) (ns : List Int), intsOf ds = some ns → ds = ns.map D.int
  | [], ns, e => by simp [intsOf] at e; subst e; rfl
  | .int i :: r, ns, e => by
    unfold intsOf at e
    obtain ⟨ms, e1, e2⟩ := Option.map_eq_some_iff.mp e
    subst e2
    rw [intsOf_map r ms e1]
    rfl
  | .non :: _, _, e => by simp [intsOf] at e
  | .bl _ :: _, _, e => by simp [intsOf] at e
  | .str _ :: _, _, e => by simp [intsOf] at e
  | .feed :: _, _, e => by simp [intsOf] at e
  | .tup _ :: _, _, e => by simp [intsOf] at e
  | .lst _ :: _, _, e => by simp [intsOf] at e
theorem pysOf_ints : ∀ ns : List Int, pysOf (ns.map D.int) = some (ns.map PyData.int)
  | [] => rfl
  | n :: ns => by
    show (match pyOf (.int n), pysOf (ns.map D.int) with | some p, some ps => some (p :: ps) | _, _ => none) = _
    rw [pysOf_ints ns]
    rfl
theorem eqvAll_ints : ∀ ns ms : List Int, PyData.eqvAll (ns.map PyData.int) (ms.map PyData.int) = decide (ns = ms)
  | [], [] => by simp [PyData.eqvAll]
  | [], _ :: _ => by simp [PyData.eqvAll]
  | _ :: _, [] => by simp [PyData.eqvAll]
  | n :: ns, m :: ms => by
    rw [List.map_cons, List.map_cons, PyData.eqvAll, eqvAll_ints ns ms, PyData.eqv]
    by_cases h : n = m <;> simp [h]
theorem shaped_ints (ns : List Int) : SeqAt.shaped (.tuple (ns.map PyData.int)) = true := by
  have h1 : ∀ ns : List Int, PyData.canLayAll0 (ns.map PyData.int) = true := by
    intro ns
    induction ns with
    | nil => rfl
    | cons n ns ih => simp [PyData.canLayAll0, PyData.canLay0, ih]
  have h2 : (PyData.tuple (ns.map PyData.int)).depth ≤ 64 := by
    have : ∀ ns : List Int, PyData.depthAll (ns.map PyData.int) ≤ 63 := by
      intro ns
      induction ns with
      | nil => simp [PyData.depthAll]
      | cons n ns ih => simp [PyData.depthAll, PyData.depth]; omega
    have := this ns
    simp [PyData.depth]
    omega
  unfold SeqAt.shaped
  rw [show (PyData.tuple (ns.map PyData.int)).canLay0 = true by simpa [PyData.canLay0] using h1 ns]
  simpa using h2
end
end DL

/-! ## DL3 -/
set_option maxRecDepth 100000
/-! expressions over data: comparisons, tests, displays, subscripts, built-ins, calls -/
namespace DL
open PySem PySem.Spec PyProof.Rows L2

section
variable {K : PySem.W.Frag} {fo : Fo} {G H : Hp}
/-! ### ==, != -/
def eqTT (g : Bool → Bool) (xs ys : List D) (t : Nat) (Q : KD) : Prop := match intsOf xs, intsOf ys with
  | some ns, some ms => Q (.bl (g (decide (ns = ms)))) t
  | _, _ => False
theorem eqTT_of {g : Bool → Bool} {xs ys : List D} {t : Nat} {Q : KD} (h : eqTT g xs ys t Q) : ∃ ns ms, intsOf xs = some ns ∧ intsOf ys = some ms ∧ Q (.bl (g (decide (ns = ms)))) t := by
  unfold eqTT at h
  split at h
  · rename_i ns ms e1 e2
    exact ⟨ns, ms, e1, e2, h⟩
  · exact h.elim
def rhoEqG (g : Bool → Bool) : O2
  | .int i, .int j, t, Q => Q (.bl (g (decide (i = j)))) t
  | .str i, .str j, t, Q => Q (.bl (g (decide (i = j)))) t
  | .bl i, .bl j, t, Q => Q (.bl (g (decide (i = j)))) t
  | .tup xs, .tup ys, t, Q => eqTT g xs ys t Q
  | _, _, _, _ => False
abbrev rhoEq : O2 := rhoEqG fun b => b
abbrev rhoNe : O2 := rhoEqG fun b => !b
inductive EqOf (g : Bool → Bool) (t : Nat) (Q : KD) : D → D → Prop
  | int (i j : Int) (q : Q (.bl (g (decide (i = j)))) t) : EqOf g t Q (.int i) (.int j)
  | str (i j : Str) (q : Q (.bl (g (decide (i = j)))) t) : EqOf g t Q (.str i) (.str j)
  | bl (i j : Bool) (q : Q (.bl (g (decide (i = j)))) t) : EqOf g t Q (.bl i) (.bl j)
  | tup (ns ms : List Int) (q : Q (.bl (g (decide (ns = ms)))) t) : EqOf g t Q (.tup (ns.map D.int)) (.tup (ms.map D.int))
theorem intsOf_int : ∀ ns : List Int, intsOf (ns.map D.int) = some ns
  | [] => rfl
  | n :: ns => by
    show (intsOf (ns.map D.int)).map (n :: ·) = _
    rw [intsOf_int ns]
    rfl
theorem rhoEqG_of {g : Bool → Bool} {x y : D} {t : Nat} {Q : KD} (h : rhoEqG g x y t Q) : EqOf g t Q x y := by
  cases x <;> cases y <;> first | exact h.elim | skip
  · exact .bl _ _ h
  · exact .int _ _ h
  · exact .str _ _ h
  · obtain ⟨ns, ms, e1, e2, q⟩ := eqTT_of h
    rw [intsOf_map _ _ e1, intsOf_map _ _ e2]
    exact .tup ns ms q
theorem rhoEqG_mk {g : Bool → Bool} {x y : D} {t : Nat} {Q : KD} (h : EqOf g t Q x y) : rhoEqG g x y t Q := by
  cases h with
  | int _ _ q => exact q
  | str _ _ q => exact q
  | bl _ _ q => exact q
  | tup ns ms q =>
    show eqTT g _ _ t Q
    unfold eqTT
    rw [intsOf_int, intsOf_int]
    exact q
theorem EqOf.mono {g : Bool → Bool} {x y : D} {t : Nat} {P P' : KD} (k : ∀ d t, P d t → P' d t) (h : EqOf g t P x y) : EqOf g t P' x y := by
  cases h with
  | int _ _ q => exact .int _ _ (k _ _ q)
  | str _ _ q => exact .str _ _ (k _ _ q)
  | bl _ _ q => exact .bl _ _ (k _ _ q)
  | tup _ _ q => exact .tup _ _ (k _ _ q)
def rEqA (K : PySem.W.Frag) : R2 := fun x y H Q => rEq x y H Q ∨ rEqD K x y H Q
def rNeA (K : PySem.W.Frag) : R2 := fun x y H Q => rNe x y H Q ∨ rNeD K x y H Q
theorem op_eqA {X : Cx} (hu : X.A.units + 64 < cLine) : OpR X (compareOp .Eq) (rEqA X.K) := op_eq.or (op_eqD hu)
theorem op_neA {X : Cx} (hu : X.A.units + 64 < cLine) : OpR X (compareOp .NotEq) (rNeA X.K) := op_ne.or (op_neD hu)
theorem eqv_ints (ns ms : List Int) : PyData.eqv (.tuple (ns.map PyData.int)) (.tuple (ms.map PyData.int)) = decide (ns = ms) := by
  rw [PyData.eqv, eqvAll_ints]
theorem dp_ints {ns : List Int} {v : V} (h : Rep K fo G (.tup (ns.map D.int)) v) (s : Same G H) : Dp K H v (.tuple (ns.map PyData.int)) := h.dp s (by
  unfold pyOf
  rw [pysOf_ints]
  rfl)
theorem snr_eq : SnR K (rEqA K) rhoEq := by
  refine ⟨fun x y t P P' k h => rhoEqG_mk ((rhoEqG_of h).mono k), fun fo x y t u v G H Q rx ry s F h => ?_⟩
  cases rhoEqG_of h with
  | int i j q =>
    cases rx; cases ry
    refine .inl ⟨rfl, ?_⟩
    rw [dec_int]
    exact (show Up K fo G H Q (.bl (i == j)) t from (Bool.beq_eq_decide_eq i j) ▸ q).at s F (.bl _)
  | str i j q =>
    cases rx; cases ry
    refine .inl ⟨rfl, ?_⟩
    have e : decide (V.str i = V.str j) = decide (i = j) := by by_cases h : i = j <;> simp [h]
    rw [e]
    exact q.at s F (.bl _)
  | bl i j q =>
    cases rx; cases ry
    refine .inl ⟨rfl, ?_⟩
    rw [dec_bl]
    exact (show Up K fo G H Q (.bl (i == j)) t from (Bool.beq_eq_decide_eq i j) ▸ q).at s F (.bl _)
  | tup ns ms q =>
    refine .inr ⟨_, _, dp_ints rx s, dp_ints ry s, shaped_ints ns, shaped_ints ms, ?_⟩
    rw [eqv_ints]
    exact q.at s F (.bl _)
theorem snr_ne : SnR K (rNeA K) rhoNe := by
  refine ⟨fun x y t P P' k h => rhoEqG_mk ((rhoEqG_of h).mono k), fun fo x y t u v G H Q rx ry s F h => ?_⟩
  cases rhoEqG_of h with
  | int i j q =>
    cases rx; cases ry
    refine .inl ⟨rfl, ?_⟩
    rw [dec_int]
    exact (show Up K fo G H Q (.bl (!(i == j))) t from (Bool.beq_eq_decide_eq i j) ▸ q).at s F (.bl _)
  | str i j q =>
    cases rx; cases ry
    refine .inl ⟨rfl, ?_⟩
    have e : decide (V.str i = V.str j) = decide (i = j) := by by_cases h : i = j <;> simp [h]
    rw [e]
    exact q.at s F (.bl _)
  | bl i j q =>
    cases rx; cases ry
    refine .inl ⟨rfl, ?_⟩
    rw [dec_bl]
    exact (show Up K fo G H Q (.bl (!(i == j))) t from (Bool.beq_eq_decide_eq i j) ▸ q).at s F (.bl _)
  | tup ns ms q =>
    refine .inr ⟨_, _, dp_ints rx s, dp_ints ry s, shaped_ints ns, shaped_ints ms, ?_⟩
    rw [eqv_ints]
    exact q.at s F (.bl _)
/-! ### is None -/
def rhoIsG (g : Bool → Bool) : O2 := fun x y t Q => match y with
  | .non => Q (.bl (g (isN x))) t
  | _ => False
abbrev rhoIs : O2 := rhoIsG fun b => b
abbrev rhoIsNot : O2 := rhoIsG fun b => !b
theorem rhoIsG_of {g : Bool → Bool} {x y : D} {t : Nat} {Q : KD} (h : rhoIsG g x y t Q) : y = .non ∧ Q (.bl (g (isN x))) t := by
  cases y <;> first | exact h.elim | exact ⟨rfl, h⟩
theorem isN_rep {x : D} {v : V} (r : Rep K fo G x v) : decide (v = V.non) = isN x := by
  cases r <;> simp [isN]
theorem snr_is : SnR K (fun x y H Q => y = .non ∧ Q (.bl (decide (x = .non))) H) rhoIs := by
  refine ⟨fun x y t P P' k h => ?_, fun fo x y t u v G H Q rx ry s F h => ?_⟩
  · obtain ⟨rfl, q⟩ := rhoIsG_of h
    exact k _ _ q
  · obtain ⟨rfl, q⟩ := rhoIsG_of h
    cases ry
    rw [isN_rep rx]
    exact ⟨rfl, q.at s F (.bl _)⟩
theorem snr_isNot : SnR K (fun x y H Q => y = .non ∧ Q (.bl (!decide (x = .non))) H) rhoIsNot := by
  refine ⟨fun x y t P P' k h => ?_, fun fo x y t u v G H Q rx ry s F h => ?_⟩
  · obtain ⟨rfl, q⟩ := rhoIsG_of h
    exact k _ _ q
  · obtain ⟨rfl, q⟩ := rhoIsG_of h
    cases ry
    rw [isN_rep rx]
    exact ⟨rfl, q.at s F (.bl _)⟩
/-! ### -x -/
def rhoNeg : O1
  | .int i, t, Q => Q (.int (-i)) t
  | _, _, _ => False
theorem snu_neg : SnU K (rU fun i => .int (-i)) rhoNeg := by
  refine ⟨fun x t P P' k h => ?_, fun fo x t u G H Q rx s F h => ?_⟩
  · cases x <;> first | exact h.elim | exact k _ _ h
  · cases x <;> first | exact h.elim | skip
    cases rx
    exact ⟨_, rfl, Up.at h s F (.int _)⟩

/-! ### tests -/
def blD (d : D) (Q : Bool → Prop) : Prop := match d with
  | .bl b => Q b
  | _ => False
theorem blD_of {d : D} {Q : Bool → Prop} (h : blD d Q) : ∃ b, d = .bl b ∧ Q b := by
  cases d <;> first | exact h.elim | exact ⟨_, rfl, h⟩
theorem blD_mono {d : D} {Q Q' : Bool → Prop} (k : ∀ b, Q b → Q' b) (h : blD d Q) : blD d Q' := by
  obtain ⟨b, rfl, q⟩ := blD_of h
  exact k b q
def wB (w : WE) : WT := fun δ t Q => w δ t fun d t1 => blD d fun b => Q b t1
variable {ta tb te : TE} {wa wb we : WE} {tt tu : TT} {wt wu : WT}
theorem UpT.at {Q : Bool → Hp → Prop} {b : Bool} {t : Nat} (u : UpT fo G H Q b t) (s : Same G H) (F : Feed fo t H) : Q b H := u G H (Step.refl s) F
theorem snt_B (h : Sn K te we) : SnT K (tB te) (wB we) := by
  refine ⟨fun δ t P P' k q => h.mono _ _ _ _ (fun d t1 q => blD_mono (fun b q => k b t1 q) q) q, fun fo H0 δ t σ G H Q E F q => ?_⟩
  refine h.run fo H0 δ t σ G H _ E F (h.mono _ _ _ _ (fun d t1 q v G1 H1 s1 F1 r1 => ?_) q)
  obtain ⟨b, rfl, q⟩ := blD_of q
  cases r1
  exact ⟨b, rfl, q G1 H1 s1 F1⟩
theorem snt_test (h : Sn K te we) : SnT K (tTest te) (wB we) := by
  refine ⟨fun δ t P P' k q => h.mono _ _ _ _ (fun d t1 q => blD_mono (fun b q => k b t1 q) q) q, fun fo H0 δ t σ G H Q E F q => ?_⟩
  refine h.run fo H0 δ t σ G H _ E F (h.mono _ _ _ _ (fun d t1 q v G1 H1 s1 F1 r1 => ?_) q)
  obtain ⟨b, rfl, q⟩ := blD_of q
  cases r1
  exact ⟨b, rfl, q G1 H1 s1 F1⟩
def wAnd (wa wb : WT) : WT := fun δ t Q => wa δ t fun b t1 => if b = true then wb δ t1 Q else Q false t1
def wOr (wa wb : WT) : WT := fun δ t Q => wa δ t fun b t1 => if b = true then Q true t1 else wb δ t1 Q
def wNot (wa : WT) : WT := fun δ t Q => wa δ t fun b t1 => Q (!b) t1
theorem snt_and (h1 : SnT K tt wt) (h2 : SnT K tu wu) : SnT K (tAnd tt tu) (wAnd wt wu) := by
  refine ⟨fun δ t P P' k q => h1.mono _ _ _ _ (fun b t1 q => ?_) q, fun fo H0 δ t σ G H Q E F q => ?_⟩
  · cases b with
    | true => exact h2.mono _ _ _ _ k q
    | false => exact k _ _ q
  · refine h1.run fo H0 δ t σ G H _ E F (h1.mono _ _ _ _ (fun b t1 q G1 H1 s1 F1 => ?_) q)
    cases b with
    | true => exact h2.run fo H0 δ t1 σ G1 H1 Q (E.step s1) F1 (h2.mono _ _ _ _ (fun b t q => q.step s1) q)
    | false => exact q G1 H1 s1 F1
theorem snt_or (h1 : SnT K tt wt) (h2 : SnT K tu wu) : SnT K (tOr tt tu) (wOr wt wu) := by
  refine ⟨fun δ t P P' k q => h1.mono _ _ _ _ (fun b t1 q => ?_) q, fun fo H0 δ t σ G H Q E F q => ?_⟩
  · cases b with
    | false => exact h2.mono _ _ _ _ k q
    | true => exact k _ _ q
  · refine h1.run fo H0 δ t σ G H _ E F (h1.mono _ _ _ _ (fun b t1 q G1 H1 s1 F1 => ?_) q)
    cases b with
    | false => exact h2.run fo H0 δ t1 σ G1 H1 Q (E.step s1) F1 (h2.mono _ _ _ _ (fun b t q => q.step s1) q)
    | true => exact q G1 H1 s1 F1
theorem snt_not (h1 : SnT K tt wt) : SnT K (tNot tt) (wNot wt) := 
  ⟨fun δ t P P' k q => h1.mono _ _ _ _ (fun b t1 q => k _ _ q) q, fun fo H0 δ t σ G H Q E F q => h1.run fo H0 δ t σ G H _ E F (h1.mono _ _ _ _ (fun b t1 q G1 H1 s1 F1 => q G1 H1 s1 F1) q)⟩
def wAndV (wa wb : WE) : WE := fun δ t Q => wa δ t fun d t1 => blD d fun b => if b = true then wb δ t1 Q else Q (.bl false) t1
def wOrV (wa wb : WE) : WE := fun δ t Q => wa δ t fun d t1 => blD d fun b => if b = true then Q (.bl true) t1 else wb δ t1 Q
def wNotV (wa : WE) : WE := fun δ t Q => wa δ t fun d t1 => blD d fun b => Q (.bl (!b)) t1
theorem sn_andV (h1 : Sn K ta wa) (h2 : Sn K tb wb) : Sn K (tAndV ta tb) (wAndV wa wb) := by
  refine ⟨fun δ t P P' k q => h1.mono _ _ _ _ (fun d t1 q => blD_mono (fun b q => ?_) q) q, fun fo H0 δ t σ G H Q E F q => ?_⟩
  · cases b with
    | true => exact h2.mono _ _ _ _ k q
    | false => exact k _ _ q
  · refine h1.run fo H0 δ t σ G H _ E F (h1.mono _ _ _ _ (fun d t1 q v G1 H1 s1 F1 r1 => ?_) q)
    obtain ⟨b, rfl, q⟩ := blD_of q
    cases r1
    refine ⟨b, rfl, ?_⟩
    cases b with
    | true => exact h2.run fo H0 δ t1 σ G1 H1 Q (E.step s1) F1 (h2.mono _ _ _ _ (fun b t q => q.step s1) q)
    | false => exact q _ G1 H1 s1 F1 (.bl _)
theorem sn_orV (h1 : Sn K ta wa) (h2 : Sn K tb wb) : Sn K (tOrV ta tb) (wOrV wa wb) := by
  refine ⟨fun δ t P P' k q => h1.mono _ _ _ _ (fun d t1 q => blD_mono (fun b q => ?_) q) q, fun fo H0 δ t σ G H Q E F q => ?_⟩
  · cases b with
    | false => exact h2.mono _ _ _ _ k q
    | true => exact k _ _ q
  · refine h1.run fo H0 δ t σ G H _ E F (h1.mono _ _ _ _ (fun d t1 q v G1 H1 s1 F1 r1 => ?_) q)
    obtain ⟨b, rfl, q⟩ := blD_of q
    cases r1
    refine ⟨b, rfl, ?_⟩
    cases b with
    | false => exact h2.run fo H0 δ t1 σ G1 H1 Q (E.step s1) F1 (h2.mono _ _ _ _ (fun b t q => q.step s1) q)
    | true => exact q _ G1 H1 s1 F1 (.bl _)
theorem sn_notV (h1 : Sn K ta wa) : Sn K (tNotV ta) (wNotV wa) := by
  refine ⟨fun δ t P P' k q => h1.mono _ _ _ _ (fun d t1 q => blD_mono (fun b q => k _ _ q) q) q, fun fo H0 δ t σ G H Q E F q => ?_⟩
  refine h1.run fo H0 δ t σ G H _ E F (h1.mono _ _ _ _ (fun d t1 q v G1 H1 s1 F1 r1 => ?_) q)
  obtain ⟨b, rfl, q⟩ := blD_of q
  cases r1
  exact ⟨b, rfl, q _ G1 H1 s1 F1 (.bl _)⟩
def wIf (wt : WT) (wa wb : WE) : WE := fun δ t Q => wt δ t fun b t1 => if b = true then wa δ t1 Q else wb δ t1 Q
theorem sn_if (h : SnT K tt wt) (h1 : Sn K ta wa) (h2 : Sn K tb wb) : Sn K (tIf tt ta tb) (wIf wt wa wb) := by
  refine ⟨fun δ t P P' k q => h.mono _ _ _ _ (fun b t1 q => ?_) q, fun fo H0 δ t σ G H Q E F q => ?_⟩
  · cases b with
    | true => exact h1.mono _ _ _ _ k q
    | false => exact h2.mono _ _ _ _ k q
  · refine h.run fo H0 δ t σ G H _ E F (h.mono _ _ _ _ (fun b t1 q G1 H1 s1 F1 => ?_) q)
    cases b with
    | true => exact h1.run fo H0 δ t1 σ G1 H1 Q (E.step s1) F1 (h1.mono _ _ _ _ (fun b t q => q.step s1) q)
    | false => exact h2.run fo H0 δ t1 σ G1 H1 Q (E.step s1) F1 (h2.mono _ _ _ _ (fun b t q => q.step s1) q)

/-! ### argument lists, displays -/
def wNil : WA := fun _ t Q => Q [] t
def wCons (wa : WE) (wr : WA) : WA := fun δ t Q => wa δ t fun d t1 => wr δ t1 fun ds t2 => Q (d :: ds) t2
variable {tr : TA} {wr : WA}
theorem sna_nil : SnA K tNil wNil := ⟨fun _ _ _ _ k q => k _ _ q, fun fo H0 δ t σ G H Q E F q => q [] G H (Step.refl E.sub) F .nil⟩
theorem sna_cons (h1 : Sn K ta wa) (h2 : SnA K tr wr) : SnA K (tCons ta tr) (wCons wa wr) := by
  refine ⟨fun δ t P P' k q => h1.mono _ _ _ _ (fun b t1 q => h2.mono _ _ _ _ (fun ds t2 q => k _ _ q) q) q, fun fo H0 δ t σ G H Q E F q => ?_⟩
  refine h1.run fo H0 δ t σ G H _ E F (h1.mono _ _ _ _ (fun d t1 q v G1 H1 s1 F1 r1 => ?_) q)
  refine h2.run fo H0 δ t1 σ G1 H1 _ (E.step s1) F1 (h2.mono _ _ _ _ (fun ds t2 q vs G2 H2 s2 F2 r2 => ?_) q)
  exact q _ G2 H2 (s1.trans s2) F2 (.cons (r1.mono s2.gg) r2)
def wTup (wr : WA) : WE := fun δ t Q => wr δ t fun ds t1 => szOk ds.length (Q (.tup ds) t1)
def wLst (wr : WA) : WE := fun δ t Q => wr δ t fun ds t1 => szOk ds.length (Q (.lst ds) t1)
theorem sn_tup (h : SnA K tr wr) : Sn K (tTup tr) (wTup wr) := by
  refine ⟨fun δ t P P' k q => h.mono _ _ _ _ (fun ds t1 q => szOk_mono (k _ _) q) q, fun fo H0 δ t σ G H Q E F q => ?_⟩
  refine h.run fo H0 δ t σ G H _ E F (h.mono _ _ _ _ (fun ds t1 q vs G1 H1 s1 F1 r1 => ?_) q)
  obtain ⟨c, q⟩ := szOk_of q
  exact ⟨sz1000 (by rw [r1.len]; exact c), fun p hp => (q.step s1).tup s1.sub F1 r1 hp⟩
theorem sn_lst (h : SnA K tr wr) : Sn K (tLst tr) (wLst wr) := by
  refine ⟨fun δ t P P' k q => h.mono _ _ _ _ (fun ds t1 q => szOk_mono (k _ _) q) q, fun fo H0 δ t σ G H Q E F q => ?_⟩
  refine h.run fo H0 δ t σ G H _ E F (h.mono _ _ _ _ (fun ds t1 q vs G1 H1 s1 F1 r1 => ?_) q)
  obtain ⟨c, q⟩ := szOk_of q
  exact ⟨sz1000 (by rw [r1.len]; exact c), fun p hp => (q.step s1).lst s1.sub F1 r1 hp⟩

/-! ### subscripts -/
def atD (ds : List D) : Int → Option D
  | .ofNat n => ds[n]?
  | .negSucc n => match Nat.blt n ds.length with
    | true => ds[ds.length - (n + 1)]?
    | false => none
def opD (o : Option D) (Q : D → Prop) : Prop := match o with
  | some d => Q d
  | none => False
theorem opD_of {o : Option D} {Q : D → Prop} (h : opD o Q) : ∃ d, o = some d ∧ Q d := by
  cases o <;> first | exact h.elim | exact ⟨_, rfl, h⟩
theorem opD_mk {o : Option D} {d : D} {Q : D → Prop} (e : o = some d) (q : Q d) : opD o Q := by
  subst e
  exact q
theorem opD_mono {o : Option D} {Q Q' : D → Prop} (k : ∀ d, Q d → Q' d) (h : opD o Q) : opD o Q' := by
  obtain ⟨b, rfl, q⟩ := opD_of h
  exact k b q
theorem atD_at {ds : List D} {xs : List V} {i : Int} {d : D} (r : Reps K fo G ds xs) (h : atD ds i = some d) : ∃ v, atI xs i = some v ∧ Rep K fo G d v := by
  cases i with
  | ofNat n =>
    obtain ⟨v, h1, h2⟩ := r.get (i := n) h
    exact ⟨v, atI_nat h1, h2⟩
  | negSucc n =>
    unfold atD at h
    simp only at h
    split at h
    · rename_i hb
      have hlt : n < ds.length := by
        have := Nat.le_of_ble_eq_true hb
        omega
      obtain ⟨v, h1, h2⟩ := r.get h
      refine ⟨v, ?_, h2⟩
      unfold atI ixN
      rw [r.len]
      rw [if_neg (by omega), if_pos (by omega)]
      show xs[_]? = some v
      rw [← h1]
      congr 1
      omega
    · cases h
def rhoIx : O2
  | .tup ds, .int i, t, Q => opD (atD ds i) fun d => Q d t
  | .lst ds, .int i, t, Q => opD (atD ds i) fun d => Q d t
  | _, _, _, _ => False
def rIxA (K : PySem.W.Frag) : R2 := fun x y H Q => rIxL K x y H Q ∨ rIxT K x y H Q
theorem ix_A {X : Cx} : IxR X (rIxA X.K) := ix_list.or ix_tup
theorem snr_ix : SnR K (rIxA K) rhoIx := by
  refine ⟨fun x y t P P' k h => ?_, fun fo x y t u v G H Q rx ry s F h => ?_⟩
  · cases x <;> cases y <;> first | exact h.elim | exact opD_mono (fun d q => k d t q) h
  · cases x <;> cases y <;> first | exact h.elim | skip
    · rename_i ds i
      obtain ⟨d, e, q⟩ := opD_of h
      cases rx with
      | tup ha ra =>
      cases ry
      obtain ⟨z, h1, h2⟩ := atD_at ra e
      exact .inr ⟨_, _, i, z, rfl, rfl, sqT_same s ha, h1, q.at s F h2⟩
    · rename_i ds i
      obtain ⟨d, e, q⟩ := opD_of h
      cases rx with
      | lst ha ra =>
      cases ry
      obtain ⟨z, h1, h2⟩ := atD_at ra e
      exact .inl ⟨_, _, i, z, rfl, rfl, SqL.of (s _ _ ha), h1, q.at s F h2⟩
/-- an item of an own list -/
def inD (d : D) (Q : Int → Prop) : Prop := match d with
  | .int i => Q i
  | _ => False
theorem inD_of {d : D} {Q : Int → Prop} (h : inD d Q) : ∃ i, d = .int i ∧ Q i := by
  cases d <;> first | exact h.elim | exact ⟨_, rfl, h⟩
theorem inD_mono {d : D} {Q Q' : Int → Prop} (k : ∀ b, Q b → Q' b) (h : inD d Q) : inD d Q' := by
  obtain ⟨b, rfl, q⟩ := inD_of h
  exact k b q
def wIxO (i : Nat) (wb : WE) : WE := fun δ t Q => slO δ[i]? fun ds => wb δ t fun y t1 => inD y fun k => opD (atD ds k) fun d => Q d t1
theorem sn_ixO {i : Nat} (hb : Sn K tb wb) : Sn K (tOp (rIxA K) (tVar i) tb) (wIxO i wb) := by
  refine ⟨fun δ t P P' k q => slO_mono (fun ds q => hb.mono _ _ _ _ (fun y t1 q => inD_mono (fun j q => opD_mono (fun d q => k _ _ q) q) q) q) q, fun fo H0 δ t σ G H Q E F q => ?_⟩
  obtain ⟨ds, e, q⟩ := slO_of q
  obtain ⟨p, xs, h1, h2, h3, h4, h5, h6⟩ := E.own i ds e
  refine ⟨_, h1, hb.run fo H0 δ t σ G H _ E F (hb.mono _ _ _ _ (fun y t1 q v G1 H1 s1 F1 r1 => ?_) q)⟩
  obtain ⟨j, rfl, q⟩ := inD_of q
  obtain ⟨d, e2, q⟩ := opD_of q
  cases r1
  obtain ⟨z, h7, h8⟩ := atD_at h6 e2
  exact .inl ⟨p, xs, j, z, rfl, rfl, SqL.of (s1.hh p _ h2 fun fc e => (h5 fc e).1), h7, q _ G1 H1 s1 F1 (h8.mono s1.gg)⟩
end
end DL

/-! ## DL4 -/
set_option maxRecDepth 100000
/-! built-ins, slices, calls, what is walked, comprehensions -/
namespace DL
open PySem PySem.Spec PyProof.Rows L2

section
variable {K : PySem.W.Frag} {fo : Fo} {G H : Hp} {ta tb te : TE} {wa wb we : WE} {tr : TA} {wr : WA}
/-! ### built-ins by values -/
def wCB (rho : OC) (wr : WA) : WE := fun δ t Q => wr δ t fun ds t1 => rho ds t1 Q
theorem sn_cb {r : List V → Hp → VK → Prop} {rho : OC} (hr : SnC K r rho) (ha : SnA K tr wr) : Sn K (tCB r tr) (wCB rho wr) := by
  refine ⟨fun δ t P P' k h => ha.mono _ _ _ _ (fun x t1 h1 => hr.mono _ _ _ _ k h1) h, fun fo H0 δ t σ G H Q E F h => ?_⟩
  refine ha.run fo H0 δ t σ G H _ E F (ha.mono _ _ _ _ (fun x t1 h1 u G1 H1 s1 F1 r1 => ?_) h)
  exact hr.run fo x t1 u G1 H1 Q r1 s1.sub F1 (hr.mono _ _ _ _ (fun d t q => q.step s1) h1)
def c1D (ds : List D) (Q : D → Prop) : Prop := match ds with
  | [d] => Q d
  | _ => False
theorem c1D_of {ds : List D} {Q : D → Prop} (h : c1D ds Q) : ∃ d, ds = [d] ∧ Q d := by
  match ds, h with
  | [d], h => exact ⟨d, rfl, h⟩
theorem c1D_mono {ds : List D} {Q Q' : D → Prop} (k : ∀ b, Q b → Q' b) (h : c1D ds Q) : c1D ds Q' := by
  obtain ⟨b, rfl, q⟩ := c1D_of h
  exact k b q
/-- items of a list or tuple -/
def sqD (d : D) (Q : List D → Prop) : Prop := match d with
  | .tup ds => Q ds
  | .lst ds => Q ds
  | _ => False
theorem sqD_of {d : D} {Q : List D → Prop} (h : sqD d Q) : ∃ ds, (d = .tup ds ∨ d = .lst ds) ∧ Q ds := by
  cases d <;> first | exact h.elim | exact ⟨_, .inl rfl, h⟩ | exact ⟨_, .inr rfl, h⟩
theorem sqD_mono {d : D} {Q Q' : List D → Prop} (k : ∀ b, Q b → Q' b) (h : sqD d Q) : sqD d Q' := by
  cases d <;> first | exact h.elim | exact k _ h
theorem sq_rep {d : D} {ds : List D} {v : V} (h : d = .tup ds ∨ d = .lst ds) (r : Rep K fo G d v) (s : Same G H) : ∃ p xs, v = .ref p ∧ (SqL K H p xs ∨ SqT K H p xs) ∧ Reps K fo G ds xs := by
  rcases h with e | e
  · subst e
    cases r with
    | tup ha ra => exact ⟨_, _, rfl, .inr (sqT_same s ha), ra⟩
  · subst e
    cases r with
    | lst ha ra => exact ⟨_, _, rfl, .inl (SqL.of (s _ _ ha)), ra⟩
theorem reps1 {d : D} {us : List V} (r : Reps K fo G [d] us) : ∃ u, us = [u] ∧ Rep K fo G d u := by
  cases r with
  | cons h r => cases r; exact ⟨_, rfl, h⟩
def rhoLen : OC := fun ds t Q => c1D ds fun d => sqD d fun xs => Q (.int xs.length) t
theorem snc_len : SnC K (fun xs H Q => ∃ p ys, xs = [.ref p] ∧ (SqL K H p ys ∨ SqT K H p ys) ∧ Q (.int ys.length) H) rhoLen := by
  refine ⟨fun x t P P' k h => c1D_mono (fun d q => sqD_mono (fun ds q => k _ _ q) q) h, fun fo x t u G H Q r s F h => ?_⟩
  obtain ⟨d, rfl, h⟩ := c1D_of h
  obtain ⟨ds, e, q⟩ := sqD_of h
  obtain ⟨v, rfl, r1⟩ := reps1 r
  obtain ⟨p, xs, rfl, h1, h2⟩ := sq_rep e r1 s
  refine ⟨p, xs, rfl, h1, ?_⟩
  rw [h2.len]
  exact q.at s F (.int _)
def rhoAbs : OC := fun ds t Q => c1D ds fun d => inD d fun i => Q (.int (if i < 0 then -i else i)) t
theorem snc_abs : SnC K (fun xs H Q => ∃ i, xs = [.int i] ∧ Q (.int (if i < 0 then -i else i)) H) rhoAbs := by
  refine ⟨fun x t P P' k h => c1D_mono (fun d q => inD_mono (fun ds q => k _ _ q) q) h, fun fo x t u G H Q r s F h => ?_⟩
  obtain ⟨d, rfl, h⟩ := c1D_of h
  obtain ⟨ds, rfl, q⟩ := inD_of h
  obtain ⟨v, rfl, r1⟩ := reps1 r
  cases r1
  exact ⟨_, rfl, q.at s F (.int _)⟩
def rhoInt : OC := fun ds t Q => c1D ds fun d => match d with
  | .int i => Q (.int i) t
  | .bl b => Q (.int (if b then 1 else 0)) t
  | _ => False
theorem snc_int : SnC K (fun xs H Q => (∃ i, xs = [.int i] ∧ Q (.int i) H) ∨ ∃ k, xs = [.bl k] ∧ Q (.int (if k then 1 else 0)) H) rhoInt := by
  refine ⟨fun x t P P' k h => c1D_mono (fun d q => ?_) h, fun fo x t u G H Q r s F h => ?_⟩
  · cases d <;> first | exact q.elim | exact k _ _ q
  · obtain ⟨d, rfl, h⟩ := c1D_of h
    obtain ⟨v, rfl, r1⟩ := reps1 r
    cases d with
    | bl b => cases r1; exact .inr ⟨_, rfl, Up.at (show Up K fo G H Q _ t from h) s F (.int _)⟩
    | int i => cases r1; exact .inl ⟨_, rfl, Up.at (show Up K fo G H Q _ t from h) s F (.int _)⟩
    | _ => exact h.elim
def rhoTuple : OC := fun ds t Q => c1D ds fun d => sqD d fun xs => Q (.tup xs) t
theorem snc_tuple : SnC K (fun xs H Q => ∃ p ys, xs = [.ref p] ∧ ((SqL K H p ys ∧ ∀ l, H l = none → Q (.ref l) (upd H l (.tup ys))) ∨ (SqT K H p ys ∧ Q (.ref p) H))) rhoTuple := by
  refine ⟨fun x t P P' k h => c1D_mono (fun d q => sqD_mono (fun ds q => k _ _ q) q) h, fun fo x t u G H Q r s F h => ?_⟩
  obtain ⟨d, rfl, h⟩ := c1D_of h
  obtain ⟨ds, e, q⟩ := sqD_of h
  obtain ⟨v, rfl, r1⟩ := reps1 r
  rcases e with e | e
  · subst e
    cases r1 with
    | tup ha ra => exact ⟨_, _, rfl, .inr ⟨sqT_same s ha, q.at s F (.tup ha ra)⟩⟩
  · subst e
    cases r1 with
    | lst ha ra => exact ⟨_, _, rfl, .inl ⟨SqL.of (s _ _ ha), fun l hl => q.tup s F ra hl⟩⟩
/-- lists of truths, of ints -/
def blsOf : List D → Option (List Bool)
  | [] => some []
  | .bl i :: r => (blsOf r).map (i :: ·)
  | _ => none
theorem blsOf_map : ∀ (ds : List D) (ns : List Bool), blsOf ds = some ns → ds = ns.map D.bl
  | [], ns, e => by simp [blsOf] at e; subst e; rfl
  | .bl i :: r, ns, e => by
    unfold blsOf at e
    obtain ⟨ms, e1, e2⟩ := Option.map_eq_some_iff.mp e
    subst e2
    rw [blsOf_map r ms e1]
    rfl
  | .non :: _, _, e => by simp [blsOf] at e
  | .int _ :: _, _, e => by simp [blsOf] at e
  | .str _ :: _, _, e => by simp [blsOf] at e
  | .feed :: _, _, e => by simp [blsOf] at e
  | .tup _ :: _, _, e => by simp [blsOf] at e
  | .lst _ :: _, _, e => by simp [blsOf] at e
theorem blsOf_bl : ∀ ns : List Bool, blsOf (ns.map D.bl) = some ns
  | [] => rfl
  | n :: ns => by
    show (blsOf (ns.map D.bl)).map (n :: ·) = _
    rw [blsOf_bl ns]
    rfl
def rhoBls (g : List Bool → Bool) : OC := fun ds t Q => c1D ds fun d => match d with
  | .lst xs => ∃ bs, xs = bs.map D.bl ∧ Q (.bl (g bs)) t
  | _ => False
theorem rhoBls_of {g : List Bool → Bool} {ds : List D} {t : Nat} {Q : KD} (h : rhoBls g ds t Q) : ∃ bs : List Bool, ds = [.lst (bs.map D.bl)] ∧ Q (.bl (g bs)) t := by
  obtain ⟨d, rfl, h⟩ := c1D_of h
  cases d <;> first | exact h.elim | skip
  obtain ⟨bs, rfl, q⟩ := h
  exact ⟨bs, rfl, q⟩
theorem snc_any : SnC K (rAny K) (rhoBls fun bs => bs.any id) := by
  refine ⟨fun x t P P' k h => ?_, fun fo x t u G H Q r s F h => ?_⟩
  · obtain ⟨bs, rfl, q⟩ := rhoBls_of h
    exact ⟨bs, rfl, k _ _ q⟩
  · obtain ⟨bs, rfl, q⟩ := rhoBls_of h
    obtain ⟨v, rfl, r1⟩ := reps1 r
    cases r1 with
    | lst ha ra => exact ⟨_, bs, rfl, SqL.of (by rw [← ra.bls]; exact s _ _ ha), q.at s F (.bl _)⟩
theorem snc_all : SnC K (rAll K) (rhoBls fun bs => bs.all id) := by
  refine ⟨fun x t P P' k h => ?_, fun fo x t u G H Q r s F h => ?_⟩
  · obtain ⟨bs, rfl, q⟩ := rhoBls_of h
    exact ⟨bs, rfl, k _ _ q⟩
  · obtain ⟨bs, rfl, q⟩ := rhoBls_of h
    obtain ⟨v, rfl, r1⟩ := reps1 r
    cases r1 with
    | lst ha ra => exact ⟨_, bs, rfl, SqL.of (by rw [← ra.bls]; exact s _ _ ha), q.at s F (.bl _)⟩
/-- the greatest, the least of a list of ints -/
def rhoMx (le : Int → Int → Prop) : OC := fun ds t Q => c1D ds fun d => match d with
  | .lst xs => ∃ ns : List Int, xs = ns.map D.int ∧ 0 < ns.length ∧ ∀ m, m ∈ ns → (∀ y ∈ ns, le y m) → Q (.int m) t
  | _ => False
theorem rhoMx_of {le : Int → Int → Prop} {ds : List D} {t : Nat} {Q : KD} (h : rhoMx le ds t Q) : ∃ ns : List Int, ds = [.lst (ns.map D.int)] ∧ 0 < ns.length ∧ ∀ m, m ∈ ns → (∀ y ∈ ns, le y m) → Q (.int m) t := by
  obtain ⟨d, rfl, h⟩ := c1D_of h
  cases d <;> first | exact h.elim | skip
  obtain ⟨bs, rfl, q⟩ := h
  exact ⟨bs, rfl, q⟩
theorem snc_max : SnC K (rMax K) (rhoMx fun y m => y ≤ m) := by
  refine ⟨fun x t P P' k h => ?_, fun fo x t u G H Q r s F h => ?_⟩
  · obtain ⟨bs, rfl, c, q⟩ := rhoMx_of h
    exact ⟨bs, rfl, c, fun m h1 h2 => k _ _ (q m h1 h2)⟩
  · obtain ⟨bs, rfl, c, q⟩ := rhoMx_of h
    obtain ⟨v, rfl, r1⟩ := reps1 r
    cases r1 with
    | lst ha ra => exact ⟨_, bs, rfl, SqL.of (by rw [← ra.ints]; exact s _ _ ha), c, fun m h1 h2 => (q m h1 h2).at s F (.int _)⟩
theorem snc_min : SnC K (rMin K) (rhoMx fun y m => m ≤ y) := by
  refine ⟨fun x t P P' k h => ?_, fun fo x t u G H Q r s F h => ?_⟩
  · obtain ⟨bs, rfl, c, q⟩ := rhoMx_of h
    exact ⟨bs, rfl, c, fun m h1 h2 => k _ _ (q m h1 h2)⟩
  · obtain ⟨bs, rfl, c, q⟩ := rhoMx_of h
    obtain ⟨v, rfl, r1⟩ := reps1 r
    cases r1 with
    | lst ha ra => exact ⟨_, bs, rfl, SqL.of (by rw [← ra.ints]; exact s _ _ ha), c, fun m h1 h2 => (q m h1 h2).at s F (.int _)⟩
/-- len of an own list -/
def wLenO (i : Nat) : WE := fun δ t Q => slO δ[i]? fun ds => Q (.int ds.length) t
theorem sn_lenO {i : Nat} : Sn K (tCB (fun xs H Q => ∃ p ys, xs = [.ref p] ∧ (SqL K H p ys ∨ SqT K H p ys) ∧ Q (.int ys.length) H) (tCons (tVar i) tNil)) (wLenO i) := by
  refine ⟨fun δ t P P' k q => slO_mono (fun ds q => k _ _ q) q, fun fo H0 δ t σ G H Q E F q => ?_⟩
  obtain ⟨ds, e, q⟩ := slO_of q
  obtain ⟨p, xs, h1, h2, h3, h4, h5, h6⟩ := E.own i ds e
  refine ⟨_, h1, p, xs, rfl, .inl (SqL.of h2), ?_⟩
  rw [h6.len]
  exact q.at E.sub F (.int _)
/-- an own list against [] -/
def wNilO (g : Bool → Bool) (i : Nat) : WE := fun δ t Q => slO δ[i]? fun ds => (∃ ps, pysOf ds = some ps ∧ SeqAt.shaped (.list ps) = true) ∧ Q (.bl (g ds.isEmpty)) t
theorem eqv_nil {ds : List D} {ps : List PyData} (h : pysOf ds = some ps) : PyData.eqv (.list ps) (.list []) = ds.isEmpty := by
  cases ds with
  | nil => simp [pysOf] at h; subst h; simp [PyData.eqv, PyData.eqvAll]
  | cons d ds =>
    unfold pysOf at h
    split at h
    · cases h
      simp [PyData.eqv, PyData.eqvAll]
    · cases h
theorem sn_nilOe {i : Nat} : Sn K (tOp (rEqA K) (tVar i) (tLst tNil)) (wNilO (fun b => b) i) := by
  refine ⟨fun δ t P P' k q => slO_mono (fun ds q => ⟨q.1, k _ _ q.2⟩) q, fun fo H0 δ t σ G H Q E F q => ?_⟩
  obtain ⟨ds, e, ⟨ps, e1, e2⟩, q⟩ := slO_of q
  obtain ⟨p, xs, h1, h2, h3, h4, h5, h6⟩ := E.own i ds e
  refine ⟨_, h1, Nat.zero_le _, fun r hr => .inr ⟨_, _, .lst (SqL.of (by rw [upd_ne (ne_of_none h2 hr)]; exact h2)) ((h6.mono ?_).dp (Same.refl _) e1), .lst (SqL.of upd_same) .nil, e2, by decide, ?_⟩⟩
  · exact fun a o z => by
      have z2 := E.sub _ _ z
      rw [upd_ne (ne_of_none z2 hr)]; exact z2
  · rw [eqv_nil e1]
    exact q _ _ _ (Step.hid E.sub hr) (F.laid hr) (.bl _)
theorem sn_nilOn {i : Nat} : Sn K (tOp (rNeA K) (tVar i) (tLst tNil)) (wNilO (fun b => !b) i) := by
  refine ⟨fun δ t P P' k q => slO_mono (fun ds q => ⟨q.1, k _ _ q.2⟩) q, fun fo H0 δ t σ G H Q E F q => ?_⟩
  obtain ⟨ds, e, ⟨ps, e1, e2⟩, q⟩ := slO_of q
  obtain ⟨p, xs, h1, h2, h3, h4, h5, h6⟩ := E.own i ds e
  refine ⟨_, h1, Nat.zero_le _, fun r hr => .inr ⟨_, _, .lst (SqL.of (by rw [upd_ne (ne_of_none h2 hr)]; exact h2)) ((h6.mono ?_).dp (Same.refl _) e1), .lst (SqL.of upd_same) .nil, e2, by decide, ?_⟩⟩
  · exact fun a o z => by
      have z2 := E.sub _ _ z
      rw [upd_ne (ne_of_none z2 hr)]; exact z2
  · rw [eqv_nil e1]
    exact q _ _ _ (Step.hid E.sub hr) (F.laid hr) (.bl _)

/-! ### slices -/
abbrev WO := List Sl → Nat → (Option Int → Nat → Prop) → Prop
structure SnO (K : PySem.W.Frag) (to : TO) (w : WO) : Prop where
  mono : ∀ δ t (P P' : Option Int → Nat → Prop), (∀ d t, P d t → P' d t) → w δ t P → w δ t P'
  run : ∀ fo H0 δ t σ G H (Q : Option Int → Hp → Prop), En K fo H0 δ σ G H → Feed fo t H → w δ t (fun o t' => ∀ G' H', Step fo G H G' H' → Feed fo t' H' → Q o H') → to σ H Q
def wNoP : WO := fun _ t Q => Q none t
def wPart (w : WE) : WO := fun δ t Q => w δ t fun d t1 => inD d fun i => Q (some i) t1
theorem sno_none : SnO K tNoPart wNoP := ⟨fun _ _ _ _ k q => k _ _ q, fun fo H0 δ t σ G H Q E F q => q G H (Step.refl E.sub) F⟩
theorem sno_some (h : Sn K te we) : SnO K (tPart te) (wPart we) := by
  refine ⟨fun δ t P P' k q => h.mono _ _ _ _ (fun d t q => inD_mono (fun i q => k _ _ q) q) q, fun fo H0 δ t σ G H Q E F q => ?_⟩
  refine h.run fo H0 δ t σ G H _ E F (h.mono _ _ _ _ (fun d t1 q v G1 H1 s1 F1 r1 => ?_) q)
  obtain ⟨i, rfl, q⟩ := inD_of q
  cases r1
  exact ⟨i, rfl, q G1 H1 s1 F1⟩
def cutD (ds : List D) (lo hi : Option Int) : List D := (ds.drop (HT.sIx ds.length 0 lo)).take (HT.sIx ds.length ds.length hi - HT.sIx ds.length 0 lo)
theorem cut_reps {ds : List D} {xs : List V} {lo hi : Option Int} (r : Reps K fo G ds xs) : Reps K fo G (cutD ds lo hi) (cutV xs lo hi) := by
  unfold cutD cutV
  rw [r.len]
  exact (r.drop _).take _
def rSlAA (K : PySem.W.Frag) : V → Option Int → Option Int → Hp → VK → Prop := fun x lo hi H Q => rSlL K x lo hi H Q ∨ rSlA K x lo hi H Q
theorem sl_A {X : Cx} : SlR X (rSlAA X.K) := sl_list.or sl_tupA
def slcD (d : D) (lo hi : Option Int) (t : Nat) (Q : KD) : Prop := match d with
  | .lst ds => Q (.lst (cutD ds lo hi)) t
  | .tup ds => Q (.tup (cutD ds lo hi)) t
  | _ => False
def wSl (we : WE) (wl wh : WO) : WE := fun δ t Q => we δ t fun d t1 => wl δ t1 fun lo t2 => wh δ t2 fun hi t3 => slcD d lo hi t3 Q
theorem slcD_mono {d : D} {lo hi : Option Int} {t : Nat} {P P' : KD} (k : ∀ d t, P d t → P' d t) (h : slcD d lo hi t P) : slcD d lo hi t P' := by
  cases d <;> first | exact h.elim | exact k _ _ h
theorem sn_sl {tl th : TO} {wl wh : WO} (he : Sn K te we) (hl : SnO K tl wl) (hh : SnO K th wh) : Sn K (tSl (rSlAA K) te tl th) (wSl we wl wh) := by
  refine ⟨fun δ t P P' k q => he.mono _ _ _ _ (fun d t1 q => hl.mono _ _ _ _ (fun lo t2 q => hh.mono _ _ _ _ (fun hi t3 q => slcD_mono k q) q) q) q, fun fo H0 δ t σ G H Q E F q => ?_⟩
  refine he.run fo H0 δ t σ G H _ E F (he.mono _ _ _ _ (fun d t1 q v G1 H1 s1 F1 r1 => ?_) q)
  refine hl.run fo H0 δ t1 σ G1 H1 _ (E.step s1) F1 (hl.mono _ _ _ _ (fun lo t2 q G2 H2 s2 F2 => ?_) q)
  refine hh.run fo H0 δ t2 σ G2 H2 _ ((E.step s1).step s2) F2 (hh.mono _ _ _ _ (fun hi t3 q G3 H3 s3 F3 => ?_) q)
  have s13 := (s1.trans s2).trans s3
  have r3 := r1.mono (s2.trans s3).gg
  cases d with
  | tup ds =>
    cases r3 with
    | @tup a xs _ ha ra =>
    refine .inr ⟨a, xs, rfl, sqT_same s3.sub ha, fun hw => ?_, fun hw p hp => ?_⟩
    · have e : cutD ds lo hi = ds := by
        unfold cutD
        rw [← ra.len, hw.1, hw.2, List.drop_zero, Nat.sub_zero, ra.len, List.take_length]
      have q' : Up K fo G H Q (.tup (cutD ds lo hi)) t3 := q
      rw [e] at q'
      exact (q'.step s13).at s3.sub F3 (.tup ha ra)
    · exact ((show Up K fo G H Q (.tup (cutD ds lo hi)) t3 from q).step s13).tup s3.sub F3 (cut_reps ra) hp
  | lst ds =>
    cases r3 with
    | @lst a xs _ ha ra => exact .inl ⟨a, xs, rfl, SqL.of (s3.sub _ _ ha), fun p hp => ((show Up K fo G H Q (.lst (cutD ds lo hi)) t3 from q).step s13).lst s3.sub F3 (cut_reps ra) hp⟩
  | _ => exact q.elim
/-- xs[::-1] of a list -/
def lsD (d : D) (Q : List D → Prop) : Prop := match d with
  | .lst ds => Q ds
  | _ => False
theorem lsD_of {d : D} {Q : List D → Prop} (h : lsD d Q) : ∃ ds, d = .lst ds ∧ Q ds := by
  cases d <;> first | exact h.elim | exact ⟨_, rfl, h⟩
theorem lsD_mono {d : D} {Q Q' : List D → Prop} (k : ∀ b, Q b → Q' b) (h : lsD d Q) : lsD d Q' := by
  cases d <;> first | exact h.elim | exact k _ h
def wRev (we : WE) : WE := fun δ t Q => we δ t fun d t1 => lsD d fun ds => Q (.lst ds.reverse) t1
theorem sn_rev (h : Sn K te we) : Sn K (tRevL K te) (wRev we) := by
  refine ⟨fun δ t P P' k q => h.mono _ _ _ _ (fun d t q => lsD_mono (fun i q => k _ _ q) q) q, fun fo H0 δ t σ G H Q E F q => ?_⟩
  refine h.run fo H0 δ t σ G H _ E F (h.mono _ _ _ _ (fun d t1 q v G1 H1 s1 F1 r1 => ?_) q)
  obtain ⟨ds, rfl, q⟩ := lsD_of q
  cases r1 with
  | @lst a xs _ ha ra => exact ⟨a, xs, rfl, SqL.of (s1.sub _ _ ha), fun p hp => (q.step s1).lst s1.sub F1 ra.rev hp⟩

/-! ### calls of defs -/
structure Con where
  c : List D → Nat → KD → Prop
  mono : ∀ ds t (P P' : KD), (∀ d t, P d t → P' d t) → c ds t P → c ds t P'
def LSp (K : PySem.W.Frag) (C : Con) : Sp := fun vs H Q _ => ∃ (fo : Fo) (t : Nat) (G : Hp) (ds : List D), (∀ fc, fo = some fc → G fc.1 = none) ∧ Same G H ∧ Reps K fo G ds vs ∧ Feed fo t H ∧ C.c ds t (Up K fo G H Q)
def wCall (C : Con) (wr : WA) : WE := fun δ t Q => wr δ t fun ds t1 => C.c ds t1 Q
theorem sn_call {C : Con} {E : XK} (ha : SnA K tr wr) : Sn K (tCall (LSp K C) [] E tr) (wCall C wr) := by
  refine ⟨fun δ t P P' k h => ha.mono _ _ _ _ (fun x t1 h1 => C.mono _ _ _ _ k h1) h, fun fo H0 δ t σ G H Q E F h => ?_⟩
  refine ha.run fo H0 δ t σ G H _ E F (ha.mono _ _ _ _ (fun x t1 h1 u G1 H1 s1 F1 r1 => ?_) h)
  show LSp K C (u ++ []) H1 Q _
  rw [List.append_nil]
  exact ⟨fo, t1, G1, x, (E.step s1).fd, s1.sub, r1, F1, C.mono _ _ _ _ (fun d t q => q.step s1) h1⟩
end
end DL

/-! ## DL5 -/
set_option maxRecDepth 100000
/-! what is walked, targets, comprehensions -/
namespace DL
open PySem PySem.Spec PyProof.Rows L2

/-! ### what is walked -/
structure Wk (J : It) (xs : List V) (S : Hp → Prop) : Prop where
  go : ∀ i H x, S H → xs[i]? = some x → J.go i H
  stop : ∀ i H, S H → xs.length ≤ i → J.stop i H
  yld : ∀ i H v H', S H → i < xs.length → J.yld i H v H' → H' = H ∧ xs[i]? = some v
theorem wk_list {K : PySem.W.Frag} {a : Addr} {xs : List V} : Wk (Itl K a) xs (fun H => SqL K H a xs) :=
  ⟨fun i H x h e => ⟨xs, x, h, e⟩, fun i H h e => ⟨xs, h, e⟩, fun i H v H' h _ y => ⟨y.1, y.2 xs h⟩⟩
theorem wk_tup {K : PySem.W.Frag} {a : Addr} {xs : List V} : Wk (Itt K a) xs (fun H => SqT K H a xs) :=
  ⟨fun i H x h e => ⟨xs, x, h, e⟩, fun i H h e => ⟨xs, h, e⟩, fun i H v H' h _ y => ⟨y.1, y.2 xs h⟩⟩
theorem wk_range {n : Nat} : Wk (Itr 0 n) ((List.range n).map fun (k : Nat) => V.int (k : Int)) (fun _ => True) := by
  refine ⟨fun i H x _ e => ?_, fun i H _ e => ?_, fun i H v H' _ hi y => ?_⟩
  · have := (List.getElem?_eq_some_iff.mp e).1
    rw [List.length_map, List.length_range] at this
    exact this
  · rw [List.length_map, List.length_range] at e
    exact e
  · obtain ⟨rfl, rfl⟩ := y
    refine ⟨rfl, ?_⟩
    rw [List.length_map, List.length_range] at hi
    rw [List.getElem?_map, List.getElem?_range hi, Int.zero_add]
    rfl
section
variable {X : Cx} {tg : Expr}
/-- a list or a tuple -/
def iSeq (K : PySem.W.Frag) (tl : TE) : TI := fun σ H R => tl σ H fun x H1 => ∃ a, x = .ref a ∧ (((∃ xs, SqL K H1 a xs) ∧ R (Itl K a) H1) ∨ ((∃ xs, SqT K H1 a xs) ∧ R (Itt K a) H1))
theorem pi_seq {l : Expr} {tl : TE} (hl : PE X l tl) : PI X tg l (iSeq X.K tl) := by
  refine ⟨fun pins s σ H R I h => ?_⟩
  refine thn (hl.run pins s σ H _ I h) fun v s1 ⟨x, H1, I1, r1, q1⟩ => ?_
  obtain ⟨a, e, ⟨⟨xs, hq⟩, q⟩ | ⟨⟨xs, hq⟩, q⟩⟩ := q1
  · subst e
    cases r1
    obtain ⟨its, rv, p, hz⟩ := I1.list hq
    refine wpAny_pyIter_list p.isList ?_
    refine ⟨s1.heap.objs.size, [s1.heap.objs.size], _, _, H1, rfl, I1.kept (t' := s1.toks) fun b o e => Heap.get?_push_of_some _ e, turn_list a _, ⟨_, Heap.get?_push_size _ rfl, rfl, rfl⟩, fun b hb => ?_, q⟩
    have e : b = s1.heap.objs.size := by simpa using hb
    subst e
    exact I1.fpOk (Nat.le_refl _) (I1.hok.fresh (Nat.le_refl _))
  · subst e
    cases r1
    obtain ⟨its, rv, p, hz⟩ := I1.tuple hq
    refine wpAny_pyIter_tuple (show s1.heap.IsTuple a its.toArray from p) ?_
    refine ⟨s1.heap.objs.size, [s1.heap.objs.size], _, _, H1, rfl, I1.kept (t' := s1.toks) fun b o e => Heap.get?_push_of_some _ e, turn_tuple a _, ⟨_, Heap.get?_push_size _ rfl, rfl, rfl⟩, fun b hb => ?_, q⟩
    have e : b = s1.heap.objs.size := by simpa using hb
    subst e
    exact I1.fpOk (Nat.le_refl _) (I1.hok.fresh (Nat.le_refl _))
end
abbrev WI := List Sl → Nat → (List D → Nat → Prop) → Prop
structure SnI (K : PySem.W.Frag) (ti : TI) (w : WI) : Prop where
  mono : ∀ δ t (P P' : List D → Nat → Prop), (∀ d t, P d t → P' d t) → w δ t P → w δ t P'
  run : ∀ fo H0 δ t σ G H (R : It → Hp → Prop), En K fo H0 δ σ G H → Feed fo t H → w δ t (fun ds t' => ∀ J xs S G' H', Step fo G H G' H' → Feed fo t' H' → Reps K fo G' ds xs → Wk J xs S → (∀ H2, Same G' H2 → S H2) → R J H') → ti σ H R
structure SnIc (K : PySem.W.Frag) (ti : TI) (w : WI) : Prop where
  mono : ∀ δ t (P P' : List D → Nat → Prop), (∀ d t, P d t → P' d t) → w δ t P → w δ t P'
  run : ∀ fo H0 δ t σ G H (R : It → Hp → Prop), En K fo H0 δ σ G H → Feed fo t H → w δ t (fun ds t' => ∀ J xs S G' H', Step fo G H G' H' → Feed fo t' H' → Reps K fo G' ds xs → Wk J xs S → (∀ G2 H2, Step fo G' H' G2 H2 → S H2) → R J H') → ti σ H R
section
variable {K : PySem.W.Frag} {fo : Fo} {G H G' H' H0 : Hp} {te : TE} {we : WE} {tr : TA} {wr : WA} {δ : List Sl} {σ : L2.St}
def wSeq (we : WE) : WI := fun δ t Q => we δ t fun d t1 => sqD d fun ds => Q ds t1
theorem sni_seq (h : Sn K te we) : SnI K (iSeq K te) (wSeq we) := by
  refine ⟨fun δ t P P' k q => h.mono _ _ _ _ (fun d t q => sqD_mono (fun ds q => k _ _ q) q) q, fun fo H0 δ t σ G H R E F q => ?_⟩
  refine h.run fo H0 δ t σ G H _ E F (h.mono _ _ _ _ (fun d t1 q v G1 H1 s1 F1 r1 => ?_) q)
  obtain ⟨ds, e, q⟩ := sqD_of q
  rcases e with e | e
  · subst e
    cases r1 with
    | tup ha ra => exact ⟨_, rfl, .inr ⟨⟨_, sqT_same s1.sub ha⟩, q _ _ _ G1 H1 s1 F1 ra wk_tup fun H2 s => sqT_same s ha⟩⟩
  · subst e
    cases r1 with
    | lst ha ra => exact ⟨_, rfl, .inl ⟨⟨_, SqL.of (s1.sub _ _ ha)⟩, q _ _ _ G1 H1 s1 F1 ra wk_list fun H2 s => SqL.of (s _ _ ha)⟩⟩
def wRng (wr : WA) : WI := fun δ t Q => wr δ t fun ds t1 => c1D ds fun d => inD d fun j => (-1000 ≤ j ∧ j ≤ 1000) ∧ Q ((List.range j.toNat).map fun (k : Nat) => D.int (k : Int)) t1
theorem reps_range (ks : List Nat) : Reps K fo G (ks.map fun (k : Nat) => D.int (k : Int)) (ks.map fun (k : Nat) => V.int (k : Int)) := by
  induction ks with
  | nil => exact .nil
  | cons k ks ih => exact .cons (.int _) ih
theorem sni_rng (h : SnA K tr wr) : SnI K (iRng1 tr) (wRng wr) := by
  refine ⟨fun δ t P P' k q => h.mono _ _ _ _ (fun d t q => c1D_mono (fun d q => inD_mono (fun j q => ⟨q.1, k _ _ q.2⟩) q) q) q, fun fo H0 δ t σ G H R E F q => ?_⟩
  refine h.run fo H0 δ t σ G H _ E F (h.mono _ _ _ _ (fun d t1 q v G1 H1 s1 F1 r1 => ?_) q)
  obtain ⟨d, rfl, q⟩ := c1D_of q
  obtain ⟨j, rfl, c, q⟩ := inD_of q
  obtain ⟨u, rfl, r⟩ := reps1 r1
  cases r
  exact ⟨j, rfl, by omega, by omega, q _ _ _ G1 H1 s1 F1 (reps_range _) wk_range fun _ _ => trivial⟩
theorem SnI.c {ti : TI} {w : WI} (h : SnI K ti w) : SnIc K ti w :=
  ⟨h.mono, fun fo H0 δ t σ G H R E F q => h.run fo H0 δ t σ G H R E F (h.mono _ _ _ _ (fun ds t q J xs S G1 H1 s1 F1 r wk hS => q J xs S G1 H1 s1 F1 r wk fun G2 H2 s2 => hS H2 (s2.gg.trans s2.sub)) q)⟩
def wOwnI (i : Nat) : WI := fun δ t Q => slO δ[i]? fun ds => Q ds t
theorem snic_own {i : Nat} : SnIc K (iSeq K (tVar i)) (wOwnI i) := by
  refine ⟨fun δ t P P' k q => slO_mono (fun ds q => k _ _ q) q, fun fo H0 δ t σ G H Q E F q => ?_⟩
  obtain ⟨ds, e, q⟩ := slO_of q
  obtain ⟨p, xs, h1, h2, h3, h4, h5, h6⟩ := E.own i ds e
  exact ⟨_, h1, p, rfl, .inl ⟨⟨xs, SqL.of h2⟩, q _ xs _ G H (Step.refl E.sub) F h6 wk_list fun G2 H2 s2 => SqL.of (s2.hh p _ h2 fun fc e => (h5 fc e).1)⟩⟩

/-! ### slots -/
theorem En.set (E : En K fo H0 δ σ G H) {i : Nat} {d : D} {v : V} (r : Rep K fo G d v) : En K fo H0 (δ.set i (.dat d)) (σ.set i (some v)) G H := by
  refine ⟨E.sub, E.fd, by rw [List.length_set, List.length_set]; exact E.len, fun j e h => ?_, fun j ds h => ?_, fun j k ds es p hjk h1 h2 h3 => ?_⟩
  · rw [List.getElem?_set] at h
    by_cases hij : i = j
    · subst hij
      rw [if_pos rfl] at h
      by_cases hl : i < δ.length
      · rw [if_pos hl] at h
        cases h
        exact ⟨v, List.getElem?_set_self (by rw [E.len]; exact hl), r⟩
      · rw [if_neg hl] at h
        cases h
    · rw [if_neg hij] at h
      obtain ⟨u, h1, h2⟩ := E.dat j e h
      exact ⟨u, by rw [List.getElem?_set_ne hij]; exact h1, h2⟩
  · have hij : i ≠ j := fun hij => by
      subst hij
      rw [List.getElem?_set, if_pos rfl] at h
      split at h <;> cases h
    rw [List.getElem?_set_ne hij] at h
    rw [List.getElem?_set_ne hij]
    exact E.own j ds h
  · have hij : i ≠ j := fun hij => by
      subst hij
      rw [List.getElem?_set, if_pos rfl] at h1
      split at h1 <;> cases h1
    have hik : i ≠ k := fun hij => by
      subst hij
      rw [List.getElem?_set, if_pos rfl] at h2
      split at h2 <;> cases h2
    rw [List.getElem?_set_ne hij] at h1 h3
    rw [List.getElem?_set_ne hik] at h2 ⊢
    exact E.dis j k ds es p hjk h1 h2 h3
theorem En.unset (E : En K fo H0 δ σ G H) {i : Nat} {o : Option V} : En K fo H0 (δ.set i .no) (σ.set i o) G H := by
  refine ⟨E.sub, E.fd, by rw [List.length_set, List.length_set]; exact E.len, fun j e h => ?_, fun j ds h => ?_, fun j k ds es p hjk h1 h2 h3 => ?_⟩
  · have hij : i ≠ j := fun hij => by
      subst hij
      rw [List.getElem?_set, if_pos rfl] at h
      split at h <;> cases h
    rw [List.getElem?_set_ne hij] at h
    rw [List.getElem?_set_ne hij]
    exact E.dat j e h
  · have hij : i ≠ j := fun hij => by
      subst hij
      rw [List.getElem?_set, if_pos rfl] at h
      split at h <;> cases h
    rw [List.getElem?_set_ne hij] at h
    rw [List.getElem?_set_ne hij]
    exact E.own j ds h
  · have hij : i ≠ j := fun hij => by
      subst hij
      rw [List.getElem?_set, if_pos rfl] at h1
      split at h1 <;> cases h1
    have hik : i ≠ k := fun hij => by
      subst hij
      rw [List.getElem?_set, if_pos rfl] at h2
      split at h2 <;> cases h2
    rw [List.getElem?_set_ne hij] at h1 h3
    rw [List.getElem?_set_ne hik] at h2 ⊢
    exact E.dis j k ds es p hjk h1 h2 h3
def wipeD (δ : List Sl) : List Nat → List Sl
  | [] => δ
  | v :: vs => (wipeD δ vs).set v .no
theorem En.wipe (E : En K fo H0 δ σ G H) : ∀ vs : List Nat, En K fo H0 (wipeD δ vs) (L2.wipe σ vs) G H
  | [] => E
  | v :: vs => (En.wipe E vs).unset
theorem wipe_get (σ : L2.St) : ∀ (vs : List Nat) (k : Nat), (wipe σ vs)[k]? = if k ∈ vs then (if k < σ.length then some none else none) else σ[k]?
  | [], k => by simp [wipe]
  | v :: vs, k => by
    unfold wipe
    rw [List.getElem?_set, wipe_get σ vs k, wipe_length]
    by_cases h : v = k
    · subst h
      simp
    · have h' : ¬ k = v := fun e => h e.symm
      simp [h, h']
theorem wipe_same {σ σ' : L2.St} {vs ts : List Nat} (hl : σ'.length = (wipe σ vs).length) (hk : ∀ k, k ∉ ts → σ'[k]? = (wipe σ vs)[k]?) (ht : ∀ k ∈ ts, k ∈ vs) : wipe σ' vs = wipe σ vs := by
  apply List.ext_getElem?
  intro k
  rw [wipe_length] at hl
  rw [wipe_get σ' vs k, wipe_get σ vs k, hl]
  by_cases h : k ∈ vs
  · rw [if_pos h, if_pos h]
  · rw [if_neg h, if_neg h, hk k (fun z => h (ht k z)), wipe_get, if_neg h]

/-! ### targets -/
abbrev WG := D → List Sl → (List Sl → Prop) → Prop
abbrev WGs := List D → List Sl → (List Sl → Prop) → Prop
structure SnG (K : PySem.W.Frag) (g : TG) (ts : List Nat) (w : WG) : Prop where
  mono : ∀ d δ (P P' : List Sl → Prop), (∀ δ, P δ → P' δ) → w d δ P → w d δ P'
  run : ∀ fo H0 δ σ G H v d (Q : L2.St → Hp → Prop), En K fo H0 δ σ G H → Rep K fo G d v → w d δ (fun δ' => ∀ σ', En K fo H0 δ' σ' G H → σ'.length = σ.length → (∀ k, k ∉ ts → σ'[k]? = σ[k]?) → Q σ' H) → g v σ H Q
structure SnGs (K : PySem.W.Frag) (g : TGs) (ts : List Nat) (w : WGs) : Prop where
  mono : ∀ d δ (P P' : List Sl → Prop), (∀ δ, P δ → P' δ) → w d δ P → w d δ P'
  run : ∀ fo H0 δ σ G H v d (Q : L2.St → Hp → Prop), En K fo H0 δ σ G H → Reps K fo G d v → w d δ (fun δ' => ∀ σ', En K fo H0 δ' σ' G H → σ'.length = σ.length → (∀ k, k ∉ ts → σ'[k]? = σ[k]?) → Q σ' H) → g v σ H Q
def wgName (i : Nat) : WG := fun d δ Q => Q (δ.set i (.dat d))
theorem sng_name {i : Nat} : SnG K (gName i) [i] (wgName i) :=
  ⟨fun d δ P P' k q => k _ q, fun fo H0 δ σ G H v d Q E r q => q _ (E.set r) (List.length_set ..) fun k hk => List.getElem?_set_ne (by simpa using Ne.symm (by simpa using hk))⟩
def wgNil : WGs := fun ds δ Q => match ds with
  | [] => Q δ
  | _ => False
def wgCons (w : WG) (u : WGs) : WGs := fun ds δ Q => match ds with
  | d :: r => w d δ fun δ' => u r δ' Q
  | _ => False
theorem sngs_nil : SnGs K gNil [] wgNil := by
  refine ⟨fun ds δ P P' k q => ?_, fun fo H0 δ σ G H v ds Q E r q => ?_⟩
  · cases ds <;> first | exact k _ q | exact q.elim
  · cases ds with
    | nil => cases r; exact ⟨rfl, (show ∀ σ', _ from q) σ E rfl fun _ _ => rfl⟩
    | cons d ds => exact q.elim
theorem sngs_cons {g : TG} {gs : TGs} {ts us : List Nat} {w : WG} {u : WGs} (h : SnG K g ts w) (hs : SnGs K gs us u) : SnGs K (gCons g gs) (ts ++ us) (wgCons w u) := by
  refine ⟨fun ds δ P P' k q => ?_, fun fo H0 δ σ G H v ds Q E r q => ?_⟩
  · cases ds with
    | nil => exact q.elim
    | cons d ds => exact h.mono _ _ _ _ (fun δ q => hs.mono _ _ _ _ k q) q
  · cases ds with
    | nil => exact q.elim
    | cons d ds =>
      cases r with
      | cons r rr =>
      refine ⟨_, _, rfl, h.run fo H0 δ σ G H _ d _ E r (h.mono _ _ _ _ (fun δ1 q1 σ1 E1 l1 k1 => ?_) q)⟩
      refine hs.run fo H0 δ1 σ1 G H _ ds _ E1 rr (hs.mono _ _ _ _ (fun δ2 q2 σ2 E2 l2 k2 => ?_) q1)
      exact q2 σ2 E2 (l2.trans l1) fun k hk => (k2 k fun z => hk (List.mem_append_right _ z)).trans (k1 k fun z => hk (List.mem_append_left _ z))
def eqOk (m n : Nat) (P : Prop) : Prop := match Nat.beq m n with
  | true => P
  | false => False
theorem eqOk_of {m n : Nat} {P : Prop} (h : eqOk m n P) : m = n ∧ P := by
  unfold eqOk at h
  split at h
  · rename_i e
    exact ⟨Nat.eq_of_beq_eq_true e, h⟩
  · exact h.elim
theorem eqOk_mk {m n : Nat} {P : Prop} (h : m = n) (p : P) : eqOk m n P := by
  unfold eqOk
  subst h
  rw [Nat.beq_refl m]
  exact p
def tpD (d : D) (Q : List D → Prop) : Prop := match d with
  | .tup ds => Q ds
  | _ => False
theorem tpD_of {d : D} {Q : List D → Prop} (h : tpD d Q) : ∃ ds, d = .tup ds ∧ Q ds := by
  cases d <;> first | exact h.elim | exact ⟨_, rfl, h⟩
theorem tpD_mono {d : D} {Q Q' : List D → Prop} (k : ∀ b, Q b → Q' b) (h : tpD d Q) : tpD d Q' := by
  cases d <;> first | exact h.elim | exact k _ h
def wgTup (n : Nat) (w : WGs) : WG := fun d δ Q => tpD d fun ds => eqOk ds.length n (w ds δ Q)
theorem sng_tup {gs : TGs} {ts : List Nat} {w : WGs} {n : Nat} (h : SnGs K gs ts w) : SnG K (gTup K n gs) ts (wgTup n w) := by
  refine ⟨fun d δ P P' k q => ?_, fun fo H0 δ σ G H v d Q E r q => ?_⟩
  · obtain ⟨ds, rfl, q⟩ := tpD_of q
    obtain ⟨c, q⟩ := eqOk_of q
    exact eqOk_mk c (h.mono _ _ _ _ k q)
  · obtain ⟨ds, rfl, q⟩ := tpD_of q
    obtain ⟨c, q⟩ := eqOk_of q
    cases r with
    | @tup a xs _ ha ra => exact ⟨a, xs, rfl, sqT_same E.sub ha, by rw [ra.len]; exact c, h.run fo H0 δ σ G H xs ds Q E ra q⟩

/-! ### comprehensions -/
def wYes : WT := fun _ t Q => Q true t
theorem snt_yes : SnT K tYes wYes := ⟨fun _ _ _ _ k q => k _ _ q, fun fo H0 δ t σ G H Q E F q => q.at E.sub F⟩
def lcW (wg : WG) (wt : WT) (we : WE) (δ : List Sl) : List D → List D → Nat → KD → Prop
  | [], acc, t, Q => Q (.lst acc) t
  | x :: r, acc, t, Q => wg x δ fun δ' => wt δ' t fun b t1 => if b = true then we δ' t1 fun d t2 => lcW wg wt we δ r (acc ++ [d]) t2 Q else lcW wg wt we δ r acc t1 Q
theorem lcW_mono {wg : WG} {wt : WT} {we : WE} (hg : ∀ d δ (P P' : List Sl → Prop), (∀ δ, P δ → P' δ) → wg d δ P → wg d δ P') (ht : ∀ δ t (P P' : Bool → Nat → Prop), (∀ d t, P d t → P' d t) → wt δ t P → wt δ t P')
    (he : ∀ δ t (P P' : KD), (∀ d t, P d t → P' d t) → we δ t P → we δ t P') {δ : List Sl} {P P' : KD} (k : ∀ d t, P d t → P' d t) : ∀ (ds acc : List D) (t : Nat), lcW wg wt we δ ds acc t P → lcW wg wt we δ ds acc t P'
  | [], acc, t, q => k _ _ q
  | x :: r, acc, t, q => hg _ _ _ _ (fun δ' q => ht _ _ _ _ (fun b t1 q => by
      cases b with
      | true => exact he _ _ _ _ (fun d t2 q => lcW_mono hg ht he k r (acc ++ [d]) t2 q) q
      | false => exact lcW_mono hg ht he k r acc t1 q) q) q
def wLc (wi : WI) (wg : WG) (wt : WT) (we : WE) (vs : List Nat) : WE := fun δ t Q => wi δ t fun ds t1 => ds.length ≤ 1000 ∧ lcW wg wt we (wipeD δ vs) ds [] t1 Q
theorem lc_gen {ti : TI} {wi : WI} {g : TG} {ts : List Nat} {wg : WG} {tt : TT} {wt : WT} {vs : List Nat} (hi : SnIc K ti wi) (hg : SnG K g ts wg) (ht : SnT K tt wt) (he : Sn K te we) (hts : ∀ k ∈ ts, k ∈ vs)
    {t : Nat} {Q : VK} {Z : KD} (E : En K fo H0 δ σ G H) (F : Feed fo t H)
    (fin : ∀ acc accV tc G1 H1 Gc Hc Dd, Z (.lst acc) tc → Step fo G H G1 H1 → H1 Dd = none → (∀ fc, fo = some fc → Dd ≠ fc.1 ∧ Dd ≠ fc.2) → Step fo G1 H1 Gc Hc → Gc Dd = none → Hc Dd = some (.lst accV) → Reps K fo Gc acc accV → Feed fo tc Hc → Q (.ref Dd) Hc)
    (q : wLc wi wg wt we vs δ t Z) : tLc ti g tt te vs σ H Q := by
  refine hi.run fo H0 δ t σ G H _ E F (hi.mono _ _ _ _ (fun ds t1 q J xs S G1 H1 s1 F1 r1 wk hS Dd hD => ?_) q)
  obtain ⟨c, q⟩ := q
  have hlen := r1.len
  have nD : ∀ fc, fo = some fc → Dd ≠ fc.1 ∧ Dd ≠ fc.2 := fun fc e => ⟨fun z => F1.ne1 e (z ▸ hD), fun z => F1.ne2 e (z ▸ hD)⟩
  let Nx : Nat → Hp → Prop := fun i Hc => ∃ (Gc : Hp) (acc : List D) (accV : List V) (tc : Nat), Step fo G1 H1 Gc Hc ∧ Gc Dd = none ∧ Hc Dd = some (.lst accV) ∧ Reps K fo Gc acc accV ∧ acc.length ≤ i ∧ Feed fo tc Hc ∧ lcW wg wt we (wipeD δ vs) (ds.drop i) acc tc Z
  refine ⟨fun i m Hc => m = xs.length - i ∧ i ≤ xs.length ∧ Nx i Hc, ⟨_, rfl, Nat.zero_le _, G1, [], [], t1, Step.hid s1.sub hD, s1.sub.free hD, upd_same, .nil, Nat.le_refl _, F1.laid hD, q⟩, ?_⟩
  rintro i m Hc ⟨rfl, hi', Gc, acc, accV, tc, sc, gD, hDc, ra, la, Fc, qc⟩
  by_cases hlt : i < xs.length
  · obtain ⟨x, hx⟩ : ∃ x, xs[i]? = some x := ⟨xs[i], List.getElem?_eq_getElem hlt⟩
    obtain ⟨d, hd, rd⟩ := r1.getV hx
    refine .inr ⟨wk.go i Hc x (hS Gc Hc sc) hx, Nx (i + 1), fun H' n => ⟨xs.length - (i + 1), by omega, rfl, hlt, n⟩, fun v H' y => ?_⟩
    obtain ⟨rfl, hv⟩ := wk.yld i Hc v H' (hS Gc Hc sc) hlt y
    rw [hx] at hv
    cases hv
    have ed : ds.drop i = d :: ds.drop (i + 1) := by
      have hi2 : i < ds.length := by rw [← hlen]; exact hlt
      rw [List.drop_eq_getElem_cons hi2]
      rw [List.getElem?_eq_getElem hi2] at hd
      rw [Option.some.inj hd]
    rw [ed] at qc
    refine hg.run fo H0 (wipeD δ vs) (wipe σ vs) Gc H' x d _ (((E.step s1).step sc).wipe vs) (rd.mono sc.gg) (hg.mono _ _ _ _ (fun δ' q σ' E' l' k' => ?_) qc)
    refine ⟨wipe_same l' k' hts, ?_⟩
    refine ht.run fo H0 δ' tc σ' Gc H' _ E' Fc (ht.mono _ _ _ _ (fun b t2 q G2 H2 s2 F2 => ?_) q)
    cases b with
    | false =>
      have hh : H2 Dd = some (.lst accV) := s2.hh _ _ hDc fun fc e => (nD fc e).1
      exact ⟨G2, acc, accV, t2, sc.trans s2, s2.new _ gD (by rw [hDc]; simp), hh, ra.mono s2.gg, by omega, F2, q⟩
    | true =>
      refine he.run fo H0 δ' t2 σ' G2 H2 _ (E'.step s2) F2 (he.mono _ _ _ _ (fun d3 t3 q v3 G3 H3 s3 F3 r3 => ?_) q)
      have s23 := s2.trans s3
      have hh : H3 Dd = some (.lst accV) := s23.hh _ _ hDc fun fc e => (nD fc e).1
      have gD3 : G3 Dd = none := s23.new _ gD (by rw [hDc]; simp)
      have sc3 := sc.trans s23
      have la2 : accV.length = acc.length := ra.len
      refine ⟨accV, hh, Nat.lt_of_le_of_lt (show accV.length ≤ 1000 by omega) (by decide), G3, acc ++ [d3], accV ++ [v3], t3, ⟨fun p o e h => ?_, sc3.gg, fun p o e => ?_, sc3.new, sc3.fd⟩, gD3, upd_same, (ra.mono s23.gg).append (.cons r3 .nil), by simp; omega, F3.upd nD, q⟩
      · rw [upd_ne (ne_of_none e hD)]
        exact sc3.hh p o e h
      · rw [upd_ne (ne_of_none e gD3)]
        exact s3.sub p o e
  · have e : i = xs.length := by omega
    subst e
    refine .inl ⟨wk.stop _ Hc (hS Gc Hc sc) (Nat.le_refl _), ?_⟩
    rw [hlen, List.drop_length] at qc
    exact fin acc accV tc G1 H1 Gc Hc Dd qc s1 hD nD sc gD hDc ra Fc
theorem sn_lc {ti : TI} {wi : WI} {g : TG} {ts : List Nat} {wg : WG} {tt : TT} {wt : WT} {vs : List Nat} (hi : SnIc K ti wi) (hg : SnG K g ts wg) (ht : SnT K tt wt) (he : Sn K te we) (hts : ∀ k ∈ ts, k ∈ vs) :
    Sn K (tLc ti g tt te vs) (wLc wi wg wt we vs) := by
  refine ⟨fun δ t P P' k q => hi.mono _ _ _ _ (fun ds t q => ⟨q.1, lcW_mono hg.mono ht.mono he.mono k _ _ _ q.2⟩) q, fun fo H0 δ t σ G H Q E F q => ?_⟩
  refine lc_gen hi hg ht he hts E F (fun acc accV tc G1 H1 Gc Hc Dd qc s1 hD nD sc gD hDc ra Fc => ?_) q
  refine (show Up K fo G H Q (.lst acc) tc from qc) (.ref Dd) (L2.upd Gc Dd (.lst accV)) Hc (s1.trans ⟨sc.hh, fun p o e => ?_, fun p o e => ?_, fun p h1 h2 => ?_, fun fc e h => ?_⟩) Fc (.lst upd_same (ra.mono fun p o e => ?_))
  · have z := sc.gg _ _ e
    rw [upd_ne (ne_of_none z gD)]; exact z
  · by_cases hp : p = Dd
    · subst hp
      rw [upd_same] at e
      cases e
      exact hDc
    · rw [upd_ne hp] at e
      exact sc.sub _ _ e
  · have np : p ≠ Dd := fun z => h2 (by rw [z]; exact hD)
    rw [upd_ne np]
    exact sc.new p h1 h2
  · rw [upd_ne (Ne.symm (nD fc e).1)]
    exact sc.fd fc e h
  · rw [upd_ne (ne_of_none e gD)]; exact e
/-- an expression that gives a new list, held by none but the place it goes to -/
structure SnN (K : PySem.W.Frag) (te : TE) (w : WE) : Prop where
  mono : ∀ δ t (P P' : KD), (∀ d t, P d t → P' d t) → w δ t P → w δ t P'
  run : ∀ fo H0 δ t σ G H (Q : VK), En K fo H0 δ σ G H → Feed fo t H → w δ t (fun d t' => lsD d fun ds => ∀ p xs G' H' H2, Step fo G H G' H' → H' p = none → H2 = upd H' p (.lst xs) → Feed fo t' H' → Reps K fo G' ds xs → Q (.ref p) H2) → te σ H Q
def del (H : Hp) (p : Addr) : Hp := fun a => if a = p then none else H a
theorem del_same {H : Hp} {p : Addr} : del H p p = none := if_pos rfl
theorem del_ne {H : Hp} {p a : Addr} (h : a ≠ p) : del H p a = H a := if_neg h
theorem del_upd {H : Hp} {p : Addr} {o : HO} (h : H p = some o) : H = L2.upd (del H p) p o := by
  funext a
  by_cases ha : a = p
  · rw [ha, upd_same]; exact h
  · rw [upd_ne ha, del_ne ha]
theorem snn_lc {ti : TI} {wi : WI} {g : TG} {ts : List Nat} {wg : WG} {tt : TT} {wt : WT} {vs : List Nat} (hi : SnIc K ti wi) (hg : SnG K g ts wg) (ht : SnT K tt wt) (he : Sn K te we) (hts : ∀ k ∈ ts, k ∈ vs) :
    SnN K (tLc ti g tt te vs) (wLc wi wg wt we vs) := by
  refine ⟨fun δ t P P' k q => hi.mono _ _ _ _ (fun ds t q => ⟨q.1, lcW_mono hg.mono ht.mono he.mono k _ _ _ q.2⟩) q, fun fo H0 δ t σ G H Q E F q => ?_⟩
  refine lc_gen hi hg ht he hts E F (fun acc accV tc G1 H1 Gc Hc Dd qc s1 hD nD sc gD hDc ra Fc => ?_) q
  have hD0 : H Dd = none := by
    cases e : H Dd with
    | none => rfl
    | some o =>
      rw [s1.hh Dd o e fun fc e => (nD fc e).1] at hD
      cases hD
  refine (show ∀ p xs G' H' H2, _ from qc) Dd accV Gc (del Hc Dd) Hc ⟨fun p o e h => ?_, s1.gg.trans sc.gg, fun p o e => ?_, fun p h1 h2 => (s1.trans sc).new p h1 h2, (s1.trans sc).fd⟩ del_same (del_upd hDc) (fun fc e => ?_) ra
  · rw [del_ne (ne_of_none e hD0)]
    exact (s1.trans sc).hh p o e h
  · rw [del_ne (ne_of_none e gD)]
    exact sc.sub p o e
  · obtain ⟨ns, a, l, h1, h2, h3⟩ := Fc fc e
    exact ⟨ns, a, l, by rw [del_ne (Ne.symm (nD fc e).1)]; exact h1, by rw [del_ne (Ne.symm (nD fc e).2)]; exact h2, h3⟩
end
end DL

/-! ## DL6 -/
set_option maxRecDepth 100000
/-! statements, defs -/
namespace DL
open PySem PySem.Spec PyProof.Rows L2

structure ED where
  nx : List Sl → Nat → Prop
  rt : KD
  bk : List Sl → Nat → Prop := fun _ _ => False
  ct : List Sl → Nat → Prop := fun _ _ => False
abbrev WS := ED → List Sl → Nat → Prop
def Lift (K : PySem.W.Frag) (fo : Fo) (G0 H0 : Hp) (P : List Sl → Nat → Prop) (R : L2.St → Hp → Prop) : Prop := ∀ δ t σ G H, P δ t → En K fo H0 δ σ G H → Feed fo t H → Step fo G0 H0 G H → R σ H
structure LiftE (K : PySem.W.Frag) (fo : Fo) (G0 H0 : Hp) (E : ED) (Dn : Ends) : Prop where
  nx : Lift K fo G0 H0 E.nx Dn.nx
  bk : Lift K fo G0 H0 E.bk Dn.bk
  ct : Lift K fo G0 H0 E.ct Dn.ct
  rt : ∀ d t v G H, E.rt d t → Rep K fo G d v → Feed fo t H → Step fo G0 H0 G H → Dn.rt v H
def SnS (K : PySem.W.Frag) (ts : TS) (w : WS) : Prop :=
  ∀ fo G0 H0 E Dn δ t σ G H, LiftE K fo G0 H0 E Dn → En K fo H0 δ σ G H → Feed fo t H → Step fo G0 H0 G H → w E δ t → ts Dn σ H
section
variable {K : PySem.W.Frag} {fo : Fo} {G H G' H' G0 H0 : Hp} {te tb : TE} {we wb : WE} {tr : TA} {wr : WA} {δ : List Sl} {σ : L2.St} {t1 t2 : TS} {w1 w2 : WS} {tt : TT} {wt : WT}
def wNext : WS := fun E δ t => E.nx δ t
def wSeqS (w1 w2 : WS) : WS := fun E δ t => w1 { E with nx := w2 E } δ t
theorem sns_nil : SnS K tNext wNext := fun fo G0 H0 E Dn δ t σ G H L e F s q => L.nx δ t σ G H q e F s
theorem sns_pass : SnS K tNext wNext := sns_nil
theorem sns_seq (h1 : SnS K t1 w1) (h2 : SnS K t2 w2) : SnS K (tSeq t1 t2) (wSeqS w1 w2) := fun fo G0 H0 E Dn δ t σ G H L e F s q =>
  h1 fo G0 H0 { E with nx := w2 E } { Dn with nx := t2 Dn } δ t σ G H ⟨fun δ t σ G H q e F s => h2 fo G0 H0 E Dn δ t σ G H L e F s q, L.bk, L.ct, L.rt⟩ e F s q
def wBreak : WS := fun E δ t => E.bk δ t
def wCont : WS := fun E δ t => E.ct δ t
def wDrop (we : WE) : WS := fun E δ t => we δ t fun _ t1 => E.nx δ t1
theorem sns_drop (h : Sn K te we) : SnS K (tDrop te) (wDrop we) := fun fo G0 H0 E Dn δ t σ G H L e F s q =>
  h.run fo H0 δ t σ G H _ e F (h.mono _ _ _ _ (fun d t1 q v G1 H1 s1 F1 r1 => L.nx δ t1 σ G1 H1 q (e.step s1) F1 (s.trans s1)) q)
def wRet (we : WE) : WS := fun E δ t => we δ t E.rt
theorem sns_ret (h : Sn K te we) : SnS K (tRet te) (wRet we) := fun fo G0 H0 E Dn δ t σ G H L e F s q =>
  h.run fo H0 δ t σ G H _ e F (h.mono _ _ _ _ (fun d t1 q v G1 H1 s1 F1 r1 => L.rt d t1 v G1 H1 q r1 F1 (s.trans s1)) q)
def wIfS (wt : WT) (w1 w2 : WS) : WS := fun E δ t => wt δ t fun b t1 => if b = true then w1 E δ t1 else w2 E δ t1
theorem sns_if (h : SnT K tt wt) (h1 : SnS K t1 w1) (h2 : SnS K t2 w2) : SnS K (tIfS tt t1 t2) (wIfS wt w1 w2) := fun fo G0 H0 E Dn δ t σ G H L e F s q => by
  refine h.run fo H0 δ t σ G H _ e F (h.mono _ _ _ _ (fun b t1 q G1 H1 s1 F1 => ?_) q)
  cases b with
  | true => exact h1 fo G0 H0 E Dn δ t1 σ G1 H1 L (e.step s1) F1 (s.trans s1) q
  | false => exact h2 fo G0 H0 E Dn δ t1 σ G1 H1 L (e.step s1) F1 (s.trans s1) q
def wAsg (we : WE) (wg : WG) : WS := fun E δ t => we δ t fun d t1 => wg d δ fun δ' => E.nx δ' t1
theorem sns_asg {g : TG} {ts : List Nat} {wg : WG} (h : Sn K te we) (hg : SnG K g ts wg) : SnS K (tAsg te g) (wAsg we wg) := fun fo G0 H0 E Dn δ t σ G H L e F s q => by
  refine h.run fo H0 δ t σ G H _ e F (h.mono _ _ _ _ (fun d t1 q v G1 H1 s1 F1 r1 => ?_) q)
  exact hg.run fo H0 δ σ G1 H1 v d _ (e.step s1) r1 (hg.mono _ _ _ _ (fun δ' q σ' E' _ _ => L.nx δ' t1 σ' G1 H1 q E' F1 (s.trans s1)) q)
def par2 (i j : Nat) (ds : List D) (δ : List Sl) (Q : List Sl → Prop) : Prop := match ds with
  | [a, b] => Q ((δ.set i (.dat a)).set j (.dat b))
  | _ => False
theorem par2_of {i j : Nat} {ds : List D} {δ : List Sl} {Q : List Sl → Prop} (h : par2 i j ds δ Q) : ∃ a b, ds = [a, b] ∧ Q ((δ.set i (.dat a)).set j (.dat b)) := by
  match ds, h with
  | [a, b], h => exact ⟨a, b, rfl, h⟩
def wPar (i j : Nat) (wr : WA) : WS := fun E δ t => wr δ t fun ds t1 => par2 i j ds δ fun δ' => E.nx δ' t1
theorem sns_par {i j : Nat} (h : SnA K tr wr) : SnS K (tPar i j tr) (wPar i j wr) := fun fo G0 H0 E Dn δ t σ G H L e F s q => by
  refine h.run fo H0 δ t σ G H _ e F (h.mono _ _ _ _ (fun ds t1 q vs G1 H1 s1 F1 r1 => ?_) q)
  obtain ⟨a, b, rfl, q⟩ := par2_of q
  cases r1 with
  | cons ra r1 =>
  cases r1 with
  | cons rb r1 =>
  cases r1
  exact ⟨_, _, rfl, L.nx _ t1 _ G1 H1 q (((e.step s1).set ra).set rb) F1 (s.trans s1)⟩

/-! ### own lists -/
/-- a new list held by the name in slot i alone -/
theorem En.own_new {p : Addr} {i : Nat} {ds : List D} {xs : List V} (E : En K fo H0 δ σ G H) {t : Nat} (F : Feed fo t H) (s0 : Same H0 H ∨ True) (h0 : H0 p = none) (hp : H p = none) (r : Reps K fo G ds xs) :
    En K fo H0 (δ.set i (.own ds)) (σ.set i (some (.ref p))) G (upd H p (.lst xs)) := by
  have sub : Same G (upd H p (.lst xs)) := fun q o e => by
    have z := E.sub _ _ e
    rw [upd_ne (ne_of_none z hp)]; exact z
  refine ⟨sub, E.fd, by rw [List.length_set, List.length_set]; exact E.len, fun j e h => ?_, fun j es h => ?_, fun j k es fs q hjk h1 h2 h3 h4 => ?_⟩
  · have hij : i ≠ j := fun hij => by
      subst hij
      rw [List.getElem?_set, if_pos rfl] at h
      split at h <;> cases h
    rw [List.getElem?_set_ne hij] at h
    rw [List.getElem?_set_ne hij]
    exact E.dat j e h
  · by_cases hij : i = j
    · subst hij
      rw [List.getElem?_set, if_pos rfl] at h
      by_cases hl : i < δ.length
      · rw [if_pos hl] at h
        cases h
        exact ⟨p, xs, List.getElem?_set_self (by rw [E.len]; exact hl), upd_same, E.sub.free hp, h0, fun fc e => ⟨fun z => F.ne1 e (z ▸ hp), fun z => F.ne2 e (z ▸ hp)⟩, r⟩
      · rw [if_neg hl] at h
        cases h
    · rw [List.getElem?_set_ne hij] at h
      rw [List.getElem?_set_ne hij]
      obtain ⟨q, ys, h1, h2, h3, h4, h5, h6⟩ := E.own j es h
      exact ⟨q, ys, h1, by rw [upd_ne (ne_of_none h2 hp)]; exact h2, h3, h4, h5, h6⟩
  · have key : ∀ (m : Nat) (fs : List D), δ[m]? = some (Sl.own fs) → σ[m]? ≠ some (some (V.ref p)) := fun m fs e z => by
      obtain ⟨q, ys, h1, h2, _⟩ := E.own m fs e
      rw [h1] at z
      cases z
      rw [hp] at h2
      cases h2
    by_cases hij : i = j
    · subst hij
      have hl : i < σ.length := by
        have := (List.getElem?_eq_some_iff.mp h3).1
        rwa [List.length_set] at this
      rw [List.getElem?_set_self hl] at h3
      have e : p = q := by injection (Option.some.inj h3) with e; injection e
      rw [List.getElem?_set_ne hjk] at h2 h4
      exact key k fs h2 (e ▸ h4)
    · by_cases hik : i = k
      · subst hik
        have hl : i < σ.length := by
          have := (List.getElem?_eq_some_iff.mp h4).1
          rwa [List.length_set] at this
        rw [List.getElem?_set_self hl] at h4
        have e : p = q := by injection (Option.some.inj h4) with e; injection e
        rw [List.getElem?_set_ne hij] at h1 h3
        exact key j es h1 (e ▸ h3)
      · rw [List.getElem?_set_ne hij] at h1 h3
        rw [List.getElem?_set_ne hik] at h2 h4
        exact E.dis j k es fs q hjk h1 h2 h3 h4
/-- an own list is changed -/
theorem En.own_upd {p : Addr} {i : Nat} {ds es : List D} {ys : List V} (E : En K fo H0 δ σ G H) (hi : δ[i]? = some (.own ds)) (hs : σ[i]? = some (some (.ref p))) (gp : G p = none) (r : Reps K fo G es ys) :
    En K fo H0 (δ.set i (.own es)) σ G (upd H p (.lst ys)) := by
  have hil : i < δ.length := (List.getElem?_eq_some_iff.mp hi).1
  have sub : Same G (upd H p (.lst ys)) := fun q o e => by
    rw [upd_ne (ne_of_none e gp)]; exact E.sub _ _ e
  obtain ⟨p', xs, h1, h2, h3, h4, h5, h6⟩ := E.own i ds hi
  rw [hs] at h1
  have ep : p = p' := by injection (Option.some.inj h1) with e; injection e
  subst ep
  refine ⟨sub, E.fd, by rw [List.length_set]; exact E.len, fun j e h => ?_, fun j fs h => ?_, fun j k fs gs q hjk e1 e2 e3 => ?_⟩
  · have hij : i ≠ j := fun hij => by
      subst hij
      rw [List.getElem?_set, if_pos rfl] at h
      split at h <;> cases h
    rw [List.getElem?_set_ne hij] at h
    exact E.dat j e h
  · by_cases hij : i = j
    · subst hij
      rw [List.getElem?_set_self hil] at h
      cases h
      exact ⟨p, ys, hs, upd_same, gp, h4, h5, r⟩
    · rw [List.getElem?_set_ne hij] at h
      obtain ⟨q, zs, k1, k2, k3, k4, k5, k6⟩ := E.own j fs h
      have hq : q ≠ p := fun z => E.dis j i fs ds q (Ne.symm hij) h hi k1 (z ▸ hs)
      exact ⟨q, zs, k1, by rw [upd_ne hq]; exact k2, k3, k4, k5, k6⟩
  · have f : ∀ (m : Nat) (fs : List D), (δ.set i (.own es))[m]? = some (Sl.own fs) → ∃ fs', δ[m]? = some (Sl.own fs') := fun m fs e => by
      by_cases him : i = m
      · subst him
        exact ⟨ds, hi⟩
      · rw [List.getElem?_set_ne him] at e
        exact ⟨fs, e⟩
    obtain ⟨f1, e1'⟩ := f j fs e1
    obtain ⟨f2, e2'⟩ := f k gs e2
    exact E.dis j k f1 f2 q hjk e1' e2' e3
/-- an own list becomes data -/
theorem En.freeze {i : Nat} {ds : List D} (E : En K fo H0 δ σ G H) (hi : δ[i]? = some (.own ds)) :
    ∃ G', En K fo H0 (δ.set i (.dat (.lst ds))) σ G' H ∧ ∀ G0, Step fo G0 H0 G H → Step fo G0 H0 G' H := by
  have hil : i < δ.length := (List.getElem?_eq_some_iff.mp hi).1
  obtain ⟨p, xs, h1, h2, h3, h4, h5, h6⟩ := E.own i ds hi
  have gg : Same G (upd G p (.lst xs)) := fun q o e => by
    rw [upd_ne (ne_of_none e h3)]; exact e
  have sub : Same (upd G p (.lst xs)) H := fun q o e => by
    by_cases hq : q = p
    · subst hq
      rw [upd_same] at e
      cases e
      exact h2
    · rw [upd_ne hq] at e
      exact E.sub _ _ e
  refine ⟨upd G p (.lst xs), ⟨sub, fun fc e => ?_, by rw [List.length_set]; exact E.len, fun j e h => ?_, fun j fs h => ?_, fun j k fs gs q hjk e1 e2 e3 => ?_⟩, fun G0 s => ⟨s.hh, s.gg.trans gg, sub, fun q k1 k2 => ?_, fun fc e k => ?_⟩⟩
  · rw [upd_ne (Ne.symm (h5 fc e).1)]
    exact E.fd fc e
  · by_cases hij : i = j
    · subst hij
      rw [List.getElem?_set_self hil] at h
      cases h
      exact ⟨_, h1, .lst upd_same (h6.mono gg)⟩
    · rw [List.getElem?_set_ne hij] at h
      obtain ⟨v, k1, k2⟩ := E.dat j e h
      exact ⟨v, k1, k2.mono gg⟩
  · have hij : i ≠ j := fun hij => by
      subst hij
      rw [List.getElem?_set, if_pos rfl] at h
      split at h <;> cases h
    rw [List.getElem?_set_ne hij] at h
    obtain ⟨q, zs, k1, k2, k3, k4, k5, k6⟩ := E.own j fs h
    have hq : q ≠ p := fun z => E.dis j i fs ds q (Ne.symm hij) h hi k1 (z ▸ h1)
    exact ⟨q, zs, k1, k2, by rw [upd_ne hq]; exact k3, k4, k5, k6.mono gg⟩
  · have hij : i ≠ j := fun hij => by
      subst hij
      rw [List.getElem?_set, if_pos rfl] at e1
      split at e1 <;> cases e1
    have hik : i ≠ k := fun hij => by
      subst hij
      rw [List.getElem?_set, if_pos rfl] at e2
      split at e2 <;> cases e2
    rw [List.getElem?_set_ne hij] at e1
    rw [List.getElem?_set_ne hik] at e2
    exact E.dis j k fs gs q hjk e1 e2 e3
  · have hq : q ≠ p := fun z => k2 (z ▸ h4)
    rw [upd_ne hq]
    exact s.new q k1 k2
  · rw [upd_ne (Ne.symm (h5 fc e).1)]
    exact s.fd fc e k
def wFrz (i : Nat) (w : WS) : WS := fun E δ t => slO δ[i]? fun ds => w E (δ.set i (.dat (.lst ds))) t
theorem sns_frz {i : Nat} (h : SnS K t1 w1) : SnS K t1 (wFrz i w1) := fun fo G0 H0 E Dn δ t σ G H L e F s q => by
  obtain ⟨ds, hi, q⟩ := slO_of q
  obtain ⟨G', e', s'⟩ := e.freeze hi
  exact h fo G0 H0 E Dn _ t σ G' H L e' F (s' G0 s) q
theorem Step.fresh0 (s : Step fo G0 H0 G H) {t : Nat} (F0 : ∀ fc, fo = some fc → H0 fc.1 ≠ none) {p : Addr} (F : Feed fo t H) (hp : H p = none) : H0 p = none := by
  cases q : H0 p with
  | none => rfl
  | some o =>
    have : ∀ fc, fo = some fc → p ≠ fc.1 := fun fc e z => F.ne1 e (z ▸ hp)
    rw [s.hh p o q this] at hp
    cases hp
theorem Step.fresh (s : Step fo G0 H0 G H) {t : Nat} {p : Addr} (F : Feed fo t H) (hp : H p = none) : H0 p = none := by
  cases q : H0 p with
  | none => rfl
  | some o =>
    have : ∀ fc, fo = some fc → p ≠ fc.1 := fun fc e z => F.ne1 e (z ▸ hp)
    rw [s.hh p o q this] at hp
    cases hp
/-- x = [..], an own list -/
def wOwnLst (i : Nat) (wr : WA) : WS := fun E δ t => wr δ t fun ds t1 => szOk ds.length (E.nx (δ.set i (.own ds)) t1)
theorem sns_ownLst {i : Nat} (h : SnA K tr wr) : SnS K (tAsg (tLst tr) (gName i)) (wOwnLst i wr) := fun fo G0 H0 E Dn δ t σ G H L e F s q => by
  refine h.run fo H0 δ t σ G H _ e F (h.mono _ _ _ _ (fun ds t1 q vs G1 H1 s1 F1 r1 => ?_) q)
  obtain ⟨c, q⟩ := szOk_of q
  refine ⟨sz1000 (by rw [r1.len]; exact c), fun p hp => ?_⟩
  have s2 := s.trans s1
  exact L.nx _ t1 _ G1 _ q ((e.step s1).own_new F1 (.inr trivial) (s2.fresh F1 hp) hp r1) (F1.laid hp) (s2.trans (Step.hid s1.sub hp))
/-- x = an expression that gives a new list -/
def wOwnN (i : Nat) (we : WE) : WS := fun E δ t => we δ t fun d t1 => lsD d fun ds => E.nx (δ.set i (.own ds)) t1
theorem sns_ownN {i : Nat} (h : SnN K te we) : SnS K (tAsg te (gName i)) (wOwnN i we) := fun fo G0 H0 E Dn δ t σ G H L e F s q => by
  refine h.run fo H0 δ t σ G H _ e F (h.mono _ _ _ _ (fun d t1 q => ?_) q)
  obtain ⟨ds, rfl, q⟩ := lsD_of q
  intro p xs G1 H1 H2 s1 hp e2 F1 r1
  subst e2
  have s2 := s.trans s1
  exact L.nx _ t1 _ G1 _ q ((e.step s1).own_new F1 (.inr trivial) (s2.fresh F1 hp) hp r1) (F1.laid hp) (s2.trans (Step.hid s1.sub hp))
/-- x.append(e) -/
def wApp (i : Nat) (we : WE) : WS := fun E δ t => slO δ[i]? fun ds => we δ t fun d t1 => ds.length ≤ 1000 ∧ E.nx (δ.set i (.own (ds ++ [d]))) t1
theorem own_after {i : Nat} {ds : List D} (e : En K fo H0 δ σ G H) (hi : δ[i]? = some (.own ds)) (s1 : Step fo G H G' H') : ∃ p xs, σ[i]? = some (some (.ref p)) ∧ H p = some (.lst xs) ∧ H' p = some (.lst xs) ∧ G' p = none ∧ H0 p = none ∧ (∀ fc, fo = some fc → p ≠ fc.1 ∧ p ≠ fc.2) ∧ Reps K fo G' ds xs := by
  obtain ⟨p, xs, h1, h2, h3, h4, h5, h6⟩ := e.own i ds hi
  exact ⟨p, xs, h1, h2, s1.hh p _ h2 (fun fc e => (h5 fc e).1), s1.new p h3 (by rw [h2]; simp), h4, h5, h6.mono s1.gg⟩
theorem Step.own (s : Step fo G0 H0 G H) {p : Addr} {o : HO} (h0 : H0 p = none) (gp : G p = none) : Step fo G0 H0 G (upd H p o) :=
  ⟨fun q u e h => by rw [upd_ne (ne_of_none e h0)]; exact s.hh q u e h, s.gg, fun q u e => by rw [upd_ne (ne_of_none e gp)]; exact s.sub q u e, s.new, s.fd⟩
theorem sns_app {i : Nat} (h : Sn K te we) : SnS K (tDrop (tBM K "list" rAppend (tVar i) (tCons te tNil))) (wApp i we) := fun fo G0 H0 E Dn δ t σ G H L e F s q => by
  obtain ⟨ds, hi, q⟩ := slO_of q
  obtain ⟨p, xs, h1, h2, h3, h4, h5, h6⟩ := e.own i ds hi
  refine ⟨_, h1, .inl ⟨rfl, _, SqL.of h2⟩, ?_⟩
  refine h.run fo H0 δ t σ G H _ e F (h.mono _ _ _ _ (fun d t1 q v G1 H1 s1 F1 r1 => ?_) q)
  obtain ⟨p', xs', k1, k0, k2, k3, k4, k5, k6⟩ := own_after e hi s1
  rw [h1] at k1
  have ep : p = p' := by injection (Option.some.inj k1) with e; injection e
  subst ep
  refine ⟨p, xs', v, rfl, rfl, k2, Nat.lt_of_le_of_lt (show xs'.length ≤ 1000 by rw [k6.len]; exact q.1) (by decide), ?_⟩
  exact L.nx _ t1 σ G1 _ q.2 ((e.step s1).own_upd hi h1 k3 (k6.append (.cons r1 .nil))) (F1.upd k5) ((s.trans s1).own k4 k3)
/-- x.pop() -/
def wPop (i : Nat) : WS := fun E δ t => slO δ[i]? fun ds => ds ≠ [] ∧ E.nx (δ.set i (.own ds.dropLast)) t
theorem sns_pop {i : Nat} : SnS K (tDrop (tBM0 K "list" rPop (tVar i))) (wPop i) := fun fo G0 H0 E Dn δ t σ G H L e F s q => by
  obtain ⟨ds, hi, c, q⟩ := slO_of q
  obtain ⟨p, xs, h1, h2, h3, h4, h5, h6⟩ := e.own i ds hi
  have hl : xs.length ≠ 0 := by rw [h6.len]; exact fun z => c (List.length_eq_zero_iff.mp z)
  refine ⟨_, h1, .inl ⟨rfl, _, SqL.of h2⟩, p, xs, xs[xs.length - 1], rfl, rfl, h2, List.getElem?_eq_getElem (by omega), ?_⟩
  exact L.nx _ t σ G _ q (e.own_upd hi h1 h3 h6.dropLast) (F.upd h5) (s.own h4 h3)
/-- x.insert(i, e) -/
def rInsert : V → List V → Hp → VK → Prop := fun x vs H Q => ∃ (l : Addr) (xs : List V) (i : Int) (y : V), x = .ref l ∧ vs = [.int i, y] ∧ H l = some (.lst xs) ∧ xs.length < sizeLine ∧ 0 ≤ i ∧ i < 2 ^ 63 ∧ Q .non (upd H l (.lst (xs.take i.toNat ++ [y] ++ xs.drop i.toNat)))
theorem mt_insertR {X : Cx} : MtR X "list.insert" rInsert := mt_insert
def wIns (i : Nat) (wk we : WE) : WS := fun E δ t => slO δ[i]? fun ds => wk δ t fun k t1 => inD k fun k => we δ t1 fun d t2 => (ds.length ≤ 1000 ∧ 0 ≤ k ∧ k ≤ 1000) ∧ E.nx (δ.set i (.own (ds.take k.toNat ++ [d] ++ ds.drop k.toNat))) t2
theorem sns_ins {i : Nat} {tk : TE} {wk : WE} (hk : Sn K tk wk) (h : Sn K te we) : SnS K (tDrop (tBM K "list" rInsert (tVar i) (tCons tk (tCons te tNil)))) (wIns i wk we) := fun fo G0 H0 E Dn δ t σ G H L e F s q => by
  obtain ⟨ds, hi, q⟩ := slO_of q
  obtain ⟨p, xs, h1, h2, h3, h4, h5, h6⟩ := e.own i ds hi
  refine ⟨_, h1, .inl ⟨rfl, _, SqL.of h2⟩, ?_⟩
  refine hk.run fo H0 δ t σ G H _ e F (hk.mono _ _ _ _ (fun d t1 q v G1 H1 s1 F1 r1 => ?_) q)
  obtain ⟨k, rfl, q⟩ := inD_of q
  cases r1
  refine h.run fo H0 δ t1 σ G1 H1 _ (e.step s1) F1 (h.mono _ _ _ _ (fun d t2 q v G2 H2 s2 F2 r2 => ?_) q)
  have s12 := s1.trans s2
  obtain ⟨p', xs', k1, k0, k2, k3, k4, k5, k6⟩ := own_after e hi s12
  rw [h1] at k1
  have ep : p = p' := by injection (Option.some.inj k1) with e; injection e
  subst ep
  obtain ⟨⟨c1, c2, c3⟩, q⟩ := q
  refine ⟨p, xs', k, v, rfl, rfl, k2, Nat.lt_of_le_of_lt (show xs'.length ≤ 1000 by rw [k6.len]; exact c1) (by decide), c2, by omega, ?_⟩
  exact L.nx _ t2 σ G2 _ q ((e.step s12).own_upd hi h1 k3 (((k6.take _).append (.cons r2 .nil)).append (k6.drop _))) (F2.upd k5) ((s.trans s12).own k4 k3)

/-! ### loops -/
def forW (wg : WG) (b : WS) (E : ED) : List D → List Sl → Nat → Prop
  | [], δ, t => E.nx δ t
  | x :: r, δ, t => wg x δ fun δ' => b { nx := fun δ t => forW wg b E r δ t, rt := E.rt, bk := E.nx, ct := fun δ t => forW wg b E r δ t } δ' t
def wFor (wi : WI) (wg : WG) (b : WS) : WS := fun E δ t => wi δ t fun ds t1 => forW wg b E ds δ t1
theorem Step.self (s : Step fo G0 H0 G H) : Step fo G H0 G H := ⟨s.hh, Same.refl _, s.sub, fun _ h _ => h, fun _ _ h => h⟩
theorem Step.rebase (a : Step fo G0 H0 G H) (b : Step fo G H0 G' H') : Step fo G0 H0 G' H' :=
  ⟨b.hh, a.gg.trans b.gg, b.sub, fun p h1 h2 => b.new p (a.new p h1 h2) h2, fun fc e h => b.fd fc e (a.fd fc e h)⟩
theorem sns_for {ti : TI} {wi : WI} {g : TG} {ts : List Nat} {wg : WG} (hi : SnI K ti wi) (hg : SnG K g ts wg) (hb : SnS K t1 w1) : SnS K (tFor ti g t1) (wFor wi wg w1) := fun fo G0 H0 E Dn δ t σ G H L e F s q => by
  refine hi.run fo H0 δ t σ G H _ e F (hi.mono _ _ _ _ (fun ds t1' q J xs S G1 H1 s1 F1 r1 wk hS => ?_) q)
  have hlen := r1.len
  have s01 := s.trans s1
  let Nx : Nat → L2.St → Hp → Prop := fun i σc Hc => ∃ (Gc : Hp) (δc : List Sl) (tc : Nat), En K fo H0 δc σc Gc Hc ∧ Feed fo tc Hc ∧ Step fo G1 H0 Gc Hc ∧ forW wg w1 E (ds.drop i) δc tc
  refine ⟨fun i m σc Hc => m = xs.length - i ∧ i ≤ xs.length ∧ Nx i σc Hc, ⟨_, rfl, Nat.zero_le _, G1, δ, t1', e.step s1, F1, s01.self, q⟩, ?_⟩
  rintro i m σc Hc ⟨rfl, hi', Gc, δc, tc, ec, Fc, sc, qc⟩
  have hSc : S Hc := hS Hc (sc.gg.trans ec.sub)
  by_cases hlt : i < xs.length
  · obtain ⟨x, hx⟩ : ∃ x, xs[i]? = some x := ⟨xs[i], List.getElem?_eq_getElem hlt⟩
    obtain ⟨d, hd, rd⟩ := r1.getV hx
    refine .inr ⟨wk.go i Hc x hSc hx, Nx (i + 1), fun σ' H' n => ⟨xs.length - (i + 1), by omega, rfl, hlt, n⟩, fun v H' y => ?_⟩
    obtain ⟨rfl, hv⟩ := wk.yld i Hc v H' hSc hlt y
    rw [hx] at hv
    cases hv
    have ed : ds.drop i = d :: ds.drop (i + 1) := by
      have hi2 : i < ds.length := by rw [← hlen]; exact hlt
      rw [List.drop_eq_getElem_cons hi2]
      rw [List.getElem?_eq_getElem hi2] at hd
      rw [Option.some.inj hd]
    rw [ed] at qc
    refine hg.run fo H0 δc σc Gc H' x d _ ec (rd.mono sc.gg) (hg.mono _ _ _ _ (fun δ' q σ' E' l' k' => ?_) qc)
    have LN : Lift K fo G1 H0 (fun δ t => forW wg w1 E (ds.drop (i + 1)) δ t) (Nx (i + 1)) := fun δ2 t2 σ2 G2 H2 q2 e2 F2 s2 => ⟨G2, δ2, t2, e2, F2, s2, q2⟩
    exact hb fo G1 H0 { nx := fun δ t => forW wg w1 E (ds.drop (i + 1)) δ t, rt := E.rt, bk := E.nx, ct := fun δ t => forW wg w1 E (ds.drop (i + 1)) δ t } _ δ' tc σ' Gc H' ⟨LN, fun δ2 t2 σ2 G2 H2 q2 e2 F2 s2 => L.nx δ2 t2 σ2 G2 H2 q2 e2 F2 (s01.rebase s2), LN, fun d2 t2 v2 G2 H2 q2 r2 F2 s2 => L.rt d2 t2 v2 G2 H2 q2 r2 F2 (s01.rebase s2)⟩ E' Fc sc q
  · have e2 : i = xs.length := by omega
    subst e2
    refine .inl ⟨wk.stop _ Hc hSc (Nat.le_refl _), ?_⟩
    rw [hlen, List.drop_length] at qc
    exact L.nx δc tc σc Gc Hc qc ec Fc (s01.rebase sc)
def whW (wt : WT) (b : WS) (E : ED) : Nat → List Sl → Nat → Prop
  | 0, _, _ => False
  | n + 1, δ, t => wt δ t fun k t1 => if k = true then b { nx := fun δ t => whW wt b E n δ t, rt := E.rt, bk := E.nx, ct := fun δ t => whW wt b E n δ t } δ t1 else E.nx δ t1
def wWhile (wt : WT) (b : WS) : WS := fun E δ t => ∃ n, whW wt b E n δ t
theorem sns_while (h : SnT K tt wt) (hb : SnS K t1 w1) : SnS K (tWhile tt t1) (wWhile wt w1) := fun fo G0 H0 E Dn δ t σ G H L e F s q => by
  obtain ⟨n, q⟩ := q
  refine ⟨fun m σc Hc => ∃ (Gc : Hp) (δc : List Sl) (tc : Nat), En K fo H0 δc σc Gc Hc ∧ Feed fo tc Hc ∧ Step fo G0 H0 Gc Hc ∧ whW wt w1 E m δc tc, ⟨n, G, δ, t, e, F, s, q⟩, ?_⟩
  rintro m σc Hc ⟨Gc, δc, tc, ec, Fc, sc, qc⟩
  cases m with
  | zero => exact qc.elim
  | succ m =>
    refine h.run fo H0 δc tc σc Gc Hc _ ec Fc (h.mono _ _ _ _ (fun b t1' q G1 H1 s1 F1 => ?_) qc)
    cases b with
    | true =>
      have LN : Lift K fo G0 H0 (fun δ t => whW wt w1 E m δ t) (fun σc Hc => ∃ (Gc : Hp) (δc : List Sl) (tc : Nat), En K fo H0 δc σc Gc Hc ∧ Feed fo tc Hc ∧ Step fo G0 H0 Gc Hc ∧ whW wt w1 E m δc tc) :=
        fun δ2 t2 σ2 G2 H2 q2 e2 F2 s2 => ⟨G2, δ2, t2, e2, F2, s2, q2⟩
      exact ⟨_, fun σ' H' n => ⟨m, Nat.lt_succ_self m, n⟩, hb fo G0 H0 { nx := fun δ t => whW wt w1 E m δ t, rt := E.rt, bk := E.nx, ct := fun δ t => whW wt w1 E m δ t } _ δc t1' σc G1 H1 ⟨LN, L.nx, LN, L.rt⟩ (ec.step s1) F1 (sc.trans s1) q⟩
    | false => exact L.nx δc t1' σc G1 H1 q (ec.step s1) F1 (sc.trans s1)

/-! ### defs -/
def initD (n : Nat) (ds : List D) : List Sl := ds.map Sl.dat ++ List.replicate (n - ds.length) .no
theorem En.init {N : List Str} {ds : List D} {vs : List V} (fd : ∀ fc, fo = some fc → G fc.1 = none) (sub : Same G H) (r : Reps K fo G ds vs) : En K fo H (initD N.length ds) (L2.start N vs) G H := by
  have noown : ∀ (i : Nat) (es : List D), (initD N.length ds)[i]? ≠ some (Sl.own es) := fun i es h => by
    unfold initD at h
    have hm := List.mem_of_getElem? h
    rcases List.mem_append.mp hm with z | z
    · obtain ⟨d, _, e⟩ := List.mem_map.mp z
      cases e
    · have := List.eq_of_mem_replicate z
      cases this
  refine ⟨sub, fd, ?_, fun i d h => ?_, fun i es h => (noown i es h).elim, fun i j es fs p _ h => (noown i es h).elim⟩
  · unfold L2.start initD
    rw [List.length_append, List.length_append, List.length_map, List.length_map, List.length_replicate, List.length_replicate, r.len]
  · unfold initD at h
    unfold L2.start
    rw [List.getElem?_append] at h ⊢
    rw [List.length_map] at h ⊢
    rw [r.len]
    by_cases hi : i < ds.length
    · rw [if_pos hi] at h ⊢
      rw [List.getElem?_map] at h ⊢
      obtain ⟨d', e1, e2⟩ := Option.map_eq_some_iff.mp h
      cases e2
      obtain ⟨v, h1, h2⟩ := r.get e1
      exact ⟨v, by rw [h1]; rfl, h2⟩
    · rw [if_neg hi] at h
      have := List.eq_of_mem_replicate (List.mem_of_getElem? h)
      cases this
variable {P : Program} {w : World} {mg : Str → Option Value} {base : Heap}
/-- a def of the text, by its body -/
theorem def_ok {x : Str} {st : Stmt} {f : Addr} {fd : FuncData} {N ps : List Str} {k : Nat} {C : Con} {ts : TS} {ws : WS} (F : Fun K x x st f fd) (S : FnScope N ps (defScope st)) (len : ∀ ds t Q, C.c ds t Q → ds.length = ps.length)
    (hb : ∀ (cdv : Value) (A : Around) (outer : List PySem.Env) (s : Shared) (H : Hp) (E : XK), Room k (A.deeper (envOfC x (defScope st) s.heap.objs.size f cdv)) →
      PSs (cxOf CX0 P w K mg base N x (defScope st) f cdv A outer s H E).nox (defBody st) ts) (hs : SnS K ts ws)
    (hw : ∀ ds t Q, C.c ds t Q → ws { nx := fun _ t' => Q .non t', rt := Q } (initD N.length ds) t) : FnOk P w K mg base CX0 (k + 1) f fd ps (LSp K C) := by
  refine F.ok S (fun vs H Q E h => ?_) (fun cdv A outer s H vs Q E hr h => ⟨ts, hb cdv A outer s H E hr, ?_⟩)
  · obtain ⟨fo, t, G, ds, _, _, r, _, c⟩ := h
    rw [r.len]
    exact len _ _ _ c
  · obtain ⟨fo, t, G, ds, h1, h2, r, Fd, c⟩ := h
    refine hs fo G H _ _ (initD N.length ds) t _ G H ⟨?_, ?_, ?_, ?_⟩ (En.init h1 h2 r) Fd (Step.refl h2) (hw ds t _ c)
    · exact fun δ t σ G1 H1 q e F1 s1 => q .non G1 H1 s1 F1 .non
    · exact fun δ t σ G1 H1 q e F1 s1 => q.elim
    · exact fun δ t σ G1 H1 q e F1 s1 => q.elim
    · exact fun d t v G1 H1 q r1 F1 s1 => q v G1 H1 s1 F1 r1
end
end DL

/-! ## DL7 -/
set_option maxRecDepth 100000
/-! sizes of numbers, defs of this text -/
namespace DL
open PySem PySem.Spec PyProof.Rows L2
open C8 (Cal pe_c pe_gc)
open W15

def CMulB (i j : Int) : Prop := ∃ n m, Bd n i ∧ Bd m j ∧ n + m ≤ 900000
def CDivB (i j : Int) : Prop := j ≠ 0 ∧ ((∃ n, Bd n j ∧ n ≤ 9000) ∨ ∃ n, Bd n i ∧ n ≤ 13500)
theorem CMulB.ok {i j : Int} (h : CMulB i j) : IntMulOk i j := by
  obtain ⟨n, m, h1, h2, h3⟩ := h
  exact (wide_mul (a := n + 1) (b := m + 1) (h1.mono (Nat.le_succ n)) (h2.mono (Nat.le_succ m)) (Nat.succ_pos _) (Nat.succ_pos _) (by omega)).ok
theorem CDivB.ok {i j : Int} (h : CDivB i j) : Builtin.divisionGoesByPylong i j = false := by
  obtain ⟨h0, ⟨n, h1, h2⟩ | ⟨n, h1, h2⟩⟩ := h
  · have hn : 0 < n := by
      cases n with
      | zero =>
        unfold Bd at h1
        simp at h1
        exact absurd h1 h0
      | succ n => exact Nat.succ_pos n
    exact PyProof.noPylong_of_log2 (Nat.lt_of_lt_of_le (PySem.Flt.log2_lt_of hn h1) h2)
  · have h3 : i.natAbs.log2 < 13500 := by
      have h4 : i.natAbs < 2 ^ 13500 := h1.mono h2
      exact PySem.Flt.log2_lt_of (by omega) h4
    show (decide ((if j == 0 then 0 else j.natAbs.log2 / 30 + 1) > 300) && decide ((if i == 0 then 0 else i.natAbs.log2 / 30 + 1) > (if j == 0 then 0 else j.natAbs.log2 / 30 + 1) + 150)) = false
    have k1 : (if i == 0 then 0 else i.natAbs.log2 / 30 + 1) ≤ 450 := by
      split
      · omega
      · omega
    generalize (if i == 0 then 0 else i.natAbs.log2 / 30 + 1) = a at *
    generalize (if j == 0 then 0 else j.natAbs.log2 / 30 + 1) = b at *
    by_cases hb : b > 300
    · rw [decide_eq_true hb, decide_eq_false (by omega)]
      rfl
    · rw [decide_eq_false hb]
      rfl
section
variable {X : Cx}
theorem op_mulB : OpR X (binaryOp .Mult) (rI CMulB fun i j => .int (i * j)) := opI fun _ _ _ _ _ _ _ hc q => mul_int q hc.ok
theorem op_fdivB : OpR X (binaryOp .FloorDiv) (rI CDivB fun i j => .int (i.fdiv j)) := opI fun _ _ _ _ _ _ _ hc q => floordiv_int hc.1 q (.inl hc.ok)
end

/-! ### the text -/
def topS (i : Nat) : Stmt := PySem.Challenge.pw_widelines_k15_whole_a_place_by_the_told.main.body.getD i (.Pass ⟨0, 0, 0, 0⟩)
/-- a def of the text, where it stands -/
structure Dn (K : PySem.W.Frag) (mg : Str → Option Value) (x : Str) (st : Stmt) (ps : List Str) : Prop where
  ex : ∃ f fd, Fun K x x st f fd ∧ mg x = some (.ref f) ∧ Binds K fd ps []
/-- the built-ins that the text calls are not hidden -/
structure Bt (mg : Str → Option Value) : Prop where
  abs : mg "abs" = none
  len : mg "len" = none
  range : mg "range" = none
  zip : mg "zip" = none
  list : mg "list" = none
  tuple : mg "tuple" = none
  all : mg "all" = none
  any : mg "any" = none
  int : mg "int" = none
  min : mg "min" = none
  max : mg "max" = none
  repr : mg "repr" = none
section
variable {P : Program} {w : World} {K : PySem.W.Frag} {mg : Str → Option Value} {base : Heap}
theorem Dn.ok {x : Str} {st : Stmt} {N ps : List Str} {k : Nat} {C : Con} {ts : TS} {ws : WS} (Nn : Dn K mg x st ps) (S : FnScope N ps (defScope st)) (len : ∀ ds t Q, C.c ds t Q → ds.length = ps.length)
    (hb : ∀ (f : Addr) (cdv : Value) (A : Around) (outer : List PySem.Env) (s : Shared) (H : Hp) (E : XK), Room k (A.deeper (envOfC x (defScope st) s.heap.objs.size f cdv)) →
      PSs (cxOf CX0 P w K mg base N x (defScope st) f cdv A outer s H E).nox (defBody st) ts) (hs : SnS K ts ws)
    (hw : ∀ ds t Q, C.c ds t Q → ws { nx := fun _ t' => Q .non t', rt := Q } (initD N.length ds) t) : Cal P w K mg base (k + 1) x (LSp K C) [] := by
  obtain ⟨f, fd, F, hm, b⟩ := Nn.ex
  exact ⟨f, fd, ps, [], def_ok F S len (hb f) hs hw, hm, F.kp, b, .nil⟩
end
end DL

/-! ## DL8 -/
set_option maxRecDepth 100000
/-! contracts, data of this text -/
namespace DL
open PySem PySem.Spec PyProof.Rows L2
open C8 (Cal pe_c pe_gc)
open W15
def Con.of {α : Type} (enc : α → List D) (pre : α → Prop) (res : α → D) : Con :=
  ⟨fun ds t Q => ∃ a, ds = enc a ∧ pre a ∧ Q (res a) t, fun ds t P P' k ⟨a, h1, h2, h3⟩ => ⟨a, h1, h2, k _ _ h3⟩⟩
/-- any value of which post holds; t the draws -/
def Con.nd {α : Type} (enc : α → List D) (pre : α → Nat → Prop) (post : α → Nat → D → Nat → Prop) : Con :=
  ⟨fun ds t Q => ∃ a, ds = enc a ∧ pre a t ∧ ∀ d t', post a t d t' → Q d t', fun ds t P P' k ⟨a, h1, h2, h3⟩ => ⟨a, h1, h2, fun d t' h => k _ _ (h3 d t' h)⟩⟩
theorem Con.len {α : Type} {enc : α → List D} {pre : α → Prop} {res : α → D} {n : Nat} (h : ∀ a, (enc a).length = n) : ∀ ds t Q, (Con.of enc pre res).c ds t Q → ds.length = n := by
  rintro ds t Q ⟨a, rfl, _⟩
  exact h a
theorem Con.lenN {α : Type} {enc : α → List D} {pre : α → Nat → Prop} {post : α → Nat → D → Nat → Prop} {n : Nat} (h : ∀ a, (enc a).length = n) : ∀ ds t Q, (Con.nd enc pre post).c ds t Q → ds.length = n := by
  rintro ds t Q ⟨a, rfl, _⟩
  exact h a
/-- a fraction, a place -/
def dR (q : Rat) : D := .tup [.int q.num, .int (q.den : Int)]
def dP (p : Pt) : D := .tup [.int p.X, .int p.Y, .int p.Z]
end DL

/-! ## X1 -/
set_option maxRecDepth 100000
set_option maxHeartbeats 1000000
/-! list(zip(s, t)) of two tuples -/
namespace ZL
open PySem PySem.Spec PyProof.Rows
section
variable {prog : Program} {w : World} {A : Around} {E : Value → Shared → Prop} {s : Shared}
theorem heldItem {z TI TO T i1 i2 l1 l2 : Addr} {f : Bool} {oT : Obj} {k1 k2 : Nat} {xs ys : Array Value} {x y : Value} {Q : Value → Shared → Prop} (D : ZipApart z TI TO i1 i2 l1 l2)
    (hz : IsZipHeld s.heap z TI TO T f) (hT : s.heap.get? T = some oT) (hTI : IsPair s.heap TI (.ref i1) (.ref i2))
    (h1 : s.heap.IsTupleIter i1 l1 k1) (h2 : s.heap.IsTupleIter i2 l2 k2) (hl1 : s.heap.IsTuple l1 xs) (hl2 : s.heap.IsTuple l2 ys) (hx : xs[k1]? = some x) (hy : ys[k2]? = some y)
    (hQ : ∀ h', IsZipHeld h' z TI TO T true → IsPair h' TI (.ref i1) (.ref i2) → h'.IsTupleIter i1 l1 (k1 + 1) → h'.IsTupleIter i2 l2 (k2 + 1) → IsPair h' s.heap.objs.size x y → h'.objs.size = s.heap.objs.size + 1 →
      (∀ c o, c ≠ z → c ≠ i1 → c ≠ i2 → s.heap.get? c = some o → h'.get? c = some o) → Q (.ref s.heap.objs.size) { s with heap := h' }) :
    wpAny (model prog w) A (Builtin.«zip.__next__» ⟨[.ref z], []⟩) (fun fin s' => ∃ v, fin = .done (.ret v) ∧ Q v s') E s := by
  show wpAny _ _ (field (.ref z) 2 >>= _) _ _ _
  refine wpAny_bind (wpAny_field hz rfl (x := .bool false) rfl ?_)
  show wpAny _ _ (field (.ref z) 3 >>= _) _ _ _
  refine wpAny_bind (wpAny_field hz rfl (x := .ref TI) rfl ?_)
  refine wpAny_bind (wpAny_seqItems hTI rfl ?_)
  show wpAny _ _ (Builtin.SmallTypes.ownedTupleIsFree (.ref z) >>= _) _ _ _
  refine wpAny_bind (wpAny_tupleHeld_zip hz hT fun g1 zg1 b1 => ?_)
  simp only [Bool.false_eq_true, if_false]
  refine wpAny_bind ?_
  rw [← Array.forIn_toList]
  simp only [List.forIn_cons, List.forIn_nil]
  refine wpAny_bind (wpAny_bind (wpAny_holding ?_))
  show wpAny _ _ (Builtin.SmallTypes.nextOf (.ref i1) >>= _) _ _ _
  refine wpAny_bind (RZ.nextOf_tuple_item (s := { s with heap := g1 }) (h1.extBut b1.extBut D.i1z) (hl1.extBut b1.extBut D.l1z) hx fun g2 m1 b2 => wpAny_pure ?_)
  refine wpAny_pure ?_
  refine wpAny_bind (wpAny_bind (wpAny_holding ?_))
  show wpAny _ _ (Builtin.SmallTypes.nextOf (.ref i2) >>= _) _ _ _
  refine wpAny_bind (RZ.nextOf_tuple_item (s := { s with heap := g2 }) ((h2.extBut b1.extBut D.i2z).extBut b2.extBut D.i12.symm) ((hl2.extBut b1.extBut D.l2z).extBut b2.extBut D.l2i1) hy fun g3 m2 b3 => wpAny_pure ?_)
  refine wpAny_pure (wpAny_pure ?_)
  show wpAny _ _ (newTuple [x, y] >>= _) _ _ _
  refine wpAny_bind (wpAny_newTuple ?_)
  have sz : g3.objs.size = s.heap.objs.size := by rw [b3.1, b2.1, b1.1]
  have zg3 : IsZipHeld g3 z TI TO T true := b3.extBut _ _ D.i2z.symm (b2.extBut _ _ D.i1z.symm zg1)
  have kp : ∀ c o, c ≠ z → c ≠ i1 → c ≠ i2 → s.heap.get? c = some o → g3.get? c = some o := fun c o c1 c2 c3 e => b3.extBut _ _ c3 (b2.extBut _ _ c2 (b1.extBut _ _ c1 e))
  have m13 : g3.IsTupleIter i1 l1 (k1 + 1) := m1.extBut b3.extBut D.i12
  refine wpAny_pure ⟨_, rfl, ?_⟩
  show Q (.ref g3.objs.size) _
  have hp : IsPair (g3.push { cls := .type "tuple", data := .seq #[x, y] }) g3.objs.size x y := Heap.get?_push_size _ rfl
  have z4 : (g3.push { cls := .type "tuple", data := .seq #[x, y] }).objs.size = g3.objs.size + 1 := Heap.size_push ..
  rw [sz] at hp z4 ⊢
  exact hQ _ (Heap.get?_push_of_some _ zg3) (Heap.get?_push_of_some _ (kp _ _ D.TIz D.TIi1 D.TIi2 hTI)) (m13.at fun o e => Heap.get?_push_of_some _ e) (m2.at fun o e => Heap.get?_push_of_some _ e) hp z4 fun c o c1 c2 c3 e => Heap.get?_push_of_some _ (kp c o c1 c2 c3 e)
theorem heldEnd {z TI TO T i1 i2 l1 l2 : Addr} {f : Bool} {oT : Obj} {k1 k2 : Nat} {xs ys : Array Value} {Q : Fin → Shared → Prop} (hh : A.handled = none) (D : ZipApart z TI TO i1 i2 l1 l2)
    (hz : IsZipHeld s.heap z TI TO T f) (hT : s.heap.get? T = some oT) (hTI : IsPair s.heap TI (.ref i1) (.ref i2))
    (h1 : s.heap.IsTupleIter i1 l1 k1) (h2 : s.heap.IsTupleIter i2 l2 k2) (hl1 : s.heap.IsTuple l1 xs) (hl2 : s.heap.IsTuple l2 ys) (hend : xs[k1]? = none ∨ ys[k2]? = none)
    (hE : ∀ h' e, (∀ c o, c ≠ z → c ≠ i1 → c ≠ i2 → s.heap.get? c = some o → h'.get? c = some o) → (∃ o, h'.get? e = some o ∧ o.cls = .type "StopIteration") → E (.ref e) { s with heap := h' }) :
    wpAny (model prog w) A (Builtin.«zip.__next__» ⟨[.ref z], []⟩) Q E s := by
  show wpAny _ _ (field (.ref z) 2 >>= _) _ _ _
  refine wpAny_bind (wpAny_field hz rfl (x := .bool false) rfl ?_)
  show wpAny _ _ (field (.ref z) 3 >>= _) _ _ _
  refine wpAny_bind (wpAny_field hz rfl (x := .ref TI) rfl ?_)
  refine wpAny_bind (wpAny_seqItems hTI rfl ?_)
  show wpAny _ _ (Builtin.SmallTypes.ownedTupleIsFree (.ref z) >>= _) _ _ _
  refine wpAny_bind (wpAny_tupleHeld_zip hz hT fun g1 zg1 b1 => ?_)
  simp only [Bool.false_eq_true, if_false]
  refine wpAny_bind ?_
  rw [← Array.forIn_toList]
  simp only [List.forIn_cons, List.forIn_nil]
  refine wpAny_bind (wpAny_bind (wpAny_holding ?_))
  show wpAny _ _ (Builtin.SmallTypes.nextOf (.ref i1) >>= _) _ _ _
  cases hx : xs[k1]? with
  | none =>
    refine wpAny_bind (RZ.nextOf_tuple_end (s := { s with heap := g1 }) hh (h1.extBut b1.extBut D.i1z) (hl1.extBut b1.extBut D.l1z) hx fun g2 e b2 he => ?_)
    exact hE g2 e (fun c o c1 c2 _ x => b2 _ _ c2 (b1.extBut _ _ c1 x)) he
  | some x =>
    have hy : ys[k2]? = none := by rcases hend with h | h; rw [hx] at h; cases h; exact h
    refine wpAny_bind (RZ.nextOf_tuple_item (s := { s with heap := g1 }) (h1.extBut b1.extBut D.i1z) (hl1.extBut b1.extBut D.l1z) hx fun g2 m1 b2 => wpAny_pure ?_)
    refine wpAny_pure ?_
    refine wpAny_bind (wpAny_bind (wpAny_holding ?_))
    show wpAny _ _ (Builtin.SmallTypes.nextOf (.ref i2) >>= _) _ _ _
    refine wpAny_bind (RZ.nextOf_tuple_end (s := { s with heap := g2 }) hh ((h2.extBut b1.extBut D.i2z).extBut b2.extBut D.i12.symm) ((hl2.extBut b1.extBut D.l2z).extBut b2.extBut D.l2i1) hy fun g3 e b3 he => ?_)
    exact hE g3 e (fun c o c1 c2 c3 x => b3 _ _ c3 (b2.extBut _ _ c2 (b1.extBut _ _ c1 x))) he
/-- the zip at turn i, apart from the list S -/
structure Zs (h : Heap) (z TI TO i1 i2 a b S : Addr) (i : Nat) : Prop where
  ti : IsPair h TI (.ref i1) (.ref i2)
  t1 : h.IsTupleIter i1 a i
  t2 : h.IsTupleIter i2 b i
  or : (IsZip h z TI TO .none ∧ ∃ x y, IsPair h TO x y) ∨ ∃ T f oT, IsZipHeld h z TI TO T f ∧ h.get? T = some oT ∧ T ≠ z ∧ T ≠ TO ∧ T ≠ i1 ∧ T ≠ i2 ∧ T ≠ S
theorem Zs.next {z TI TO i1 i2 a b S : Addr} {i : Nat} {xs ys : Array Value} {x y : Value} {Q : Option Value → Shared → Prop} (D : ZipApart z TI TO i1 i2 a b) (Z : Zs s.heap z TI TO i1 i2 a b S i)
    (hS : S < s.heap.objs.size) (hl1 : s.heap.IsTuple a xs) (hl2 : s.heap.IsTuple b ys) (hx : xs[i]? = some x) (hy : ys[i]? = some y)
    (hQ : ∀ h', Zs h' z TI TO i1 i2 a b S (i + 1) → IsPair h' s.heap.objs.size x y → h'.objs.size = s.heap.objs.size + 1 →
      (∀ c o, c ≠ z → c ≠ TO → c ≠ i1 → c ≠ i2 → s.heap.get? c = some o → h'.get? c = some o) → Q (some (.ref s.heap.objs.size)) { s with heap := h' }) :
    wpAny (model prog w) A (pyNext (.ref z)) Q E s := by
  obtain ⟨hTI, h1, h2, or⟩ := Z
  have l1 : i1 < s.heap.objs.size := by obtain ⟨_, e, _⟩ := h1; exact Heap.lt_size e
  have l2 : i2 < s.heap.objs.size := by obtain ⟨_, e, _⟩ := h2; exact Heap.lt_size e
  rcases or with ⟨hz, p, r, hTO⟩ | ⟨T, f, oT, hz, hT, n1, n5, n2, n3, n4⟩
  · have lz : z < s.heap.objs.size := Heap.lt_size hz
    have lo : TO < s.heap.objs.size := Heap.lt_size hTO
    refine RZ.pyNext_zipT_item D hz hTI hTO h1 h2 hl1 hl2 hx hy fun h' z' to' m1 m2 hp hsz hk => ?_
    exact hQ h' ⟨hk _ _ D.TIz D.TITO D.TIi1 D.TIi2 hTI, m1, m2, .inr ⟨_, false, _, z', hp, Nat.ne_of_gt lz, Nat.ne_of_gt lo, Nat.ne_of_gt l1, Nat.ne_of_gt l2, Nat.ne_of_gt hS⟩⟩ hp hsz hk
  · have hTy : s.TypeIs (.ref z) "zip" := ⟨_, hz, rfl⟩
    unfold pyNext
    refine wpAny_bind (wpAny_attempt (wpAny_callSpecial?_slot (name := Str.ofString "__next__") hTy F.slot_zip_next
      (wpAny_call_entry F.slot_zip_next hTy F.entry_zip_next
        (heldItem D hz hT hTI h1 h2 hl1 hl2 hx hy fun h' z' ti' m1 m2 hp hsz hk => wpAny_pure (hQ h' ⟨ti', m1, m2, .inr ⟨T, true, oT, z', hk T oT n1 n2 n3 hT, n1, n5, n2, n3, n4⟩⟩ hp hsz fun c o c1 _ c3 c4 e => hk c o c1 c3 c4 e)) (F.args_zip_next_1 _))))
theorem Zs.fin {z TI TO i1 i2 a b S : Addr} {i : Nat} {xs ys : Array Value} {Q : Option Value → Shared → Prop} (hh : A.handled = none) (D : ZipApart z TI TO i1 i2 a b) (Z : Zs s.heap z TI TO i1 i2 a b S i)
    (hl1 : s.heap.IsTuple a xs) (hl2 : s.heap.IsTuple b ys) (hend : xs[i]? = none ∨ ys[i]? = none)
    (hQ : ∀ h', (∀ c o, c ≠ z → c ≠ TO → c ≠ i1 → c ≠ i2 → s.heap.get? c = some o → h'.get? c = some o) → Q none { s with heap := h' }) :
    wpAny (model prog w) A (pyNext (.ref z)) Q E s := by
  obtain ⟨hTI, h1, h2, or⟩ := Z
  rcases or with ⟨hz, p, r, hTO⟩ | ⟨T, f, oT, hz, hT, n1, n5, n2, n3, n4⟩
  · exact RZ.pyNext_zipT_end hh D hz hTI hTO h1 h2 hl1 hl2 hend hQ
  · have hTy : s.TypeIs (.ref z) "zip" := ⟨_, hz, rfl⟩
    unfold pyNext
    refine wpAny_bind (wpAny_attempt (wpAny_callSpecial?_slot (name := Str.ofString "__next__") hTy F.slot_zip_next
      (wpAny_call_entry F.slot_zip_next hTy F.entry_zip_next (heldEnd hh D hz hT hTI h1 h2 hl1 hl2 hend fun h' e hk he => ?_) (F.args_zip_next_1 _))))
    obtain ⟨o, ho, hc⟩ := he
    refine wpAny_bind (wpAny_isInstance (T := "StopIteration") (b := true) ⟨o, ho, hc⟩ isSubtype_stop ?_)
    exact wpAny_pure (hQ _ fun c o c1 _ c3 c4 e => hk c o c1 c3 c4 e)
theorem Zs.keep {h h' : Heap} {z TI TO i1 i2 a b S : Addr} {i : Nat} (Z : Zs h z TI TO i1 i2 a b S i) (hk : ∀ c o, c ≠ S → h.get? c = some o → h'.get? c = some o) (n1 : z ≠ S) (n2 : TI ≠ S) (n3 : TO ≠ S) (n4 : i1 ≠ S) (n5 : i2 ≠ S) : Zs h' z TI TO i1 i2 a b S i := by
  obtain ⟨hTI, h1, h2, or⟩ := Z
  refine ⟨hk _ _ n2 hTI, h1.at fun o e => hk _ o n4 e, h2.at fun o e => hk _ o n5 e, ?_⟩
  rcases or with ⟨hz, p, r, hTO⟩ | ⟨T, f, oT, hz, hT, m⟩
  · exact .inl ⟨hk _ _ n1 hz, p, r, hk _ _ n3 hTO⟩
  · exact .inr ⟨T, f, oT, hk _ _ n1 hz, hk _ _ m.2.2.2.2 hT, m⟩
end
/-- the pairs, in order, above lo, rising -/
structure Prs (xs ys : Array Value) (lo : Addr) (h : Heap) (as : List Addr) : Prop where
  rise : as.Pairwise (· < ·)
  above : ∀ a ∈ as, lo < a
  prs : ∀ (j : Nat) (a : Addr), as[j]? = some a → ∃ x y, xs[j]? = some x ∧ ys[j]? = some y ∧ IsPair h a x y
theorem Prs.there {xs ys : Array Value} {lo : Addr} {h : Heap} {as : List Addr} (g : Prs xs ys lo h as) {a : Addr} (ha : a ∈ as) : a < h.objs.size := by
  obtain ⟨j, hj⟩ := List.mem_iff_getElem?.mp ha
  obtain ⟨_, _, _, _, e⟩ := g.prs j a hj
  exact Heap.lt_size e
section
variable {prog : Program} {w : World} {A : Around} {s : Shared} {R : Result → Shared → Prop} {xs ys : Array Value}
theorem loopZ {S z TI TO i1 i2 a b : Addr} (hh : A.handled = none) (D : ZipApart z TI TO i1 i2 a b) (o1 : z < S) (o2 : TI < S) (o3 : TO < S) (o4 : i1 < S) (o5 : i2 < S) (o6 : a < S) (o7 : b < S) (hl : xs.size = ys.size + 1) (hn : ys.size ≤ 1000) (res : Value) {g0 : Heap}
    (hR : ∀ h' tk acc c as, (∀ q o, q ≠ S → q ≠ z → q ≠ TO → q ≠ i1 → q ≠ i2 → g0.get? q = some o → h'.get? q = some o) → h'.get? S = some { cls := .type "list", dict := none, data := .seq acc c, slots := #[] } → as.length = ys.size → Prs xs ys S h' as →
      acc.toList = as.map Value.ref → R (.ok (.ret res)) { s with heap := h', toks := tk }) :
    ∀ (k i : Nat) (h : Heap) (tk c : Nat) (acc : Array Value) (as : List Addr), ys.size - i = k → i ≤ ys.size → Zs h z TI TO i1 i2 a b S i → h.IsTuple a xs → h.IsTuple b ys → (∀ q o, q ≠ S → q ≠ z → q ≠ TO → q ≠ i1 → q ≠ i2 → g0.get? q = some o → h.get? q = some o) →
      h.get? S = some { cls := .type "list", dict := none, data := .seq acc c, slots := #[] } → acc.toList = as.map Value.ref → as.length = i → Prs xs ys S h as →
      codeAny (model prog w) A (.builtin "list.extend.loop" ⟨[.ref S, .ref z, res], []⟩) R { s with heap := h, toks := tk } := by
  have nz : z ≠ S := Nat.ne_of_lt o1
  have nTO : TO ≠ S := Nat.ne_of_lt o3
  have n1 : i1 ≠ S := Nat.ne_of_lt o4
  have n2 : i2 ≠ S := Nat.ne_of_lt o5
  have ht : (sizeLine : Nat) = sizeLine := rfl
  have hbig : 1000 < sizeLine := by decide
  intro k
  induction k with
  | zero =>
    intro i h tk c acc as hk hi hZ hA hB hkeep hS hacc hal hG
    refine codeAny_builtin PySem.F.entry_extend_loop ?_
    rw [Around.under_plainId PySem.F.plain_extend_loop _]
    show wpAny _ A.in1 (pyNext (.ref z) >>= _) _ _ _
    refine wpAny_bind (Zs.fin (s := { s with heap := h, toks := tk }) (A := A.in1) hh D hZ hA hB (.inr (Array.getElem?_eq_none (by omega))) fun h' he => ?_)
    refine wpAny_pure (hR h' tk acc c as (fun q o h1 h2 h3 h4 h5 e => he q o h2 h3 h4 h5 (hkeep q o h1 h2 h3 h4 h5 e)) (he S _ nz.symm nTO.symm n1.symm n2.symm hS) (by omega) ⟨hG.rise, hG.above, fun j q hj => ?_⟩ hacc)
    obtain ⟨x, y, e1, e2, e3⟩ := hG.prs j q hj
    have lq : S < q := hG.above q (List.mem_of_getElem? hj)
    exact ⟨x, y, e1, e2, he q _ (Nat.ne_of_gt (Nat.lt_trans o1 lq)) (Nat.ne_of_gt (Nat.lt_trans o3 lq)) (Nat.ne_of_gt (Nat.lt_trans o4 lq)) (Nat.ne_of_gt (Nat.lt_trans o5 lq)) e3⟩
  | succ k ih =>
    intro i h tk c acc as hk hi hZ hA hB hkeep hS hacc hal hG
    have hlt : i < ys.size := by omega
    have hsz : acc.size = i := by rw [← Array.length_toList, hacc, List.length_map, hal]
    refine codeAny_builtin PySem.F.entry_extend_loop ?_
    rw [Around.under_plainId PySem.F.plain_extend_loop _]
    show wpAny _ A.in1 (pyNext (.ref z) >>= _) _ _ _
    have hSl : S < h.objs.size := Heap.lt_size hS
    refine wpAny_bind (Zs.next (s := { s with heap := h, toks := tk }) D hZ hSl hA hB (Array.getElem?_eq_getElem (show i < xs.size by omega)) (Array.getElem?_eq_getElem hlt) fun h' hZ' hp hz hkp => ?_)
    dsimp only at hp hz hkp ⊢
    have hS' := hkp S _ nz.symm nTO.symm n1.symm n2.symm hS
    have up : ∀ q o, q ≠ S → h'.get? q = some o → (h'.update S (Obj.mapSeq (·.push (Value.ref h.objs.size)))).get? q = some o := fun q o hb e => (Heap.get?_update_other _ _ (Ne.symm hb)).trans e
    show wpAny _ A.in1 (updateSeq S (·.push (Value.ref h.objs.size)) >>= _) _ _ _
    refine wpAny_bind ?_
    have tupAt : ∀ {q : Addr} {vs : Array Value}, q < S → q ≠ z → q ≠ TO → q ≠ i1 → q ≠ i2 → h.IsTuple q vs → (h'.update S (Obj.mapSeq (·.push (Value.ref h.objs.size)))).IsTuple q vs := fun {q vs} h0 h1 h2 h3 h4 ⟨o, ho, r⟩ => ⟨o, up q o (Nat.ne_of_lt h0) (hkp q o h1 h2 h3 h4 ho), r⟩
    refine wpAny_updateSeq hS' rfl (wpAny_pure ⟨plainId_quiet PySem.F.plain_extend_loop _, ih (i + 1) _ tk _ (acc.push (Value.ref h.objs.size)) (as ++ [h.objs.size]) (by omega) hlt (hZ'.keep up nz (Nat.ne_of_lt o2) nTO n1 n2)
      (tupAt o6 D.l1z D.l1TO D.l1i1 D.l1i2 hA) (tupAt o7 D.l2z D.l2TO D.l2i1 D.l2i2 hB)
      (fun q o h1 h2 h3 h4 h5 e => up q o h1 (hkp q o h2 h3 h4 h5 (hkeep q o h1 h2 h3 h4 h5 e))) (Heap.get?_update_self _ hS' rfl) (by rw [Array.toList_push, hacc, List.map_append]; rfl) (by rw [List.length_append, hal]; rfl) ⟨?_, ?_, ?_⟩⟩) (by rw [hsz]; omega) (by show (acc.push (Value.ref h.objs.size)).size ≤ sizeLine + 1; rw [Array.size_push, hsz]; omega)
    · refine List.pairwise_append.mpr ⟨hG.rise, List.pairwise_singleton _ _, fun p hp q hq => ?_⟩
      rw [List.mem_singleton.mp hq]
      exact hG.there hp
    · intro p hp
      rcases List.mem_append.mp hp with hp | hp
      · exact hG.above p hp
      · rw [List.mem_singleton.mp hp]; exact hSl
    · intro j q hj
      rcases Nat.lt_trichotomy j as.length with h1 | h1 | h1
      · rw [List.getElem?_append_left h1] at hj
        obtain ⟨x, y, e1, e2, e3⟩ := hG.prs j q hj
        have lq : S < q := hG.above q (List.mem_of_getElem? hj)
        exact ⟨x, y, e1, e2, up q _ (Nat.ne_of_gt lq) (hkp q _ (Nat.ne_of_gt (Nat.lt_trans o1 lq)) (Nat.ne_of_gt (Nat.lt_trans o3 lq)) (Nat.ne_of_gt (Nat.lt_trans o4 lq)) (Nat.ne_of_gt (Nat.lt_trans o5 lq)) e3)⟩
      · subst h1
        have hq : h.objs.size = q := by simpa using hj
        subst hq
        subst hal
        exact ⟨_, _, Array.getElem?_eq_getElem (show as.length < xs.size by omega), Array.getElem?_eq_getElem hlt, up _ _ (Nat.ne_of_gt hSl) hp⟩
      · have hnone : (as ++ [h.objs.size])[j]? = none := List.getElem?_eq_none (by rw [List.length_append, List.length_singleton]; omega)
        rw [hnone] at hj; cases hj
end
theorem noLen : typeLookup (.type "zip") "__len__" = pure none := am_miss_of_fast (by decide +kernel)
theorem noHint : typeLookup (.type "zip") "__length_hint__" = pure none := am_miss_of_fast (by decide +kernel)
section
variable {prog : Program} {w : World} {A : Around} {E : Value → Shared → Prop} {s : Shared} {xs ys : Array Value}
theorem extendZ {R : Result → Shared → Prop} {S z TI TO i1 i2 a b : Addr} (hh : A.handled = none) (D : ZipApart z TI TO i1 i2 a b) (o1 : z < S) (o2 : TI < S) (o3 : TO < S) (o4 : i1 < S) (o5 : i2 < S) (o6 : a < S) (o7 : b < S) (hl : xs.size = ys.size + 1) (hn : ys.size ≤ 1000)
    (Z : Zs s.heap z TI TO i1 i2 a b S 0) (hz : IsZip s.heap z TI TO .none) (hA : s.heap.IsTuple a xs) (hB : s.heap.IsTuple b ys) (c0 : Nat) (hS : s.heap.get? S = some { cls := .type "list", data := .seq #[] c0 }) (res : Value)
    (hR : ∀ h' tk acc c as, (∀ q o, q ≠ S → q ≠ z → q ≠ TO → q ≠ i1 → q ≠ i2 → s.heap.get? q = some o → h'.get? q = some o) → h'.get? S = some { cls := .type "list", dict := none, data := .seq acc c, slots := #[] } → as.length = ys.size → Prs xs ys S h' as →
      acc.toList = as.map Value.ref → R (.ok (.ret res)) { s with heap := h', toks := tk }) :
    wpAny (model prog w) A.in1 (Builtin.List.listExtendWith (.ref S) (.ref z) res)
      (fun fin s' => match fin with | .done f => R (.ok f) s' | .again c' => c'.quiet = true ∧ codeAny (model prog w) A c' R s') (fun e s' => R (.error e) s') s := by
  have nz : z ≠ S := Nat.ne_of_lt o1
  have hT : s.TypeIs (.ref z) "zip" := ⟨_, hz, rfl⟩
  unfold Builtin.List.listExtendWith
  refine wpAny_bind (wpAny_typeOf hT ?_)
  have h1 : Builtin.List.listSameRef (.ref S) (.ref z) = false := by simp [Builtin.List.listSameRef, nz.symm]
  have h2 : (Value.type "zip" == Value.type "list") = false := by decide
  have h3 : (Value.type "zip" == Value.type "tuple") = false := by decide
  simp only [h1, h2, h3, Bool.or_false, Bool.false_eq_true, if_false]
  refine wpAny_bind (wpAny_pyIter_zip hz ?_)
  refine wpAny_bind (wpAny_holding ?_)
  unfold Builtin.List.listLengthHint
  refine wpAny_bind (wpAny_specialOf hT noLen ?_)
  show wpAny _ A.in1 (specialOf (Value.ref z) (Str.ofString "__length_hint__") >>= _) _ _ _
  refine wpAny_bind (wpAny_specialOf hT noHint ?_)
  refine wpAny_pure ?_
  show wpAny _ A.in1 (rule "list.extend.makes-room" >>= fun _ => Builtin.List.listTouch (.ref S) >>= fun _ =>
    again (.builtin "list.extend.loop" ⟨[.ref S, .ref z, res], []⟩)) _ _ _
  refine wpAny_bind (wpAny_rule ?_)
  refine wpAny_bind ?_
  show wpAny _ A.in1 (updateSeq S (·.push .none) >>= fun _ => updateSeq S (·.pop)) _ _ _
  refine wpAny_bind (wpAny_updateSeq hS rfl ?_)
  have s2 := Heap.get?_update_self (Obj.mapSeq (·.push Value.none)) hS rfl
  refine wpAny_updateSeq (hz := by seq_fits) s2 rfl ?_
  have s3 := Heap.get?_update_self (Obj.mapSeq (·.pop)) s2 rfl
  have oth : ∀ q o, q ≠ S → s.heap.get? q = some o → ((s.heap.update S (Obj.mapSeq (·.push Value.none))).update S (Obj.mapSeq (·.pop))).get? q = some o :=
    fun q o hq e => (Heap.get?_update_other _ _ (Ne.symm hq)).trans ((Heap.get?_update_other _ _ (Ne.symm hq)).trans e)
  have tup : ∀ {q : Addr} {vs : Array Value}, q < S → s.heap.IsTuple q vs → ((s.heap.update S (Obj.mapSeq (·.push Value.none))).update S (Obj.mapSeq (·.pop))).IsTuple q vs := fun {q vs} lq ⟨o, ho, r⟩ => ⟨o, oth q o (Nat.ne_of_lt lq) ho, r⟩
  refine wpAny_pure ⟨plainId_quiet PySem.F.plain_extend_loop _, loopZ hh D o1 o2 o3 o4 o5 o6 o7 hl hn res (g0 := s.heap) (fun h' tk acc c as k1 k2 k3 k4 k5 => hR h' tk acc c as k1 k2 k3 k4 k5) ys.size 0 _ _ _ #[] [] (Nat.sub_zero _) (Nat.zero_le _)
    (Z.keep oth nz (Nat.ne_of_lt o2) (Nat.ne_of_lt o3) (Nat.ne_of_lt o4) (Nat.ne_of_lt o5)) (tup o6 hA) (tup o7 hB) (fun q o h1 _ _ _ _ e => oth q o h1 e) s3 rfl rfl ⟨List.Pairwise.nil, (fun _ ha => nomatch ha), (fun j a hj => by simp at hj)⟩⟩
theorem callList {Q : Value → Shared → Prop} {z TI TO i1 i2 a b : Addr} (hh : A.handled = none) (D : ZipApart z TI TO i1 i2 a b) (o1 : z < s.heap.objs.size) (o2 : TI < s.heap.objs.size) (o3 : TO < s.heap.objs.size) (o4 : i1 < s.heap.objs.size) (o5 : i2 < s.heap.objs.size) (o6 : a < s.heap.objs.size) (o7 : b < s.heap.objs.size) (hl : xs.size = ys.size + 1) (hn : ys.size ≤ 1000)
    (Z : Zs s.heap z TI TO i1 i2 a b s.heap.objs.size 0) (hz : IsZip s.heap z TI TO .none) (hA : s.heap.IsTuple a xs) (hB : s.heap.IsTuple b ys)
    (hQ : ∀ h' tk acc c as, (∀ q o, q ≠ z → q ≠ TO → q ≠ i1 → q ≠ i2 → s.heap.get? q = some o → h'.get? q = some o) → h'.get? s.heap.objs.size = some { cls := .type "list", dict := none, data := .seq acc c, slots := #[] } → as.length = ys.size → Prs xs ys s.heap.objs.size h' as →
      acc.toList = as.map Value.ref → Q (.ref s.heap.objs.size) { s with heap := h', toks := tk }) :
    wpAny (model prog w) A (call (.type "list") [.ref z]) Q E s := by
  refine callType_codes (Q₁ := fun obj s₁ => obj = .ref s.heap.objs.size ∧ s₁ = { s with heap := s.heap.push { cls := .type "list", data := .seq #[] } }) PySem.F.called_list (PySem.F.typeCall_list_1 _) PySem.F.entry_list_init
    (code_list_new _ ⟨rfl, rfl⟩) fun obj s₁ h₁ => ?_
  obtain ⟨rfl, rfl⟩ := h₁
  have hS : (s.heap.push { cls := .type "list", data := .seq #[] }).get? s.heap.objs.size = some { cls := .type "list", data := .seq #[] } := Heap.get?_push_size _ rfl
  have pu : ∀ q o, s.heap.get? q = some o → (s.heap.push { cls := .type "list", data := .seq #[] }).get? q = some o := fun q o e => Heap.get?_push_of_some _ e
  refine ⟨⟨_, hS, rfl⟩, PySem.F.args_list_init_2 _ _, ?_⟩
  show wpAny _ _ (do let old ← Builtin.List.listItems (.ref s.heap.objs.size); Builtin.List.listUpdate (.ref s.heap.objs.size) (fun _ => #[]); letGo old.toList.reverse; Builtin.List.listExtendWith (.ref s.heap.objs.size) (.ref z) .none) _ _ _
  refine wpAny_bind ?_
  unfold Builtin.List.listItems
  refine wpAny_bind (wpAny_seqItems hS rfl (wpAny_pure ?_))
  show wpAny _ _ (updateSeq s.heap.objs.size (fun _ => #[]) >>= fun _ => letGo (#[] : Array Value).toList.reverse >>= fun _ => Builtin.List.listExtendWith (.ref s.heap.objs.size) (.ref z) .none) _ _ _
  refine wpAny_bind (wpAny_updateSeq hS rfl ?_)
  have s2 := Heap.get?_update_self (Obj.mapSeq (fun _ => (#[] : Array Value))) hS rfl
  have oth : ∀ q o, q ≠ s.heap.objs.size → s.heap.get? q = some o → ((s.heap.push { cls := .type "list", data := .seq #[] }).update s.heap.objs.size (Obj.mapSeq (fun _ => (#[] : Array Value)))).get? q = some o :=
    fun q o hq e => (Heap.get?_update_other _ _ (Ne.symm hq)).trans (pu q o e)
  refine wpAny_bind (wpAny_letGo ?_)
  refine extendZ (A := A.in1) hh D o1 o2 o3 o4 o5 o6 o7 hl hn (Z.keep oth (Nat.ne_of_lt o1) (Nat.ne_of_lt o2) (Nat.ne_of_lt o3) (Nat.ne_of_lt o4) (Nat.ne_of_lt o5)) (oth _ _ (Nat.ne_of_lt o1) hz)
    (let ⟨o, ho, r⟩ := hA; ⟨o, oth a o (Nat.ne_of_lt o6) ho, r⟩) (let ⟨o, ho, r⟩ := hB; ⟨o, oth b o (Nat.ne_of_lt o7) ho, r⟩) 0 s2 .none fun h' tk acc c as k1 k2 k3 k4 k5 => ?_
  exact ⟨rfl, hQ h' tk acc c as (fun q o h1 h2 h3 h4 e => k1 q o (Nat.ne_of_lt (Heap.lt_size e)) h1 h2 h3 h4 (oth q o (Nat.ne_of_lt (Heap.lt_size e)) e)) k2 k3 k4 k5⟩
end
end ZL

/-! ## X2 -/
set_option maxRecDepth 100000
/-! rules that the hand layer lacks: list(zip(s, t)), t[::-1] of a pair, repr of a truth -/
namespace ZL
open PySem PySem.Spec PyProof.Rows HT
section
variable {prog : Program} {w : World} {A : Around} {E : Value → Shared → Prop} {s : Shared}
theorem applied2 {sl : Addr} {tk : Tok} {Q : Int × Int × Nat → Shared → Prop} (hs : s.heap.IsSliceOf sl .none .none (.int (-1) tk))
    (h : Q (1, -1, 2) s) : wpAny (model prog w) A (Builtin.Slice.sliceApplied (.ref sl) (pure (2 : Int))) Q E s := by
  obtain ⟨os, hos, hcs, hds⟩ := id hs
  unfold Builtin.Slice.sliceApplied Builtin.Slice.sliceFields
  refine wpAny_bind (wpAny_bind (wpAny_field hos hds (x := .none) rfl (wpAny_bind (wpAny_field hos hds (x := .none) rfl (wpAny_bind (wpAny_field hos hds (x := .int (-1) tk) rfl (wpAny_pure ?_)))))))
  refine wpAny_bind (slicePart_int ?_)
  show wpAny _ _ (if ((-1 : Int) == 0) = true then _ else _) _ _ s
  rw [if_neg (by decide)]
  refine wpAny_bind (slicePart_ .none (wpAny_bind (slicePart_ .none (wpAny_bind (wpAny_pure ?_)))))
  exact wpAny_pure h
theorem revPair {t sl : Addr} {u1 u2 : Value} {tk : Tok} {Q : Value → Shared → Prop} (ht : IsTup s.heap t #[u1, u2]) (hs : s.heap.IsSliceOf sl .none .none (.int (-1) tk))
    (h : Q (.ref s.heap.objs.size) { s with heap := s.heap.push { cls := .type "tuple", data := .seq #[u2, u1] } }) : wpAny (model prog w) A (getItem (.ref t) (.ref sl)) Q E s := by
  obtain ⟨os, hos, hcs, hds⟩ := id hs
  have hTs : s.TypeIs (.ref sl) "slice" := ⟨os, hos, hcs⟩
  unfold getItem
  try with_reducible refine wpAny_holding ?_
  first | refine wpAny_bind (wpAny_pure ?_) | skip
  refine wpAny_bind (wpAny_sequenceKey ht.typeIs (by decide) ?_)
  refine wpAny_bind (wpAny_callSpecial?_slot (name := Str.ofString "__getitem__") ht.typeIs PyProof.Rows.slot_tuple_getitem
    (wpAny_call_entry PyProof.Rows.slot_tuple_getitem ht.typeIs entry_tuple_getitem ?_ (args_tuple_getitem _ _)))
  show wpAny _ _ (Builtin.Tuple.tupleItemsOf (.ref t) >>= _) _ _ s
  refine wpAny_bind (tupleItemsOf_ ht ?_)
  refine wpAny_bind (wpAny_typeOf hTs ?_)
  rw [if_pos (by decide)]
  refine wpAny_bind (applied2 hs ?_)
  have e : ((List.range 2).filterMap fun (m : Nat) => (#[u1, u2] : Array Value)[((1 : Int) + (m : Int) * (-1)).toNat]?).toArray = #[u2, u1] := rfl
  show wpAny _ _ (if ((1 : Int) == 0 && (-1 : Int) == 1 && (2 : Nat) == 2) = true then _ else _) _ _ s
  rw [if_neg (by decide), e]
  have htake : sizeOk (.seq #[u2, u1]) := by
    show 2 ≤ sizeLine
    decide
  first
    | exact wpAny_bind (m := Builtin.Tuple.tupleExact _) (wpAny_newObj_type (wpAny_pure ⟨_, rfl, wpAny_pure h⟩) htake)
    | exact wpAny_bind (m := Builtin.Tuple.tupleExact _) (wpAny_newObj_type (wpAny_bind (wpAny_pure (wpAny_pure ⟨_, rfl, wpAny_pure h⟩))) htake)
    | exact wpAny_bind (wpAny_bind (m := Builtin.Tuple.tupleExact _) (wpAny_newObj_type (wpAny_pure (wpAny_pure ⟨_, rfl, wpAny_pure h⟩)) htake))
    | exact wpAny_bind (wpAny_bind (m := Builtin.Tuple.tupleExact _) (wpAny_newObj_type (wpAny_pure ⟨_, rfl, wpAny_pure h⟩) htake))
end
end ZL
namespace DL
open PySem PySem.Spec PyProof.Rows L2
section
variable {X : Cx}
/-! ### a pair turned round -/
def tRevT (K : PySem.W.Frag) (te : TE) : TE := fun σ H Q => te σ H fun x H1 => ∃ a u v, x = .ref a ∧ SqT K H1 a [u, v] ∧ ∀ p, H1 p = none → Q (.ref p) (upd H1 p (.tup [v, u]))
theorem pe_revT {e : Expr} {te : TE} {k : Nat} {p1 p2 p3 pos : Pos} (he : PE X e te) : PE X (.Subscript e (.Slice none none (some (.UnaryOp .USub (.Constant (.int 1) k p1) p2)) p3) pos) (tRevT X.K te) := by
  refine ⟨fun pins s σ H Q I h => ?_⟩
  refine Subscript_ (thn (he.run pins s σ H _ I h) fun v s1 ⟨x, H1, I1, r1, q1⟩ => ?_)
  obtain ⟨a, u1, u2, ex, hx, q⟩ := q1
  subst ex
  cases r1
  have part : PO X (some (.UnaryOp .USub (.Constant (.int 1) k p1) p2)) (tPart (tUn (rU fun i => .int (-i)) (tC (.int 1)))) := po_some (pe_un un_neg pe_int)
  refine wpAny_Slice (thn (po_none.run pins s1 σ H1 (fun o H2 => o = none ∧ H2 = H1) I1 ⟨rfl, rfl⟩) fun vl s2 ⟨l, H2, I2, pl, el, e2⟩ => ?_)
  subst el e2
  refine thn (po_none.run pins s2 σ H2 (fun o H3 => o = none ∧ H3 = H2) I2 ⟨rfl, rfl⟩) fun vu s3 ⟨u, H3, I3, pu, eu, e3⟩ => ?_
  subst eu e3
  refine thn (part.run pins s3 σ H3 (fun o H4 => o = some (-1) ∧ H4 = H3) I3 ⟨1, rfl, -1, rfl, rfl, rfl⟩) fun vs s4 ⟨o, H4, I4, ps, eo, e4⟩ => ?_
  subst eo e4
  have I5 : Inv X pins σ H4 { s4 with heap := s4.heap.push { cls := .type "slice", data := .fields #[vl, vu, vs] } } := I4.kept (t' := s4.toks) fun b ob q => Heap.get?_push_of_some _ q
  obtain ⟨its, r, ht, hz⟩ := I5.tuple hx
  obtain ⟨w1, w2, rfl, r1, r2⟩ : ∃ w1 w2, its = [w1, w2] ∧ RelV u1 w1 ∧ RelV u2 w2 := by
    cases r with
    | cons r1 r =>
      cases r with
      | cons r2 r =>
        cases r
        exact ⟨_, _, rfl, r1, r2⟩
  cases pl
  cases pu
  obtain ⟨tk, rfl⟩ : ∃ tk, vs = .int (-1) tk := by
    cases ps
    exact ⟨_, rfl⟩
  show wpAny (model X.prog X.w) X.A (subscriptTail e (.Slice none none (some (.UnaryOp .USub (.Constant (.int 1) k p1) p2)) p3) (.ref a) (.ref s4.heap.objs.size)) (EP X pins σ Q) X.xe { s4 with heap := s4.heap.push { cls := .type "slice", data := .fields #[.none, .none, .int (-1) tk] } }
  refine tail_any (ops := [.ref a, .ref s4.heap.objs.size]) ht.typeIs PyProof.Rows.slot_tuple_getitem.lookup ?_ (by with_unfolding_all rfl)
  refine ZL.revPair ht (Heap.IsSliceOf.new _ .none .none (.int (-1) tk)) ?_
  refine ⟨.ref _, _, I5.laid (t' := s4.toks) (o := .tup [u2, u1]) (fun b ob q => Heap.get?_push_of_some _ q) (Nat.le_refl _) ?_, rfl, q _ (I5.hok.fresh (Nat.le_refl _))⟩
  exact ⟨by show 2 ≤ sizeLine; decide, [w2, w1], .cons r2 (.cons r1 .nil), ⟨_, Heap.get?_push_size _ rfl, rfl, _, rfl⟩⟩
/-! ### list(zip(s, t)), t one shorter -/
def tListZip (K : PySem.W.Frag) (ta : TA) : TE := fun σ H Q => ta σ H fun vs H1 => ∃ a b xs ys, vs = [.ref a, .ref b] ∧ SqT K H1 a xs ∧ SqT K H1 b ys ∧ xs.length = ys.length + 1 ∧ ys.length ≤ 1000 ∧
  ∀ (p : Addr) (ts : List Addr) (H2 : Hp), ts.length = ys.length → (∀ c o, H1 c = some o → H2 c = some o) → (∀ c ∈ ts, H1 c = none) → (∀ (j : Nat) (c : Addr), ts[j]? = some c → ∃ x y, xs[j]? = some x ∧ ys[j]? = some y ∧ H2 c = some (.tup [x, y])) → H1 p = none → p ∉ ts → H2 p = some (.lst (ts.map .ref)) →
    Q (.ref p) H2
theorem vals_refs : ∀ ts : List Addr, Vals (ts.map V.ref) (ts.map Value.ref)
  | [] => .nil
  | t :: ts => .cons rfl (vals_refs ts)
theorem pe_listZip {e e2 : Expr} {ta : TA} {p p2 pos pos2 : Pos} (hc : X.calm = true) (hg : Gl X "list") (hm : X.mg "list" = none) (hg2 : Gl X "zip") (hm2 : X.mg "zip" = none) (ha : PA X [e, e2] ta)
    (hs : starEach [e, e2] X.env = (false, eval e X.env) :: starEach [e2] X.env := by rfl) (hpl : (backTo pos2 (starEach [e2] X.env)).any (·.1) = false := by rfl)
    (hs2 : starEach [.Call (.Name "zip" p2) [e, e2] [] pos2] X.env = (false, eval (.Call (.Name "zip" p2) [e, e2] [] pos2) X.env) :: starEach [] X.env := by rfl) :
    PE X (.Call (.Name "list" p) [.Call (.Name "zip" p2) [e, e2] [] pos2] [] pos) (tListZip X.K ta) := by
  refine ⟨fun pins s σ H Q I h => ?_⟩
  refine Call_ (ld_blt I hg hm boot_list (PyProof.Rows.callWith_type1 (args_cons (Call_ (ld_blt I hg2 hm2 PyProof.Rows.boot_zip (PyProof.Rows.callWith_type1 (thn (ha.run pos2 pins s σ H _ I h) fun us s1 ⟨vs, H1, I1, r1, q1⟩ => ?_) hs hpl))) hs2) hs2 rfl))
  obtain ⟨a, b, xs, ys, ex, hqx, hqy, hl, hn, q1⟩ := q1
  subst ex
  cases r1 with
  | cons r rr =>
    cases rr with
    | cons r' rr =>
      cases rr
      cases r
      cases r'
      obtain ⟨its, rv, p1, _⟩ := I1.tuple hqx
      obtain ⟨its2, rv2, p2, _⟩ := I1.tuple hqy
      obtain ⟨o1, ho1, _⟩ := id p1
      obtain ⟨o2, ho2, _⟩ := id p2
      have l1 := rv.length
      have l2 := rv2.length
      have la := Heap.lt_size ho1
      have lb := Heap.lt_size ho2
      refine RZ.call_zipT (show s1.heap.IsTuple a its.toArray from p1) (show s1.heap.IsTuple b its2.toArray from p2) fun g hz hTI hTO h1 h2 hsz hk => args_nil ?_
      have D := PySem.W.ktu_apart s1.heap.objs.size a b la lb
      have up : ∀ {n : Nat}, n < 5 → s1.heap.objs.size + n < g.objs.size := fun {n} h => by rw [hsz]; exact Nat.add_lt_add_left h _
      have low : ∀ {q : Addr}, q < s1.heap.objs.size → q < g.objs.size := fun {q} h => Nat.lt_of_lt_of_le h (by rw [hsz]; exact Nat.le_add_right _ _)
      have tA : g.IsTuple a its.toArray := let ⟨o, ho, r⟩ := (show s1.heap.IsTuple a its.toArray from p1); ⟨o, hk _ _ ho, r⟩
      have tB : g.IsTuple b its2.toArray := let ⟨o, ho, r⟩ := (show s1.heap.IsTuple b its2.toArray from p2); ⟨o, hk _ _ ho, r⟩
      refine ZL.callList (s := { s1 with heap := g }) (xs := its.toArray) (ys := its2.toArray) (I1.ok.hd hc) D (up (n := 4) (by decide)) (up (n := 2) (by decide)) (up (n := 3) (by decide)) (up (n := 0) (by decide)) (up (n := 1) (by decide)) (low la) (low lb)
        (by rw [List.size_toArray, List.size_toArray, ← l1, ← l2]; exact hl) (by rw [List.size_toArray, ← l2]; exact hn) ⟨hTI, h1, h2, .inl ⟨hz, _, _, hTO⟩⟩ hz tA tB fun h' tk acc c ts k1 k2 k3 k4 k5 => ?_
      have old : ∀ q o, s1.heap.get? q = some o → h'.get? q = some o := fun q o e => by
        have lq := Heap.lt_size e
        exact k1 q o (Nat.ne_of_lt (Nat.lt_of_lt_of_le lq (Nat.le_add_right _ _))) (Nat.ne_of_lt (Nat.lt_of_lt_of_le lq (Nat.le_add_right _ _))) (Nat.ne_of_lt lq) (Nat.ne_of_lt (Nat.lt_of_lt_of_le lq (Nat.le_add_right _ _))) (hk q o e)
      have I2 : Inv X pins σ H1 { s1 with heap := h', toks := tk } := I1.kept (t' := tk) old
      have nd : ts.Nodup := List.Pairwise.imp (fun h => Nat.ne_of_lt h) k4.rise
      have hi : ∀ c ∈ ts, s1.heap.objs.size ≤ c := fun c hc => Nat.le_of_lt (Nat.lt_of_le_of_lt (show s1.heap.objs.size ≤ g.objs.size by rw [hsz]; exact Nat.le_add_right _ _) (k4.above c hc))
      have no : ∀ c ∈ ts, H1 c = none := fun c hc => I1.hok.fresh (hi c hc)
      have hS : s1.heap.objs.size ≤ g.objs.size := by rw [hsz]; exact Nat.le_add_right _ _
      have nS : H1 g.objs.size = none := I1.hok.fresh hS
      have ntS : g.objs.size ∉ ts := fun z => Nat.lt_irrefl _ (k4.above _ z)
      have tl : ts.length = ys.length := by rw [k3, List.size_toArray, l2]
      have I2' : Inv X pins σ (upd H1 g.objs.size (.lst (ts.map .ref))) { s1 with heap := h', toks := tk } := I1.laid (t' := tk) old hS (show ObjOk X.prog X.w _ _ _ (.lst (ts.map .ref)) from ⟨by rw [List.length_map, tl]; exact Nat.le_trans hn (by decide), ts.map Value.ref, c, vals_refs ts, by rw [← k5, Array.toArray_toList]; exact k2⟩)
      obtain ⟨H2, I3, g3, q3⟩ := L2.DX.takeT (P := fun c vs => ∃ x y, vs = [x, y] ∧ ∀ j, ts[j]? = some c → xs[j]? = some x ∧ ys[j]? = some y) I1 ts _ I2' nd fun c hc => by
        have nc : c ≠ g.objs.size := fun z => ntS (by rw [← z]; exact hc)
        refine ⟨hi c hc, by rw [upd_ne nc]; exact no c hc, ?_⟩
        obtain ⟨j, hj⟩ := List.mem_iff_getElem?.mp hc
        obtain ⟨ux, uy, ex, ey, et⟩ := k4.prs j c hj
        have ex' : its[j]? = some ux := by rw [← List.getElem?_toArray]; exact ex
        have ey' : its2[j]? = some uy := by rw [← List.getElem?_toArray]; exact ey
        have jx : j < xs.length := by rw [l1]; exact (List.getElem?_eq_some_iff.mp ex').1
        have jy : j < ys.length := by rw [l2]; exact (List.getElem?_eq_some_iff.mp ey').1
        obtain ⟨vx, hvx, rx⟩ := rv.get (List.getElem?_eq_getElem jx)
        obtain ⟨vy, hvy, ry⟩ := rv2.get (List.getElem?_eq_getElem jy)
        rw [ex'] at hvx
        rw [ey'] at hvy
        cases hvx
        cases hvy
        refine ⟨[xs[j], ys[j]], ⟨_, _, rfl, fun j' hj' => ?_⟩, fun H2 => ⟨by show 2 ≤ sizeLine; decide, [ux, uy], .cons rx (.cons ry .nil), ⟨_, et, rfl, _, rfl⟩⟩⟩
        have : j' = j := by
          obtain ⟨b1, e1⟩ := List.getElem?_eq_some_iff.mp hj'
          obtain ⟨b2, e2⟩ := List.getElem?_eq_some_iff.mp hj
          exact (List.getElem_inj nd).mp (e1.trans e2.symm)
        subst this
        exact ⟨List.getElem?_eq_getElem jx, List.getElem?_eq_getElem jy⟩
      refine ⟨.ref g.objs.size, H2, I3, rfl, q1 g.objs.size ts H2 tl (fun c o e => g3 c o (by rw [upd_ne (ne_of_none e nS)]; exact e)) no (fun j c hj => ?_) nS ntS (g3 _ _ upd_same)⟩
      obtain ⟨vs, ⟨x, y, rfl, e⟩, e2⟩ := q3 c (List.mem_of_getElem? hj)
      exact ⟨x, y, (e j hj).1, (e j hj).2, e2⟩
end
def pairsD : List D → List D → List D
  | x :: xs, y :: ys => .tup [x, y] :: pairsD xs ys
  | _, _ => []
def wListZip (wa : WA) : WE := fun δ t Q => wa δ t fun ds t1 => ∃ xs ys zs, ds = [.tup xs, .tup ys] ∧ zs = pairsD xs ys ∧ xs.length = ys.length + 1 ∧ ys.length ≤ 1000 ∧ Q (.lst zs) t1
theorem pairs_reps {K : PySem.W.Frag} {fo : Fo} {G G2 : Hp} (hs : Same G G2) : ∀ {dy : List D} {vy : List V} {dx : List D} {vx : List V} {ts : List Addr}, Reps K fo G dx vx → Reps K fo G dy vy → vx.length = vy.length + 1 → ts.length = vy.length →
    (∀ (j : Nat) (c : Addr), ts[j]? = some c → ∃ x y, vx[j]? = some x ∧ vy[j]? = some y ∧ G2 c = some (.tup [x, y])) → Reps K fo G2 (pairsD dx dy) (ts.map .ref)
  | _, _, _, _, ts, rx, .nil, h1, h2, h => by
    have : ts = [] := List.eq_nil_of_length_eq_zero h2
    subst this
    cases rx with
    | nil => exact .nil
    | cons _ _ => exact .nil
  | _, _, _, _, ts, .cons hx rx, .cons hy ry, h1, h2, h => by
    cases ts with
    | nil => cases h2
    | cons c ts =>
      obtain ⟨x, y, e1, e2, e3⟩ := h 0 c rfl
      cases e1
      cases e2
      refine .cons (.tup (.inl (.inl e3)) (.cons (hx.mono hs) (.cons (hy.mono hs) .nil))) (pairs_reps hs rx ry (Nat.succ.inj h1) (Nat.succ.inj h2) fun j c hj => h (j + 1) c hj)
  | _, _, _, _, ts, .nil, .cons hy ry, h1, h2, h => by cases h1
theorem snn_listZip {K : PySem.W.Frag} {ta : TA} {wa : WA} (ha : SnA K ta wa) : SnN K (tListZip K ta) (wListZip wa) := by
  refine ⟨fun δ t P P' k q => ha.mono _ _ _ _ (fun ds t q => ?_) q, fun fo H0 δ t σ G H Q E F q => ?_⟩
  · obtain ⟨xs, ys, zs, e1, e2, h1, h2, q⟩ := q
    exact ⟨xs, ys, zs, e1, e2, h1, h2, k _ _ q⟩
  · refine ha.run fo H0 δ t σ G H _ E F (ha.mono _ _ _ _ (fun ds t1 q vs G1 H1 s1 F1 r1 => ?_) q)
    obtain ⟨dx, dy, _, rfl, rfl, h1, h2, q⟩ := q
    cases r1 with
    | cons ra r1 =>
    cases r1 with
    | cons rb r1 =>
    cases r1
    cases ra with
    | @tup a vx _ ha ra =>
    cases rb with
    | @tup b vy _ hb rb =>
    refine ⟨a, b, vx, vy, rfl, sqT_same s1.sub ha, sqT_same s1.sub hb, by rw [ra.len, rb.len]; exact h1, by rw [rb.len]; exact h2, fun p ts H2 l ext no prs np nts hp => ?_⟩
    have hfc : ∀ fc, fo = some fc → fc.1 ∉ ts := fun fc e z => F1.ne1 e (no _ z)
    have g12 : Same G1 (fun c => if c ∈ ts then H2 c else G1 c) := fun c o e => by
      show (if c ∈ ts then H2 c else G1 c) = some o
      rw [if_neg (fun z => by have := s1.sub _ _ e; rw [no c z] at this; cases this)]
      exact e
    refine (show ∀ p xs G' H' H2, _ from q) p (ts.map .ref) (fun c => if c ∈ ts then H2 c else G1 c) (del H2 p) H2 ⟨fun c o e n => ?_, s1.gg.trans g12, fun c o e => ?_, fun c e1 e2 => ?_, fun fc e1 e2 => ?_⟩ del_same (del_upd hp) (fun fc e => ?_)
      (pairs_reps g12 ra rb (by rw [ra.len, rb.len]; exact h1) l fun j c hj => ?_)
    · have z := s1.hh c o e n
      rw [del_ne (ne_of_none z np)]
      exact ext c o z
    · have e : (if c ∈ ts then H2 c else G1 c) = some o := e
      by_cases hc : c ∈ ts
      · rw [if_pos hc] at e
        rw [del_ne (fun z => nts (by rw [← z]; exact hc))]
        exact e
      · rw [if_neg hc] at e
        have z := s1.sub c o e
        rw [del_ne (ne_of_none z np)]
        exact ext c o z
    · show (if c ∈ ts then H2 c else G1 c) = none
      by_cases hc : c ∈ ts
      · exfalso
        cases hH : H c with
        | none => exact e2 hH
        | some o =>
          have : H1 c = some o := s1.hh c o hH fun fc e z => hfc fc e (z ▸ hc)
          rw [no c hc] at this
          cases this
      · rw [if_neg hc]
        exact s1.new c e1 e2
    · show (if fc.1 ∈ ts then H2 fc.1 else G1 fc.1) = none
      rw [if_neg (hfc fc e1)]
      exact s1.fd fc e1 e2
    · obtain ⟨ns, x, y, k1, k2, k3⟩ := F1 fc e
      exact ⟨ns, x, y, by rw [del_ne (ne_of_none k1 np)]; exact ext _ _ k1, by rw [del_ne (ne_of_none k2 np)]; exact ext _ _ k2, k3⟩
    · obtain ⟨x, y, e1, e2, e3⟩ := prs j c hj
      refine ⟨x, y, e1, e2, ?_⟩
      show (if c ∈ ts then H2 c else G1 c) = _
      rw [if_pos (List.mem_of_getElem? hj)]
      exact e3
/-! ### pairs turned round -/
def prD (d : D) (Q : D → D → Prop) : Prop := match d with
  | .tup [x, y] => Q x y
  | _ => False
theorem prD_of {d : D} {Q : D → D → Prop} (h : prD d Q) : ∃ x y, d = .tup [x, y] ∧ Q x y := by
  unfold prD at h
  split at h
  · exact ⟨_, _, rfl, h⟩
  · exact h.elim
def wRevT (we : WE) : WE := fun δ t Q => we δ t fun d t1 => prD d fun x y => Q (.tup [y, x]) t1
theorem sn_revT {K : PySem.W.Frag} {te : TE} {we : WE} (h : Sn K te we) : Sn K (tRevT K te) (wRevT we) := by
  refine ⟨fun δ t P P' k q => h.mono _ _ _ _ (fun d t q => ?_) q, fun fo H0 δ t σ G H Q E F q => ?_⟩
  · obtain ⟨x, y, rfl, q⟩ := prD_of q
    exact k _ _ q
  · refine h.run fo H0 δ t σ G H _ E F (h.mono _ _ _ _ (fun d t1 q v G1 H1 s1 F1 r1 => ?_) q)
    obtain ⟨x, y, rfl, q⟩ := prD_of q
    cases r1 with
    | @tup a xs _ ha ra =>
    cases ra with
    | cons r1 ra =>
    cases ra with
    | cons r2 ra =>
    cases ra
    exact ⟨a, _, _, rfl, sqT_same s1.sub ha, fun p hp => (Up.step s1 (show Up K fo G H Q _ t1 from q)).tup s1.sub F1 (.cons r2 (.cons r1 .nil)) hp⟩
/-! ### repr of a truth -/
def rReprB : List V → Hp → VK → Prop := fun xs H Q => ∃ b, xs = [.bl b] ∧ Q (.str (if b then "True" else "False")) H
theorem call_repr_bl {X : Cx} : CallR X (.builtin "repr") rReprB := by
  intro pins s σ H xs us Q I r h
  obtain ⟨b, rfl, q⟩ := h
  obtain ⟨u, rfl, rfl⟩ := vals1 r
  exact P.repr_of_bool ⟨.str (if b then "True" else "False"), H, I.tok _, ⟨_, rfl⟩, q⟩
def rhoRepr : OC := fun ds t Q => c1D ds fun d => match d with
  | .bl b => Q (.str (if b then "True" else "False")) t
  | _ => False
theorem snc_repr {K : PySem.W.Frag} : SnC K rReprB rhoRepr := by
  refine ⟨fun x t P P' k h => c1D_mono (fun d q => ?_) h, fun fo x t u G H Q r s F h => ?_⟩
  · cases d <;> first | exact q.elim | exact k _ _ q
  · obtain ⟨d, rfl, h⟩ := c1D_of h
    obtain ⟨v, rfl, r1⟩ := reps1 r
    cases d with
    | bl b => cases r1; exact ⟨_, rfl, Up.at (show Up K fo G H Q _ t from h) s F (.str _)⟩
    | _ => exact h.elim
end DL

/-! ## X3 -/
set_option maxRecDepth 100000
/-! the law's feed: reading and writing its dict -/
namespace DL
open PySem PySem.Spec PyProof.Rows L2
def fdD (o : Option Sl) (P : Prop) : Prop := match o with
  | some (.dat .feed) => P
  | _ => False
theorem fdD_of {o : Option Sl} {P : Prop} (h : fdD o P) : o = some (.dat .feed) ∧ P := by
  unfold fdD at h
  split at h
  · exact ⟨rfl, h⟩
  · exact h.elim
theorem fdD_mono {o : Option Sl} {P P' : Prop} (k : P → P') (h : fdD o P) : fdD o P' := by
  obtain ⟨rfl, h⟩ := fdD_of h
  exact k h
section
variable {K : PySem.W.Frag} {fo : Fo} {G H G' H' G0 H0 : Hp} {δ : List Sl} {σ : L2.St} {t : Nat}
def fdK (c : Addr) (a l t : Int) : List (Key × V) := [(.inr "cells", .ref c), (.inr "at", .int a), (.inr "left", .int l), (.inr "turn", .int t)]
theorem fd_at {i : Nat} (E : En K fo H0 δ σ G H) (F : Feed fo t H) (hi : δ[i]? = some (.dat .feed)) : ∃ (fc : Addr × Addr) (ns : List Int) (a l : Int), fo = some fc ∧ σ[i]? = some (some (.ref fc.1)) ∧ H fc.1 = some (.dK (fdK fc.2 a l t)) ∧ H fc.2 = some (.lst (ns.map V.int)) ∧ G fc.2 = some (.lst (ns.map V.int)) ∧ ns.length ≤ 63 ∧ 0 ≤ a ∧ 0 ≤ l := by
  obtain ⟨v, h1, r⟩ := E.dat i _ hi
  cases r with
  | @feed fc e ns c =>
    obtain ⟨ns', a, l, k1, k2, k3, k4, k5⟩ := F fc e
    have := E.sub _ _ c
    rw [k2] at this
    have hl : ns'.length = ns.length := by
      have := congrArg List.length (HO.lst.inj (Option.some.inj this))
      rw [List.length_map, List.length_map] at this
      exact this
    exact ⟨fc, ns, a, l, e, h1, k1, E.sub _ _ c, c, by omega, k4, k5⟩
theorem Feed.put (F : Feed fo t H) {fc : Addr × Addr} (e : fo = some fc) {ns : List Int} {a l : Int} {t' : Nat} (hc : H fc.2 = some (.lst (ns.map V.int))) (h1 : ns.length ≤ 63) (h2 : 0 ≤ a) (h3 : 0 ≤ l) (hk : H fc.1 = some (.dK (fdK fc.2 a l t))) {a' l' : Int} (ha : 0 ≤ a') (hl : 0 ≤ l') :
    Feed fo t' (L2.upd H fc.1 (.dK (fdK fc.2 a' l' t'))) := fun fc' e' => by
  rw [e] at e'
  cases e'
  have ne : fc.2 ≠ fc.1 := fun z => by
    rw [z, hk] at hc
    cases hc
  exact ⟨ns, a', l', upd_same, by rw [upd_ne ne]; exact hc, h1, ha, hl⟩
theorem En.fput (E : En K fo H0 δ σ G H) {fc : Addr × Addr} (e : fo = some fc) {o : HO} : En K fo H0 δ σ G (upd H fc.1 o) := by
  have g := E.fd fc e
  refine ⟨fun p u h => by rw [upd_ne (ne_of_none h g)]; exact E.sub p u h, E.fd, E.len, E.dat, fun i ds h => ?_, E.dis⟩
  obtain ⟨p, xs, k1, k2, k3, k4, k5, k6⟩ := E.own i ds h
  exact ⟨p, xs, k1, by rw [upd_ne (k5 fc e).1]; exact k2, k3, k4, k5, k6⟩
theorem Step.fput (s : Step fo G0 H0 G H) (g : ∀ fc, fo = some fc → G fc.1 = none) {fc : Addr × Addr} (e : fo = some fc) {o : HO} : Step fo G0 H0 G (upd H fc.1 o) :=
  ⟨fun p u h n => by rw [upd_ne (n fc e)]; exact s.hh p u h n, s.gg, fun p u h => by rw [upd_ne (ne_of_none h (g fc e))]; exact s.sub p u h, s.new, s.fd⟩
def wFturn (i : Nat) : WE := fun δ t Q => fdD δ[i]? (Q (.int (t : Int)) t)
theorem sn_fturn {i : Nat} : Sn K (tDGet (tVar i) (tC (.str "turn"))) (wFturn i) := by
  refine ⟨fun δ t P P' k q => fdD_mono (fun q => k _ _ q) q, fun fo H0 δ t σ G H Q E F q => ?_⟩
  obtain ⟨hi, q⟩ := fdD_of q
  obtain ⟨fc, ns, a, l, e, h1, hk, hc, gc, c1, c2, c3⟩ := fd_at E F hi
  exact ⟨_, h1, fc.1, .int (t : Int), rfl, DGet.k (k := .inr "turn") hk, Up.at (show Up K fo G H Q _ t from q) E.sub F (.int _)⟩
def wFnat (i : Nat) : WE := fun δ t Q => fdD δ[i]? (∀ l : Int, 0 ≤ l → Q (.int l) t)
theorem sn_fleft {i : Nat} : Sn K (tDGet (tVar i) (tC (.str "left"))) (wFnat i) := by
  refine ⟨fun δ t P P' k q => fdD_mono (fun q l h => k _ _ (q l h)) q, fun fo H0 δ t σ G H Q E F q => ?_⟩
  obtain ⟨hi, q⟩ := fdD_of q
  obtain ⟨fc, ns, a, l, e, h1, hk, hc, gc, c1, c2, c3⟩ := fd_at E F hi
  exact ⟨_, h1, fc.1, .int l, rfl, DGet.k (k := .inr "left") hk, Up.at (show Up K fo G H Q _ t from q l c3) E.sub F (.int _)⟩
theorem sn_fat {i : Nat} : Sn K (tDGet (tVar i) (tC (.str "at"))) (wFnat i) := by
  refine ⟨fun δ t P P' k q => fdD_mono (fun q l h => k _ _ (q l h)) q, fun fo H0 δ t σ G H Q E F q => ?_⟩
  obtain ⟨hi, q⟩ := fdD_of q
  obtain ⟨fc, ns, a, l, e, h1, hk, hc, gc, c1, c2, c3⟩ := fd_at E F hi
  exact ⟨_, h1, fc.1, .int a, rfl, DGet.k (k := .inr "at") hk, Up.at (show Up K fo G H Q _ t from q a c2) E.sub F (.int _)⟩
theorem reps_ints {ns : List Int} : Reps K fo G (ns.map D.int) (ns.map V.int) := by
  induction ns with
  | nil => exact .nil
  | cons n ns ih => exact .cons (.int n) ih
def wFcells (i : Nat) : WE := fun δ t Q => fdD δ[i]? (∀ ns : List Int, ns.length ≤ 63 → Q (.lst (ns.map D.int)) t)
theorem sn_fcells {i : Nat} : Sn K (tDGet (tVar i) (tC (.str "cells"))) (wFcells i) := by
  refine ⟨fun δ t P P' k q => fdD_mono (fun q l h => k _ _ (q l h)) q, fun fo H0 δ t σ G H Q E F q => ?_⟩
  obtain ⟨hi, q⟩ := fdD_of q
  obtain ⟨fc, ns, a, l, e, h1, hk, hc, gc, c1, c2, c3⟩ := fd_at E F hi
  exact ⟨_, h1, fc.1, .ref fc.2, rfl, DGet.k (k := .inr "cells") hk, Up.at (show Up K fo G H Q _ t from q ns c1) E.sub F (.lst gc reps_ints)⟩
def wFputT (i : Nat) (wv : WE) : WS := fun E δ t => wv δ t fun d t1 => fdD δ[i]? (d = .int ((t1 : Int) + 1) ∧ E.nx δ (t1 + 1))
theorem small4 {c : Addr} {a l t : Int} : (fdK c a l t).length < sizeLine := by
  show 4 < sizeLine
  decide
theorem sns_fputT {i : Nat} {tv : TE} {wv : WE} (h : Sn K tv wv) : SnS K (sDPut (tVar i) (tC (.str "turn")) tv) (wFputT i wv) := fun fo G0 H0 E Dn δ t σ G H L e F s q => by
  refine h.run fo H0 δ t σ G H _ e F (h.mono _ _ _ _ (fun d t1 q v G1 H1 s1 F1 r1 => ?_) q)
  obtain ⟨hi, hd, q'⟩ := fdD_of q
  subst hd
  have e1 := e.step s1
  obtain ⟨fc, ns, a, l, ef, h1, hk, hc, gc, c1, c2, c3⟩ := fd_at e1 F1 hi
  cases r1
  refine ⟨_, h1, fc.1, upd H1 fc.1 (.dK (fdK fc.2 a l ((t1 + 1 : Nat) : Int))), rfl, ?_, ?_⟩
  · have := DPut.k (k := .inr "turn") (v := .int ((t1 : Int) + 1)) hk small4
    exact this
  · exact L.nx δ (t1 + 1) σ G1 _ q' (e1.fput ef) (F1.put ef hc c1 c2 c3 hk c2 c3) ((s.trans s1).fput e1.fd ef)
def wFput (i : Nat) (wv : WE) : WS := fun E δ t => wv δ t fun d t1 => fdD δ[i]? (∃ l : Int, d = .int l ∧ 0 ≤ l ∧ E.nx δ t1)
theorem sns_fputL {i : Nat} {tv : TE} {wv : WE} (h : Sn K tv wv) : SnS K (sDPut (tVar i) (tC (.str "left")) tv) (wFput i wv) := fun fo G0 H0 E Dn δ t σ G H L e F s q => by
  refine h.run fo H0 δ t σ G H _ e F (h.mono _ _ _ _ (fun d t1 q v G1 H1 s1 F1 r1 => ?_) q)
  obtain ⟨hi, l', hd, hl, q'⟩ := fdD_of q
  subst hd
  have e1 := e.step s1
  obtain ⟨fc, ns, a, l, ef, h1, hk, hc, gc, c1, c2, c3⟩ := fd_at e1 F1 hi
  cases r1
  refine ⟨_, h1, fc.1, upd H1 fc.1 (.dK (fdK fc.2 a l' t1)), rfl, ?_, ?_⟩
  · exact DPut.k (k := .inr "left") (v := .int l') hk small4
  · exact L.nx δ t1 σ G1 _ q' (e1.fput ef) (F1.put ef hc c1 c2 c3 hk c2 hl) ((s.trans s1).fput e1.fd ef)
theorem sns_fputA {i : Nat} {tv : TE} {wv : WE} (h : Sn K tv wv) : SnS K (sDPut (tVar i) (tC (.str "at")) tv) (wFput i wv) := fun fo G0 H0 E Dn δ t σ G H L e F s q => by
  refine h.run fo H0 δ t σ G H _ e F (h.mono _ _ _ _ (fun d t1 q v G1 H1 s1 F1 r1 => ?_) q)
  obtain ⟨hi, a', hd, ha, q'⟩ := fdD_of q
  subst hd
  have e1 := e.step s1
  obtain ⟨fc, ns, a, l, ef, h1, hk, hc, gc, c1, c2, c3⟩ := fd_at e1 F1 hi
  cases r1
  refine ⟨_, h1, fc.1, upd H1 fc.1 (.dK (fdK fc.2 a' l t1)), rfl, ?_, ?_⟩
  · exact DPut.k (k := .inr "at") (v := .int a') hk small4
  · exact L.nx δ t1 σ G1 _ q' (e1.fput ef) (F1.put ef hc c1 c2 c3 hk ha c3) ((s.trans s1).fput e1.fd ef)
end
end DL

/-! ## W1 -/
set_option maxRecDepth 100000
/-! numbers and places of the program -/
namespace DL
open PySem PySem.Spec PyProof.Rows L2
open C8 (Cal pe_c pe_gc)
open W15
section
variable {P : Program} {w : World} {K : PySem.W.Frag} {mg : Str → Option Value} {base : Heap}
def C_divisor : Con := Con.of (fun p : Int × Int => [.int p.1, .int p.2]) (fun _ => True) (fun p => .int (Int.gcd p.1 p.2))
abbrev s_divisor : Stmt := topS 1
abbrev N_divisor : List Str := ["one", "other"]
theorem sc_divisor : FnScope ["one", "other"] ["one", "other"] (defScope s_divisor) := ⟨rfl, rfl, rfl, by decide +kernel, rfl, by decide +kernel, by decide +kernel⟩
theorem ok_divisor (N : Dn K mg "divisor" s_divisor ["one", "other"]) (B : Bt mg) : Cal P w K mg base 1 "divisor" (LSp K C_divisor) [] := by
  refine N.ok sc_divisor ?_ (fun f cdv A outer s H E hr => (pss_cons (ps_set (i := 0) sc_divisor.nd rfl (.inl rfl) (pe_callB call_abs (by rfl) B.abs (by decide +kernel) (pa_cons (pv 0) pa_nil)))
      (pss_cons (ps_set (i := 1) sc_divisor.nd rfl (.inl rfl) (pe_callB call_abs (by rfl) B.abs (by decide +kernel) (pa_cons (pv 1) pa_nil)))
      (pss_cons (ps_while PassesOwn.never (pt_cmpR op_gt (pv 1) pe_int (nomark _)) (pss_one (ps_par (i := 0) (j := 1) rfl sc_divisor.nd rfl rfl (by decide) rfl rfl (pa_cons (pv 1) (pa_cons (pe_op op_modN (pv 0) (pv 1)) pa_nil)) (by rfl))))
      (pss_one (ps_ret (pv 0)))))))
    (sns_seq (sns_asg (sn_cb snc_abs (sna_cons (sn_var (i := 0)) sna_nil)) (sng_name (i := 0)))
      (sns_seq (sns_asg (sn_cb snc_abs (sna_cons (sn_var (i := 1)) sna_nil)) (sng_name (i := 1)))
      (sns_seq (sns_while (snt_test (sn_op snr_B (sn_var (i := 1)) sn_int)) (sns_par (i := 0) (j := 1) (sna_cons (sn_var (i := 1)) (sna_cons (sn_op snr_IC (sn_var (i := 0)) (sn_var (i := 1))) sna_nil))))
      (sns_ret (sn_var (i := 0)))))) ?_
  · exact Con.len fun _ => rfl
  · rintro ds t Q ⟨⟨a, b⟩, rfl, _, q⟩
    refine ⟨(if b < 0 then -b else b).toNat + 1, ?_⟩
    refine (?_ : ∀ (n : Nat) (x y : Int), 0 ≤ x → 0 ≤ y → y.toNat < n → Q (.int (Int.gcd x y)) t → whW _ _ _ n [Sl.dat (.int x), Sl.dat (.int y)] t) _ _ _ ?_ ?_ (Nat.lt_succ_self _) ?_
    · intro n
      induction n with
      | zero => intro x y _ _ h; exact absurd h (Nat.not_lt_zero _)
      | succ n ih =>
        intro x y hx hy hn hq
        show if decide (0 < y) = true then _ else _
        refine ite2 (fun h => ?_) (fun h => ?_)
        · have hy' : 0 < y := of_decide_eq_true h
          refine ⟨(by omega : y ≠ 0), ih y (x.fmod y) hy (fmod_lt hy').1 ?_ ?_⟩
          · have := fmod_lt (x := x) hy'
            omega
          · rw [gcd_step hx hy']; exact hq
        · have e : y = 0 := by
            have : ¬ 0 < y := fun z => h (decide_eq_true z)
            omega
          subst e
          show Q (.int x) t
          have : (Int.gcd x 0 : Int) = x := by rw [Int.gcd_zero_right]; omega
          rw [this] at hq
          exact hq
    · show 0 ≤ if a < 0 then -a else a
      split <;> omega
    · show 0 ≤ if b < 0 then -b else b
      split <;> omega
    · show Q (.int (Int.gcd (if a < 0 then -a else a) (if b < 0 then -b else b))) t
      rw [gcd_abs]
      exact q
def C_fraction : Con := Con.of (fun p : Int × Int => [.int p.1, .int p.2]) (fun p => p.2 ≠ 0 ∧ Bd 13500 p.1 ∧ Bd 13500 p.2) (fun p => dR ((p.1 : Rat) / (p.2 : Rat)))
theorem gcd_ne {t b : Int} (h : b ≠ 0) : (Int.gcd t b : Int) ≠ 0 := by
  have := gcd_pos (a := t) h
  omega
abbrev s_fraction : Stmt := topS 2
abbrev N_fraction : List Str := ["top", "bottom", "common_part"]
theorem sc_fraction : FnScope ["top", "bottom", "common_part"] ["top", "bottom"] (defScope s_fraction) := ⟨rfl, rfl, rfl, by decide +kernel, rfl, by decide +kernel, by decide +kernel⟩
theorem ok_fraction (N : Dn K mg "fraction" s_fraction ["top", "bottom"]) (c_divisor : Cal P w K mg base 1 "divisor" (LSp K C_divisor) []) : Cal P w K mg base 2 "fraction" (LSp K C_fraction) [] := by
  refine N.ok sc_fraction ?_ (fun f cdv A outer s H E hr => (pss_cons (ps_set (i := 2) sc_fraction.nd rfl (.inl rfl) (pe_c c_divisor hr (by decide) (by rfl) (pa_cons (pv 0) (pa_cons (pv 1) pa_nil))))
      (pss_cons (ps_if (pt_cmpR op_lt (pv 1) pe_int (nomark _)) (pss_one (ps_set (i := 2) sc_fraction.nd rfl (.inl rfl) (pe_op op_sub pe_int (pv 2)))) pss_nil)
      (pss_one (ps_ret (pe_tup (pa_cons (pe_op op_fdivB (pv 0) (pv 2)) (pa_cons (pe_op op_fdivB (pv 1) (pv 2)) pa_nil))))))))
    (sns_seq (sns_asg (sn_call (C := C_divisor) (sna_cons (sn_var (i := 0)) (sna_cons (sn_var (i := 1)) sna_nil))) (sng_name (i := 2)))
      (sns_seq (sns_if (snt_test (sn_op snr_B (sn_var (i := 1)) sn_int)) (sns_asg (sn_op snr_I sn_int (sn_var (i := 2))) (sng_name (i := 2))) sns_nil)
      (sns_ret (sn_tup (sna_cons (sn_op snr_IC (sn_var (i := 0)) (sn_var (i := 2))) (sna_cons (sn_op snr_IC (sn_var (i := 1)) (sn_var (i := 2))) sna_nil)))))) ?_
  · exact Con.len fun _ => rfl
  · rintro ds t Q ⟨⟨a, b⟩, rfl, ⟨hb, h1, h2⟩, q⟩
    have hb : b ≠ 0 := hb
    refine ⟨(a, b), rfl, trivial, ?_⟩
    show if decide (b < 0) = true then _ else _
    refine ite2 (fun h => ?_) (fun h => ?_)
    · have hb' : b < 0 := of_decide_eq_true h
      have hg : (0 - (Int.gcd a b : Int)) ≠ 0 := by have := gcd_pos (a := a) hb; omega
      refine ⟨⟨hg, .inr ⟨_, h1, Nat.le_refl _⟩⟩, ⟨hg, .inr ⟨_, h2, Nat.le_refl _⟩⟩, ?_⟩
      obtain ⟨e1, e2⟩ := divInt_num_neg (t := a) hb'
      show Q (.tup [.int (a.fdiv (0 - (Int.gcd a b : Int))), .int (b.fdiv (0 - (Int.gcd a b : Int)))]) t
      rw [e1, e2]
      exact q
    · have hb' : 0 < b := by
        have : ¬ b < 0 := fun z => h (decide_eq_true z)
        omega
      have hg := gcd_ne (t := a) hb
      refine ⟨⟨hg, .inr ⟨_, h1, Nat.le_refl _⟩⟩, ⟨hg, .inr ⟨_, h2, Nat.le_refl _⟩⟩, ?_⟩
      obtain ⟨e1, e2⟩ := divInt_num_pos (t := a) hb'
      show Q (.tup [.int (a.fdiv (Int.gcd a b : Int)), .int (b.fdiv (Int.gcd a b : Int))]) t
      rw [e1, e2]
      exact q
/-- two fractions of so many bits -/
def rr (p : Rat × Rat) : List D := [dR p.1, dR p.2]
def RR (n : Nat) (p : Rat × Rat) : Prop := RB n p.1 ∧ RB n p.2
def C_less : Con := Con.of rr (RR 6700) (fun p => dR (p.1 - p.2))
def C_times : Con := Con.of rr (RR 6700) (fun p => dR (p.1 * p.2))
def C_over : Con := Con.of rr (fun p => p.2 ≠ 0 ∧ RR 6700 p) (fun p => dR (p.1 / p.2))
def C_is_below : Con := Con.of rr (RR 100000) (fun p => .bl (decide (p.1 < p.2)))
theorem den_ne0 (x : Rat) : (x.den : Int) ≠ 0 := by have := den_pos x; omega
theorem mulB {x y : Int} {n m : Nat} (h : Bd n x) (k : Bd m y) (l : n + m ≤ 900000) : CMulB x y := ⟨n, m, h, k, l⟩
abbrev s_less : Stmt := topS 3
abbrev N_less : List Str := ["one", "other"]
theorem sc_less : FnScope ["one", "other"] ["one", "other"] (defScope s_less) := ⟨rfl, rfl, rfl, by decide +kernel, rfl, by decide +kernel, by decide +kernel⟩
theorem ok_less (N : Dn K mg "less" s_less ["one", "other"]) (c_fraction : Cal P w K mg base 2 "fraction" (LSp K C_fraction) []) : Cal P w K mg base 3 "less" (LSp K C_less) [] := by
  refine N.ok sc_less ?_ (fun f cdv A outer s H E hr => (pss_one (ps_ret (pe_c c_fraction hr (by decide) (by rfl) (pa_cons (pe_op op_sub (pe_op op_mulB (pe_ix ix_A (pv 0) pe_int (fun _ _ => rfl)) (pe_ix ix_A (pv 1) pe_int (fun _ _ => rfl))) (pe_op op_mulB (pe_ix ix_A (pv 1) pe_int (fun _ _ => rfl)) (pe_ix ix_A (pv 0) pe_int (fun _ _ => rfl)))) (pa_cons (pe_op op_mulB (pe_ix ix_A (pv 0) pe_int (fun _ _ => rfl)) (pe_ix ix_A (pv 1) pe_int (fun _ _ => rfl))) pa_nil))))))
    (sns_ret (sn_call (C := C_fraction) (sna_cons (sn_op snr_I (sn_op snr_IC (sn_op snr_ix (sn_var (i := 0)) sn_int) (sn_op snr_ix (sn_var (i := 1)) sn_int)) (sn_op snr_IC (sn_op snr_ix (sn_var (i := 1)) sn_int) (sn_op snr_ix (sn_var (i := 0)) sn_int))) (sna_cons (sn_op snr_IC (sn_op snr_ix (sn_var (i := 0)) sn_int) (sn_op snr_ix (sn_var (i := 1)) sn_int)) sna_nil)))) ?_
  · exact Con.len fun _ => rfl
  · rintro ds t Q ⟨⟨x, y⟩, rfl, ⟨hx, hy⟩, q⟩
    refine ⟨mulB hx.num hy.den (by decide), mulB hy.num hx.den (by decide), mulB hx.den hy.den (by decide), (_, _), rfl, ⟨den_mul_ne x y, ?_, ?_⟩, ?_⟩
    · exact ((hx.num.mul hy.den).subS (hy.num.mul hx.den)).mono (by decide)
    · exact (hx.den.mul hy.den).mono (by decide)
    · show Q (dR (((x.num * y.den - y.num * x.den : Int) : Rat) / ((x.den * y.den : Int) : Rat))) t
      rw [sub_frac]
      exact q
abbrev s_times : Stmt := topS 4
abbrev N_times : List Str := ["one", "other"]
theorem sc_times : FnScope ["one", "other"] ["one", "other"] (defScope s_times) := ⟨rfl, rfl, rfl, by decide +kernel, rfl, by decide +kernel, by decide +kernel⟩
theorem ok_times (N : Dn K mg "times" s_times ["one", "other"]) (c_fraction : Cal P w K mg base 2 "fraction" (LSp K C_fraction) []) : Cal P w K mg base 3 "times" (LSp K C_times) [] := by
  refine N.ok sc_times ?_ (fun f cdv A outer s H E hr => (pss_one (ps_ret (pe_c c_fraction hr (by decide) (by rfl) (pa_cons (pe_op op_mulB (pe_ix ix_A (pv 0) pe_int (fun _ _ => rfl)) (pe_ix ix_A (pv 1) pe_int (fun _ _ => rfl))) (pa_cons (pe_op op_mulB (pe_ix ix_A (pv 0) pe_int (fun _ _ => rfl)) (pe_ix ix_A (pv 1) pe_int (fun _ _ => rfl))) pa_nil))))))
    (sns_ret (sn_call (C := C_fraction) (sna_cons (sn_op snr_IC (sn_op snr_ix (sn_var (i := 0)) sn_int) (sn_op snr_ix (sn_var (i := 1)) sn_int)) (sna_cons (sn_op snr_IC (sn_op snr_ix (sn_var (i := 0)) sn_int) (sn_op snr_ix (sn_var (i := 1)) sn_int)) sna_nil)))) ?_
  · exact Con.len fun _ => rfl
  · rintro ds t Q ⟨⟨x, y⟩, rfl, ⟨hx, hy⟩, q⟩
    refine ⟨mulB hx.num hy.num (by decide), mulB hx.den hy.den (by decide), (_, _), rfl, ⟨den_mul_ne x y, ?_, ?_⟩, ?_⟩
    · exact (hx.num.mul hy.num).mono (by decide)
    · exact (hx.den.mul hy.den).mono (by decide)
    · show Q (dR (((x.num * y.num : Int) : Rat) / ((x.den * y.den : Int) : Rat))) t
      rw [mul_frac]
      exact q
abbrev s_over : Stmt := topS 5
abbrev N_over : List Str := ["one", "other"]
theorem sc_over : FnScope ["one", "other"] ["one", "other"] (defScope s_over) := ⟨rfl, rfl, rfl, by decide +kernel, rfl, by decide +kernel, by decide +kernel⟩
theorem ok_over (N : Dn K mg "over" s_over ["one", "other"]) (c_fraction : Cal P w K mg base 2 "fraction" (LSp K C_fraction) []) : Cal P w K mg base 3 "over" (LSp K C_over) [] := by
  refine N.ok sc_over ?_ (fun f cdv A outer s H E hr => (pss_one (ps_ret (pe_c c_fraction hr (by decide) (by rfl) (pa_cons (pe_op op_mulB (pe_ix ix_A (pv 0) pe_int (fun _ _ => rfl)) (pe_ix ix_A (pv 1) pe_int (fun _ _ => rfl))) (pa_cons (pe_op op_mulB (pe_ix ix_A (pv 0) pe_int (fun _ _ => rfl)) (pe_ix ix_A (pv 1) pe_int (fun _ _ => rfl))) pa_nil))))))
    (sns_ret (sn_call (C := C_fraction) (sna_cons (sn_op snr_IC (sn_op snr_ix (sn_var (i := 0)) sn_int) (sn_op snr_ix (sn_var (i := 1)) sn_int)) (sna_cons (sn_op snr_IC (sn_op snr_ix (sn_var (i := 0)) sn_int) (sn_op snr_ix (sn_var (i := 1)) sn_int)) sna_nil)))) ?_
  · exact Con.len fun _ => rfl
  · rintro ds t Q ⟨⟨x, y⟩, rfl, ⟨h0, hx, hy⟩, q⟩
    have h0 : y ≠ 0 := h0
    refine ⟨mulB hx.num hy.den (by decide), mulB hx.den hy.num (by decide), (_, _), rfl, ⟨Int.mul_ne_zero (den_ne0 x) (num_ne h0), ?_, ?_⟩, ?_⟩
    · exact (hx.num.mul hy.den).mono (by decide)
    · exact (hx.den.mul hy.num).mono (by decide)
    · show Q (dR (((x.num * y.den : Int) : Rat) / ((x.den * y.num : Int) : Rat))) t
      rw [div_frac x y h0]
      exact q
abbrev s_is_below : Stmt := topS 6
abbrev N_is_below : List Str := ["one", "other"]
theorem sc_is_below : FnScope ["one", "other"] ["one", "other"] (defScope s_is_below) := ⟨rfl, rfl, rfl, by decide +kernel, rfl, by decide +kernel, by decide +kernel⟩
theorem ok_is_below (N : Dn K mg "is_below" s_is_below ["one", "other"]) : Cal P w K mg base 1 "is_below" (LSp K C_is_below) [] := by
  refine N.ok sc_is_below ?_ (fun f cdv A outer s H E hr => (pss_one (ps_ret (pe_cmpR op_lt (pe_op op_mulB (pe_ix ix_A (pv 0) pe_int (fun _ _ => rfl)) (pe_ix ix_A (pv 1) pe_int (fun _ _ => rfl))) (pe_op op_mulB (pe_ix ix_A (pv 1) pe_int (fun _ _ => rfl)) (pe_ix ix_A (pv 0) pe_int (fun _ _ => rfl))) (nomark _)))))
    (sns_ret (sn_op snr_B (sn_op snr_IC (sn_op snr_ix (sn_var (i := 0)) sn_int) (sn_op snr_ix (sn_var (i := 1)) sn_int)) (sn_op snr_IC (sn_op snr_ix (sn_var (i := 1)) sn_int) (sn_op snr_ix (sn_var (i := 0)) sn_int)))) ?_
  · exact Con.len fun _ => rfl
  · rintro ds t Q ⟨⟨x, y⟩, rfl, ⟨hx, hy⟩, q⟩
    refine ⟨mulB hx.num hy.den (by decide), mulB hy.num hx.den (by decide), ?_⟩
    show Q (.bl (decide (x.num * y.den < y.num * x.den))) t
    rw [lt_frac]
    exact q
def C_place_of : Con := Con.of (fun p : Pt × Int × Int × Int => [.int p.2.1, .int p.2.2.1, .int p.2.2.2])
  (fun p => 0 < p.2.2.2 ∧ (p.2.1 : Rat) = p.1.x * (p.2.2.2 : Rat) ∧ (p.2.2.1 : Rat) = p.1.y * (p.2.2.2 : Rat) ∧ Bd 13500 p.2.1 ∧ Bd 13500 p.2.2.1 ∧ Bd 13500 p.2.2.2) (fun p => dP p.1)
abbrev s_place_of : Stmt := topS 10
abbrev N_place_of : List Str := ["x", "y", "bottom", "common_part"]
theorem sc_place_of : FnScope ["x", "y", "bottom", "common_part"] ["x", "y", "bottom"] (defScope s_place_of) := ⟨rfl, rfl, rfl, by decide +kernel, rfl, by decide +kernel, by decide +kernel⟩
theorem ok_place_of (N : Dn K mg "place_of" s_place_of ["x", "y", "bottom"]) (c_divisor : Cal P w K mg base 1 "divisor" (LSp K C_divisor) []) : Cal P w K mg base 2 "place_of" (LSp K C_place_of) [] := by
  refine N.ok sc_place_of ?_ (fun f cdv A outer s H E hr => (pss_cons (ps_set (i := 3) sc_place_of.nd rfl (.inl rfl) (pe_c c_divisor hr (by decide) (by rfl) (pa_cons (pe_c c_divisor hr (by decide) (by rfl) (pa_cons (pv 0) (pa_cons (pv 2) pa_nil))) (pa_cons (pv 1) pa_nil))))
      (pss_one (ps_ret (pe_tup (pa_cons (pe_op op_fdivB (pv 0) (pv 3)) (pa_cons (pe_op op_fdivB (pv 1) (pv 3)) (pa_cons (pe_op op_fdivB (pv 2) (pv 3)) pa_nil))))))))
    (sns_seq (sns_asg (sn_call (C := C_divisor) (sna_cons (sn_call (C := C_divisor) (sna_cons (sn_var (i := 0)) (sna_cons (sn_var (i := 2)) sna_nil))) (sna_cons (sn_var (i := 1)) sna_nil))) (sng_name (i := 3)))
      (sns_ret (sn_tup (sna_cons (sn_op snr_IC (sn_var (i := 0)) (sn_var (i := 3))) (sna_cons (sn_op snr_IC (sn_var (i := 1)) (sn_var (i := 3))) (sna_cons (sn_op snr_IC (sn_var (i := 2)) (sn_var (i := 3))) sna_nil)))))) ?_
  · exact Con.len fun _ => rfl
  · rintro ds t Q ⟨⟨p, X, Y, b⟩, rfl, ⟨hb, ex, ey, h1, h2, h3⟩, q⟩
    have hb : 0 < b := hb
    have g0 : 0 < Int.gcd X b := gcd_pos (by omega)
    have hg : (Int.gcd (Int.gcd X b) Y : Int) ≠ 0 := by
      have : 0 < Int.gcd (Int.gcd X b) Y := Int.gcd_pos_of_ne_zero_left Y (by omega)
      omega
    refine ⟨(X, b), rfl, trivial, ((Int.gcd X b : Int), Y), rfl, trivial, ⟨hg, .inr ⟨_, h1, Nat.le_refl _⟩⟩, ⟨hg, .inr ⟨_, h2, Nat.le_refl _⟩⟩, ⟨hg, .inr ⟨_, h3, Nat.le_refl _⟩⟩, ?_⟩
    obtain ⟨e1, e2, e3⟩ := Pt.of_tri (tri_red hb ex ey)
    show Q (.tup [.int (X.fdiv (Int.gcd (Int.gcd X b) Y)), .int (Y.fdiv (Int.gcd (Int.gcd X b) Y)), .int (b.fdiv (Int.gcd (Int.gcd X b) Y))]) t
    rw [e1, e2, e3]
    exact q
def C_across : Con := Con.of (fun p : Pt => [dP p]) (fun p => PB 13500 p) (fun p => dR p.x)
def C_up : Con := Con.of (fun p : Pt => [dP p]) (fun p => PB 13500 p) (fun p => dR p.y)
theorem Z_ne (p : Pt) : p.Z ≠ 0 := by have := p.Zpos; omega
theorem x_of (p : Pt) : (p.X : Rat) / (p.Z : Rat) = p.x := by
  have := p.ex
  have := p.Zne
  grind
theorem y_of (p : Pt) : (p.Y : Rat) / (p.Z : Rat) = p.y := by
  have := p.ey
  have := p.Zne
  grind
abbrev s_across : Stmt := topS 11
abbrev N_across : List Str := ["one"]
theorem sc_across : FnScope ["one"] ["one"] (defScope s_across) := ⟨rfl, rfl, rfl, by decide +kernel, rfl, by decide +kernel, by decide +kernel⟩
theorem ok_across (N : Dn K mg "across" s_across ["one"]) (c_fraction : Cal P w K mg base 2 "fraction" (LSp K C_fraction) []) : Cal P w K mg base 3 "across" (LSp K C_across) [] := by
  refine N.ok sc_across ?_ (fun f cdv A outer s H E hr => (pss_one (ps_ret (pe_c c_fraction hr (by decide) (by rfl) (pa_cons (pe_ix ix_A (pv 0) pe_int (fun _ _ => rfl)) (pa_cons (pe_ix ix_A (pv 0) pe_int (fun _ _ => rfl)) pa_nil))))))
    (sns_ret (sn_call (C := C_fraction) (sna_cons (sn_op snr_ix (sn_var (i := 0)) sn_int) (sna_cons (sn_op snr_ix (sn_var (i := 0)) sn_int) sna_nil)))) ?_
  · exact Con.len fun _ => rfl
  · rintro ds t Q ⟨p, rfl, h, q⟩
    refine ⟨(p.X, p.Z), rfl, ⟨Z_ne p, h.X, h.Z⟩, ?_⟩
    show Q (dR ((p.X : Rat) / (p.Z : Rat))) t
    rw [x_of]
    exact q
abbrev s_up : Stmt := topS 12
abbrev N_up : List Str := ["one"]
theorem sc_up : FnScope ["one"] ["one"] (defScope s_up) := ⟨rfl, rfl, rfl, by decide +kernel, rfl, by decide +kernel, by decide +kernel⟩
theorem ok_up (N : Dn K mg "up" s_up ["one"]) (c_fraction : Cal P w K mg base 2 "fraction" (LSp K C_fraction) []) : Cal P w K mg base 3 "up" (LSp K C_up) [] := by
  refine N.ok sc_up ?_ (fun f cdv A outer s H E hr => (pss_one (ps_ret (pe_c c_fraction hr (by decide) (by rfl) (pa_cons (pe_ix ix_A (pv 0) pe_int (fun _ _ => rfl)) (pa_cons (pe_ix ix_A (pv 0) pe_int (fun _ _ => rfl)) pa_nil))))))
    (sns_ret (sn_call (C := C_fraction) (sna_cons (sn_op snr_ix (sn_var (i := 0)) sn_int) (sna_cons (sn_op snr_ix (sn_var (i := 0)) sn_int) sna_nil)))) ?_
  · exact Con.len fun _ => rfl
  · rintro ds t Q ⟨p, rfl, h, q⟩
    refine ⟨(p.Y, p.Z), rfl, ⟨Z_ne p, h.Y, h.Z⟩, ?_⟩
    show Q (dR ((p.Y : Rat) / (p.Z : Rat))) t
    rw [y_of]
    exact q
def pp2 (p : Pt × Pt) : List D := [dP p.1, dP p.2]
def PP (n : Nat) (p : Pt × Pt) : Prop := PB n p.1 ∧ PB n p.2
theorem lt_pt {a b : Int} {x y : Rat} {c d : Int} (ha : 0 < c) (hb : 0 < d) (ea : (a : Rat) = x * (c : Rat)) (eb : (b : Rat) = y * (d : Rat)) : a * d < b * c ↔ x < y := by
  rw [← Rat.intCast_lt_intCast, Rat.intCast_mul, Rat.intCast_mul, ea, eb]
  have h1 : 0 < (c : Rat) := Rat.intCast_pos.mpr ha
  have h2 : 0 < (d : Rat) := Rat.intCast_pos.mpr hb
  have h3 := Rat.mul_pos h1 h2
  rw [show x * (c : Rat) * (d : Rat) = x * ((c : Rat) * (d : Rat)) by grind, show y * (d : Rat) * (c : Rat) = y * ((c : Rat) * (d : Rat)) by grind]
  exact Rat.mul_lt_mul_right h3
theorem eq_pt {a b : Int} {x y : Rat} {c d : Int} (ha : 0 < c) (hb : 0 < d) (ea : (a : Rat) = x * (c : Rat)) (eb : (b : Rat) = y * (d : Rat)) : a * d = b * c ↔ x = y := by
  rw [← Rat.intCast_inj, Rat.intCast_mul, Rat.intCast_mul, ea, eb]
  have h1 : (c : Rat) ≠ 0 := cast_ne (by omega)
  have h2 : (d : Rat) ≠ 0 := cast_ne (by omega)
  constructor
  · intro h; grind
  · intro h; grind
def C_is_lesser : Con := Con.of pp2 (PP 100000) (fun p => .bl (ltP p.1 p.2))
abbrev s_is_lesser : Stmt := topS 13
abbrev N_is_lesser : List Str := ["one", "other", "first"]
theorem sc_is_lesser : FnScope ["one", "other", "first"] ["one", "other"] (defScope s_is_lesser) := ⟨rfl, rfl, rfl, by decide +kernel, rfl, by decide +kernel, by decide +kernel⟩
theorem ok_is_lesser (N : Dn K mg "is_lesser" s_is_lesser ["one", "other"]) : Cal P w K mg base 1 "is_lesser" (LSp K C_is_lesser) [] := by
  refine N.ok sc_is_lesser ?_ (fun f cdv A outer s H E hr => (pss_cons (ps_set (i := 2) sc_is_lesser.nd rfl (.inl rfl) (pe_op op_sub (pe_op op_mulB (pe_ix ix_A (pv 0) pe_int (fun _ _ => rfl)) (pe_ix ix_A (pv 1) pe_int (fun _ _ => rfl))) (pe_op op_mulB (pe_ix ix_A (pv 1) pe_int (fun _ _ => rfl)) (pe_ix ix_A (pv 0) pe_int (fun _ _ => rfl)))))
      (pss_cons (ps_if (pt_cmpR (op_neA hr.units) (pv 2) pe_int (nomark _)) (pss_one (ps_ret (pe_cmpR op_lt (pv 2) pe_int (nomark _)))) pss_nil)
      (pss_one (ps_ret (pe_cmpR op_lt (pe_op op_mulB (pe_ix ix_A (pv 0) pe_int (fun _ _ => rfl)) (pe_ix ix_A (pv 1) pe_int (fun _ _ => rfl))) (pe_op op_mulB (pe_ix ix_A (pv 1) pe_int (fun _ _ => rfl)) (pe_ix ix_A (pv 0) pe_int (fun _ _ => rfl))) (nomark _)))))))
    (sns_seq (sns_asg (sn_op snr_I (sn_op snr_IC (sn_op snr_ix (sn_var (i := 0)) sn_int) (sn_op snr_ix (sn_var (i := 1)) sn_int)) (sn_op snr_IC (sn_op snr_ix (sn_var (i := 1)) sn_int) (sn_op snr_ix (sn_var (i := 0)) sn_int))) (sng_name (i := 2)))
      (sns_seq (sns_if (snt_test (sn_op snr_ne (sn_var (i := 2)) sn_int)) (sns_ret (sn_op snr_B (sn_var (i := 2)) sn_int)) sns_nil)
      (sns_ret (sn_op snr_B (sn_op snr_IC (sn_op snr_ix (sn_var (i := 0)) sn_int) (sn_op snr_ix (sn_var (i := 1)) sn_int)) (sn_op snr_IC (sn_op snr_ix (sn_var (i := 1)) sn_int) (sn_op snr_ix (sn_var (i := 0)) sn_int)))))) ?_
  · exact Con.len fun _ => rfl
  · rintro ds t Q ⟨⟨p, r⟩, rfl, ⟨hp, hr⟩, q⟩
    refine ⟨mulB hp.X hr.Z (by decide), mulB hr.X hp.Z (by decide), ?_⟩
    have kx := lt_pt p.Zpos r.Zpos p.ex r.ex
    have ex := eq_pt p.Zpos r.Zpos p.ex r.ex
    have ky := lt_pt p.Zpos r.Zpos p.ey r.ey
    show if (!decide (p.X * r.Z - r.X * p.Z = 0)) = true then Q (.bl (decide (p.X * r.Z - r.X * p.Z < 0))) t else _
    have q : Q (.bl (ltP p r)) t := q
    refine ite2 (fun h => ?_) (fun h => ?_)
    · have h1 : p.X * r.Z - r.X * p.Z ≠ 0 := by simpa using h
      have h2 : ¬ p.x = r.x := fun z => h1 (by have := ex.mpr z; omega)
      have e : decide (p.X * r.Z - r.X * p.Z < 0) = ltP p r := by
        unfold ltP
        rw [decide_eq_false h2, Bool.false_and, Bool.or_false, decide_eq_decide, ← kx]
        omega
      rw [e]
      exact q
    · have h1 : p.X * r.Z - r.X * p.Z = 0 := by simpa using h
      have h2 : p.x = r.x := ex.mp (by omega)
      have h3 : ¬ p.x < r.x := fun z => by have := kx.mpr z; omega
      refine ⟨mulB hp.Y hr.Z (by decide), mulB hr.Y hp.Z (by decide), ?_⟩
      show Q (.bl (decide (p.Y * r.Z < r.Y * p.Z))) t
      have e : decide (p.Y * r.Z < r.Y * p.Z) = ltP p r := by
        unfold ltP
        rw [decide_eq_true h2, decide_eq_false h3, Bool.true_and, Bool.false_or, decide_eq_decide, ky]
      rw [e]
      exact q
/-- the way from a place to another one, by whole numbers -/
def wayI (p q : Pt) : Int × Int := (q.X * p.Z - p.X * q.Z, q.Y * p.Z - p.Y * q.Z)
def dI (p : Int × Int) : D := .tup [.int p.1, .int p.2]
def C_way : Con := Con.of pp2 (PP 100000) (fun p => dI (wayI p.1 p.2))
abbrev s_way : Stmt := topS 14
abbrev N_way : List Str := ["one", "other"]
theorem sc_way : FnScope ["one", "other"] ["one", "other"] (defScope s_way) := ⟨rfl, rfl, rfl, by decide +kernel, rfl, by decide +kernel, by decide +kernel⟩
theorem ok_way (N : Dn K mg "way" s_way ["one", "other"]) : Cal P w K mg base 1 "way" (LSp K C_way) [] := by
  refine N.ok sc_way ?_ (fun f cdv A outer s H E hr => (pss_one (ps_ret (pe_tup (pa_cons (pe_op op_sub (pe_op op_mulB (pe_ix ix_A (pv 1) pe_int (fun _ _ => rfl)) (pe_ix ix_A (pv 0) pe_int (fun _ _ => rfl))) (pe_op op_mulB (pe_ix ix_A (pv 0) pe_int (fun _ _ => rfl)) (pe_ix ix_A (pv 1) pe_int (fun _ _ => rfl)))) (pa_cons (pe_op op_sub (pe_op op_mulB (pe_ix ix_A (pv 1) pe_int (fun _ _ => rfl)) (pe_ix ix_A (pv 0) pe_int (fun _ _ => rfl))) (pe_op op_mulB (pe_ix ix_A (pv 0) pe_int (fun _ _ => rfl)) (pe_ix ix_A (pv 1) pe_int (fun _ _ => rfl)))) pa_nil))))))
    (sns_ret (sn_tup (sna_cons (sn_op snr_I (sn_op snr_IC (sn_op snr_ix (sn_var (i := 1)) sn_int) (sn_op snr_ix (sn_var (i := 0)) sn_int)) (sn_op snr_IC (sn_op snr_ix (sn_var (i := 0)) sn_int) (sn_op snr_ix (sn_var (i := 1)) sn_int))) (sna_cons (sn_op snr_I (sn_op snr_IC (sn_op snr_ix (sn_var (i := 1)) sn_int) (sn_op snr_ix (sn_var (i := 0)) sn_int)) (sn_op snr_IC (sn_op snr_ix (sn_var (i := 0)) sn_int) (sn_op snr_ix (sn_var (i := 1)) sn_int))) sna_nil)))) ?_
  · exact Con.len fun _ => rfl
  · rintro ds t Q ⟨⟨p, r⟩, rfl, ⟨hp, hr⟩, q⟩
    exact ⟨mulB hr.X hp.Z (by decide), mulB hp.X hr.Z (by decide), mulB hr.Y hp.Z (by decide), mulB hp.Y hr.Z (by decide), q⟩
theorem wayB {n m : Nat} {p q : Pt} (h : PB n p) (k : PB m q) : Bd (n + m + 1) (wayI p q).1 ∧ Bd (n + m + 1) (wayI p q).2 :=
  ⟨((k.X.mul h.Z).mono (by omega)).subS (h.X.mul k.Z), ((k.Y.mul h.Z).mono (by omega)).subS (h.Y.mul k.Z)⟩
def C_cross : Con := Con.of (fun p : (Int × Int) × (Int × Int) => [dI p.1, dI p.2]) (fun p => Bd 300000 p.1.1 ∧ Bd 300000 p.1.2 ∧ Bd 300000 p.2.1 ∧ Bd 300000 p.2.2) (fun p => .int (p.1.1 * p.2.2 - p.1.2 * p.2.1))
abbrev s_cross : Stmt := topS 15
abbrev N_cross : List Str := ["one", "other"]
theorem sc_cross : FnScope ["one", "other"] ["one", "other"] (defScope s_cross) := ⟨rfl, rfl, rfl, by decide +kernel, rfl, by decide +kernel, by decide +kernel⟩
theorem ok_cross (N : Dn K mg "cross" s_cross ["one", "other"]) : Cal P w K mg base 1 "cross" (LSp K C_cross) [] := by
  refine N.ok sc_cross ?_ (fun f cdv A outer s H E hr => (pss_one (ps_ret (pe_op op_sub (pe_op op_mulB (pe_ix ix_A (pv 0) pe_int (fun _ _ => rfl)) (pe_ix ix_A (pv 1) pe_int (fun _ _ => rfl))) (pe_op op_mulB (pe_ix ix_A (pv 0) pe_int (fun _ _ => rfl)) (pe_ix ix_A (pv 1) pe_int (fun _ _ => rfl)))))))
    (sns_ret (sn_op snr_I (sn_op snr_IC (sn_op snr_ix (sn_var (i := 0)) sn_int) (sn_op snr_ix (sn_var (i := 1)) sn_int)) (sn_op snr_IC (sn_op snr_ix (sn_var (i := 0)) sn_int) (sn_op snr_ix (sn_var (i := 1)) sn_int)))) ?_
  · exact Con.len fun _ => rfl
  · rintro ds t Q ⟨⟨⟨a, b⟩, c, d⟩, rfl, ⟨h1, h2, h3, h4⟩, q⟩
    exact ⟨mulB h1 h4 (by decide), mulB h2 h3 (by decide), q⟩
theorem way_x (p q : Pt) : ((wayI p q).1 : Rat) = (q.x - p.x) * ((p.Z : Rat) * (q.Z : Rat)) := by
  unfold wayI
  rw [Rat.intCast_sub, Rat.intCast_mul, Rat.intCast_mul, p.ex, q.ex]
  grind
theorem way_y (p q : Pt) : ((wayI p q).2 : Rat) = (q.y - p.y) * ((p.Z : Rat) * (q.Z : Rat)) := by
  unfold wayI
  rw [Rat.intCast_sub, Rat.intCast_mul, Rat.intCast_mul, p.ey, q.ey]
  grind
theorem Zpos' (p : Pt) : 0 < (p.Z : Rat) := Rat.intCast_pos.mpr p.Zpos
theorem crossI (a b c d : Pt) : (((wayI a b).1 * (wayI c d).2 - (wayI a b).2 * (wayI c d).1 : Int) : Rat) = ((b.x - a.x) * (d.y - c.y) - (b.y - a.y) * (d.x - c.x)) * (((a.Z : Rat) * (b.Z : Rat)) * ((c.Z : Rat) * (d.Z : Rat))) := by
  rw [Rat.intCast_sub, Rat.intCast_mul, Rat.intCast_mul, way_x, way_x, way_y, way_y]
  grind
theorem pos4 (a b c d : Pt) : 0 < (((a.Z : Rat) * (b.Z : Rat)) * ((c.Z : Rat) * (d.Z : Rat))) := Rat.mul_pos (Rat.mul_pos (Zpos' _) (Zpos' _)) (Rat.mul_pos (Zpos' _) (Zpos' _))
theorem sgn_int {n : Int} {x k : Rat} (e : (n : Rat) = x * k) (hk : 0 < k) : (if decide (0 < n) = true then (1 : Int) else 0) - (if decide (n < 0) = true then 1 else 0) = sgn x := by
  have h1 : 0 < n ↔ 0 < x := by
    rw [← Rat.intCast_pos, e]
    exact Rat.mul_pos_iff_of_pos_right hk
  have h2 : n < 0 ↔ x < 0 := by
    rw [← Rat.intCast_neg_iff, e]
    exact Rat.mul_neg_iff_of_pos_right hk
  unfold sgn
  by_cases h3 : 0 < x
  · have h4 : ¬ x < 0 := fun z => Rat.lt_irrefl (Std.lt_trans z h3)
    have h5 := h1.mpr h3
    have h6 : ¬ n < 0 := fun z => h4 (h2.mp z)
    simp [h3, h5, h6]
  · have h5 : ¬ 0 < n := fun z => h3 (h1.mp z)
    by_cases h4 : x < 0
    · have h6 := h2.mpr h4
      simp [h3, h4, h5, h6]
    · have h6 : ¬ n < 0 := fun z => h4 (h2.mp z)
      simp [h3, h4, h5, h6]
def C_turn : Con := Con.of (fun p : Pt × Pt × Pt => [dP p.1, dP p.2.1, dP p.2.2]) (fun p => PB 100000 p.1 ∧ PB 100000 p.2.1 ∧ PB 100000 p.2.2) (fun p => .int (sgn (crossP p.1 p.2.1 p.2.2)))
abbrev s_turn : Stmt := topS 16
abbrev N_turn : List Str := ["a", "b", "c", "found"]
theorem sc_turn : FnScope ["a", "b", "c", "found"] ["a", "b", "c"] (defScope s_turn) := ⟨rfl, rfl, rfl, by decide +kernel, rfl, by decide +kernel, by decide +kernel⟩
theorem ok_turn (N : Dn K mg "turn" s_turn ["a", "b", "c"]) (B : Bt mg) (c_cross : Cal P w K mg base 1 "cross" (LSp K C_cross) []) (c_way : Cal P w K mg base 1 "way" (LSp K C_way) []) : Cal P w K mg base 2 "turn" (LSp K C_turn) [] := by
  refine N.ok sc_turn ?_ (fun f cdv A outer s H E hr => (pss_cons (ps_set (i := 3) sc_turn.nd rfl (.inl rfl) (pe_c c_cross hr (by decide) (by rfl) (pa_cons (pe_c c_way hr (by decide) (by rfl) (pa_cons (pv 0) (pa_cons (pv 1) pa_nil))) (pa_cons (pe_c c_way hr (by decide) (by rfl) (pa_cons (pv 0) (pa_cons (pv 2) pa_nil))) pa_nil))))
      (pss_one (ps_ret (pe_op op_sub (pe_callTy call_int1 (by rfl) B.int (by decide +kernel) (pa_cons (pe_cmpR op_gt (pv 3) pe_int (nomark _)) pa_nil)) (pe_callTy call_int1 (by rfl) B.int (by decide +kernel) (pa_cons (pe_cmpR op_lt (pv 3) pe_int (nomark _)) pa_nil)))))))
    (sns_seq (sns_asg (sn_call (C := C_cross) (sna_cons (sn_call (C := C_way) (sna_cons (sn_var (i := 0)) (sna_cons (sn_var (i := 1)) sna_nil))) (sna_cons (sn_call (C := C_way) (sna_cons (sn_var (i := 0)) (sna_cons (sn_var (i := 2)) sna_nil))) sna_nil))) (sng_name (i := 3)))
      (sns_ret (sn_op snr_I (sn_cb snc_int (sna_cons (sn_op snr_B (sn_var (i := 3)) sn_int) sna_nil)) (sn_cb snc_int (sna_cons (sn_op snr_B (sn_var (i := 3)) sn_int) sna_nil))))) ?_
  · exact Con.len fun _ => rfl
  · rintro ds t Q ⟨⟨a, b, c⟩, rfl, ⟨h1, h2, h3⟩, q⟩
    have w1 := wayB h1 h2
    have w2 := wayB h1 h3
    refine ⟨(a, b), rfl, ⟨h1, h2⟩, (a, c), rfl, ⟨h1, h3⟩, (wayI a b, wayI a c), rfl, ⟨w1.1.mono (by decide), w1.2.mono (by decide), w2.1.mono (by decide), w2.2.mono (by decide)⟩, ?_⟩
    show Q (.int ((if decide (0 < _) = true then (1 : Int) else 0) - (if decide (_ < 0) = true then 1 else 0))) t
    rw [sgn_int (crossI a b a c) (pos4 a b a c)]
    exact q
def C_squared : Con := Con.of pp2 (PP 3300) (fun p => dR (sqd p.1 p.2))
abbrev s_squared : Stmt := topS 17
abbrev N_squared : List Str := ["one", "other", "x", "y"]
theorem sc_squared : FnScope ["one", "other", "x", "y"] ["one", "other"] (defScope s_squared) := ⟨rfl, rfl, rfl, by decide +kernel, rfl, by decide +kernel, by decide +kernel⟩
theorem ok_squared (N : Dn K mg "squared" s_squared ["one", "other"]) (c_way : Cal P w K mg base 1 "way" (LSp K C_way) []) (c_fraction : Cal P w K mg base 2 "fraction" (LSp K C_fraction) []) : Cal P w K mg base 3 "squared" (LSp K C_squared) [] := by
  refine N.ok sc_squared ?_ (fun f cdv A outer s H E hr => (pss_cons (ps_asg (pe_c c_way hr (by decide) (by rfl) (pa_cons (pv 0) (pa_cons (pv 1) pa_nil))) (pg_tup rfl (pgs_cons (pg_name (i := 2) sc_squared.nd rfl (.inl rfl)) (pgs_cons (pg_name (i := 3) sc_squared.nd rfl (.inl rfl)) pgs_nil))))
      (pss_one (ps_ret (pe_c c_fraction hr (by decide) (by rfl) (pa_cons (pe_op op_addA (pe_op op_mulB (pv 2) (pv 2)) (pe_op op_mulB (pv 3) (pv 3))) (pa_cons (pe_op op_mulB (pe_op op_mulB (pe_op op_mulB (pe_ix ix_A (pv 0) pe_int (fun _ _ => rfl)) (pe_ix ix_A (pv 0) pe_int (fun _ _ => rfl))) (pe_ix ix_A (pv 1) pe_int (fun _ _ => rfl))) (pe_ix ix_A (pv 1) pe_int (fun _ _ => rfl))) pa_nil)))))))
    (sns_seq (sns_asg (sn_call (C := C_way) (sna_cons (sn_var (i := 0)) (sna_cons (sn_var (i := 1)) sna_nil))) (sng_tup (n := 2) (sngs_cons (sng_name (i := 2)) (sngs_cons (sng_name (i := 3)) sngs_nil))))
      (sns_ret (sn_call (C := C_fraction) (sna_cons (sn_op snr_add (sn_op snr_IC (sn_var (i := 2)) (sn_var (i := 2))) (sn_op snr_IC (sn_var (i := 3)) (sn_var (i := 3)))) (sna_cons (sn_op snr_IC (sn_op snr_IC (sn_op snr_IC (sn_op snr_ix (sn_var (i := 0)) sn_int) (sn_op snr_ix (sn_var (i := 0)) sn_int)) (sn_op snr_ix (sn_var (i := 1)) sn_int)) (sn_op snr_ix (sn_var (i := 1)) sn_int)) sna_nil))))) ?_
  · exact Con.len fun _ => rfl
  · rintro ds t Q ⟨⟨p, r⟩, rfl, ⟨hp, hr⟩, q⟩
    have w1 := wayB hp hr
    have z2 : p.Z * p.Z * r.Z * r.Z ≠ 0 := by
      have := Int.mul_pos (Int.mul_pos (Int.mul_pos p.Zpos p.Zpos) r.Zpos) r.Zpos
      omega
    refine ⟨(p, r), rfl, ⟨hp.mono (by decide), hr.mono (by decide)⟩, mulB w1.1 w1.1 (by decide), mulB w1.2 w1.2 (by decide), mulB hp.Z hp.Z (by decide), mulB (hp.Z.mul hp.Z) hr.Z (by decide), mulB ((hp.Z.mul hp.Z).mul hr.Z) hr.Z (by decide), (_, _), rfl, ⟨z2, ?_, ?_⟩, ?_⟩
    · exact ((w1.1.mul w1.1).addS (w1.2.mul w1.2)).mono (by decide)
    · exact (((hp.Z.mul hp.Z).mul hr.Z).mul hr.Z).mono (by decide)
    · show Q (dR ((((wayI p r).1 * (wayI p r).1 + (wayI p r).2 * (wayI p r).2 : Int) : Rat) / ((p.Z * p.Z * r.Z * r.Z : Int) : Rat))) t
      have e : (((wayI p r).1 * (wayI p r).1 + (wayI p r).2 * (wayI p r).2 : Int) : Rat) / ((p.Z * p.Z * r.Z * r.Z : Int) : Rat) = sqd p r := by
        have h1 := Zpos' p
        have h2 := Zpos' r
        rw [Rat.intCast_add, Rat.intCast_mul, Rat.intCast_mul, way_x, way_y, Rat.intCast_mul, Rat.intCast_mul, Rat.intCast_mul]
        unfold sqd
        have h3 : (p.Z : Rat) ≠ 0 := p.Zne
        have h4 : (r.Z : Rat) ≠ 0 := r.Zne
        grind
      rw [e]
      exact q
def C_shifted : Con := Con.of (fun p : Pt × (Int × Int) × (Int × Int) => [dP p.1, dI p.2.1, dI p.2.2])
  (fun p => 0 < p.2.1.2 ∧ 0 < p.2.2.2 ∧ PB 4000 p.1 ∧ Bd 4000 p.2.1.1 ∧ Bd 4000 p.2.1.2 ∧ Bd 4000 p.2.2.1 ∧ Bd 4000 p.2.2.2) (fun p => dP (addP p.1 ((p.2.1.1 : Rat) / (p.2.1.2 : Rat)) ((p.2.2.1 : Rat) / (p.2.2.2 : Rat))))
abbrev s_shifted : Stmt := topS 18
abbrev N_shifted : List Str := ["one", "x", "y", "top_x", "top_y"]
theorem sc_shifted : FnScope ["one", "x", "y", "top_x", "top_y"] ["one", "x", "y"] (defScope s_shifted) := ⟨rfl, rfl, rfl, by decide +kernel, rfl, by decide +kernel, by decide +kernel⟩
theorem ok_shifted (N : Dn K mg "shifted" s_shifted ["one", "x", "y"]) (c_place_of : Cal P w K mg base 2 "place_of" (LSp K C_place_of) []) : Cal P w K mg base 3 "shifted" (LSp K C_shifted) [] := by
  refine N.ok sc_shifted ?_ (fun f cdv A outer s H E hr => (pss_cons (ps_set (i := 3) sc_shifted.nd rfl (.inl rfl) (pe_op op_addA (pe_op op_mulB (pe_op op_mulB (pe_ix ix_A (pv 0) pe_int (fun _ _ => rfl)) (pe_ix ix_A (pv 1) pe_int (fun _ _ => rfl))) (pe_ix ix_A (pv 2) pe_int (fun _ _ => rfl))) (pe_op op_mulB (pe_op op_mulB (pe_ix ix_A (pv 1) pe_int (fun _ _ => rfl)) (pe_ix ix_A (pv 2) pe_int (fun _ _ => rfl))) (pe_ix ix_A (pv 0) pe_int (fun _ _ => rfl)))))
      (pss_cons (ps_set (i := 4) sc_shifted.nd rfl (.inl rfl) (pe_op op_addA (pe_op op_mulB (pe_op op_mulB (pe_ix ix_A (pv 0) pe_int (fun _ _ => rfl)) (pe_ix ix_A (pv 1) pe_int (fun _ _ => rfl))) (pe_ix ix_A (pv 2) pe_int (fun _ _ => rfl))) (pe_op op_mulB (pe_op op_mulB (pe_ix ix_A (pv 2) pe_int (fun _ _ => rfl)) (pe_ix ix_A (pv 1) pe_int (fun _ _ => rfl))) (pe_ix ix_A (pv 0) pe_int (fun _ _ => rfl)))))
      (pss_one (ps_ret (pe_c c_place_of hr (by decide) (by rfl) (pa_cons (pv 3) (pa_cons (pv 4) (pa_cons (pe_op op_mulB (pe_op op_mulB (pe_ix ix_A (pv 0) pe_int (fun _ _ => rfl)) (pe_ix ix_A (pv 1) pe_int (fun _ _ => rfl))) (pe_ix ix_A (pv 2) pe_int (fun _ _ => rfl))) pa_nil)))))))))
    (sns_seq (sns_asg (sn_op snr_add (sn_op snr_IC (sn_op snr_IC (sn_op snr_ix (sn_var (i := 0)) sn_int) (sn_op snr_ix (sn_var (i := 1)) sn_int)) (sn_op snr_ix (sn_var (i := 2)) sn_int)) (sn_op snr_IC (sn_op snr_IC (sn_op snr_ix (sn_var (i := 1)) sn_int) (sn_op snr_ix (sn_var (i := 2)) sn_int)) (sn_op snr_ix (sn_var (i := 0)) sn_int))) (sng_name (i := 3)))
      (sns_seq (sns_asg (sn_op snr_add (sn_op snr_IC (sn_op snr_IC (sn_op snr_ix (sn_var (i := 0)) sn_int) (sn_op snr_ix (sn_var (i := 1)) sn_int)) (sn_op snr_ix (sn_var (i := 2)) sn_int)) (sn_op snr_IC (sn_op snr_IC (sn_op snr_ix (sn_var (i := 2)) sn_int) (sn_op snr_ix (sn_var (i := 1)) sn_int)) (sn_op snr_ix (sn_var (i := 0)) sn_int))) (sng_name (i := 4)))
      (sns_ret (sn_call (C := C_place_of) (sna_cons (sn_var (i := 3)) (sna_cons (sn_var (i := 4)) (sna_cons (sn_op snr_IC (sn_op snr_IC (sn_op snr_ix (sn_var (i := 0)) sn_int) (sn_op snr_ix (sn_var (i := 1)) sn_int)) (sn_op snr_ix (sn_var (i := 2)) sn_int)) sna_nil))))))) ?_
  · exact Con.len fun _ => rfl
  · rintro ds t Q ⟨⟨p, ⟨a, b⟩, c, d⟩, rfl, ⟨hb, hd, hp, h1, h2, h3, h4⟩, q⟩
    have hb : 0 < b := hb
    have hd : 0 < d := hd
    have hb' : (b : Rat) ≠ 0 := cast_ne (by omega)
    have hd' : (d : Rat) ≠ 0 := cast_ne (by omega)
    have A := (((hp.X.mul h2).mul h4).addS ((h1.mul h4).mul hp.Z)).mono (show 4000 + 4000 + 4000 + 1 ≤ 13500 by decide)
    have B := (((hp.Y.mul h2).mul h4).addS ((h3.mul h2).mul hp.Z)).mono (show 4000 + 4000 + 4000 + 1 ≤ 13500 by decide)
    have C := ((hp.Z.mul h2).mul h4).mono (show 4000 + 4000 + 4000 ≤ 13500 by decide)
    refine ⟨mulB hp.X h2 (by decide), mulB (hp.X.mul h2) h4 (by decide), mulB h1 h4 (by decide), mulB (h1.mul h4) hp.Z (by decide), mulB hp.Y h2 (by decide), mulB (hp.Y.mul h2) h4 (by decide), mulB h3 h2 (by decide), mulB (h3.mul h2) hp.Z (by decide),
      mulB hp.Z h2 (by decide), mulB (hp.Z.mul h2) h4 (by decide), (addP p ((a : Rat) / (b : Rat)) ((c : Rat) / (d : Rat)), _, _, _), rfl, ⟨Int.mul_pos (Int.mul_pos p.Zpos hb) hd, ?_, ?_, A, B, C⟩, q⟩
    · show ((p.X * b * d + a * d * p.Z : Int) : Rat) = (p.x + (a : Rat) / (b : Rat)) * ((p.Z * b * d : Int) : Rat)
      rw [Rat.intCast_add, Rat.intCast_mul, Rat.intCast_mul, Rat.intCast_mul, Rat.intCast_mul, Rat.intCast_mul, Rat.intCast_mul, p.ex]
      grind
    · show ((p.Y * b * d + c * b * p.Z : Int) : Rat) = (p.y + (c : Rat) / (d : Rat)) * ((p.Z * b * d : Int) : Rat)
      rw [Rat.intCast_add, Rat.intCast_mul, Rat.intCast_mul, Rat.intCast_mul, Rat.intCast_mul, Rat.intCast_mul, Rat.intCast_mul, p.ey]
      grind
end
end DL


/-! ## W2 -/
set_option maxRecDepth 100000
/-! shapes of the program -/
namespace DL
open PySem PySem.Spec PyProof.Rows L2
open C8 (Cal pe_c pe_gc)
open W15
theorem lcW_all {α : Type} {wg : WG} {we : WE} {δ : List Sl} {f g : α → D} {Q : KD} : ∀ {xs : List α} {acc : List D} {t : Nat}, (∀ x ∈ xs, ∀ t (P : KD), P (g x) t → wg (f x) δ fun δ' => we δ' t P) → Q (.lst (acc ++ xs.map g)) t → lcW wg wYes we δ (xs.map f) acc t Q
  | [], acc, t, _, q => by
    rw [List.map_nil, List.append_nil] at q
    exact q
  | x :: xs, acc, t, h, q => by
    have := h x List.mem_cons_self t (fun d t2 => lcW wg wYes we δ (xs.map f) (acc ++ [d]) t2 Q) (lcW_all (fun y hy => h y (List.mem_cons_of_mem _ hy)) (by rw [List.append_assoc]; exact q))
    exact this
theorem lcW_filter {α : Type} {wg : WG} {wt : WT} {we : WE} {δ : List Sl} {f g : α → D} {k : α → Bool} {Q : KD} : ∀ {xs : List α} {acc : List D} {t : Nat},
    (∀ x ∈ xs, ∀ t (P1 : KD) (P2 : Nat → Prop), (k x = true → P1 (g x) t) → (k x = false → P2 t) → wg (f x) δ fun δ' => wt δ' t fun b t1 => if b = true then we δ' t1 P1 else P2 t1) →
    Q (.lst (acc ++ (xs.filter k).map g)) t → lcW wg wt we δ (xs.map f) acc t Q
  | [], acc, t, _, q => by
    rw [List.filter_nil, List.map_nil, List.append_nil] at q
    exact q
  | x :: xs, acc, t, h, q => by
    refine h x List.mem_cons_self t (fun d t2 => lcW wg wt we δ (xs.map f) (acc ++ [d]) t2 Q) (fun t1 => lcW wg wt we δ (xs.map f) acc t1 Q) (fun hk => ?_) (fun hk => ?_)
    · refine lcW_filter (fun y hy => h y (List.mem_cons_of_mem _ hy)) ?_
      rw [List.filter_cons, if_pos hk, List.map_cons] at q
      rw [List.append_assoc]
      exact q
    · refine lcW_filter (fun y hy => h y (List.mem_cons_of_mem _ hy)) ?_
      rw [List.filter_cons, if_neg (by rw [hk]; decide)] at q
      exact q
section
variable {P : Program} {w : World} {K : PySem.W.Frag} {mg : Str → Option Value} {base : Heap}
/-- a list or a tuple of places -/
def dL : Bool → List Pt → D
  | true, S => .tup (S.map dP)
  | false, S => .lst (S.map dP)
def PBs (n : Nat) (S : List Pt) : Prop := ∀ p ∈ S, PB n p
theorem sqD_dL {b : Bool} {S : List Pt} {Q : List D → Prop} (h : Q (S.map dP)) : sqD (dL b S) Q := by
  cases b <;> exact h
def C_sorted_places : Con := Con.of (fun p : Bool × List Pt => [dL p.1 p.2]) (fun p => p.2.length ≤ 400 ∧ PBs 100000 p.2) (fun p => .lst ((sortP p.2).map dP))
theorem insP_len (F : List Pt) (p : Pt) : (insP F p).length ≤ F.length + 1 := by
  unfold insP
  split
  · simp only [List.length_append, List.length_take, List.length_drop, List.length_singleton]
    omega
  · omega
theorem insP_mem {F : List Pt} {p q : Pt} (h : q ∈ insP F p) : q ∈ F ∨ q = p := by
  unfold insP at h
  split at h
  · simp only [List.mem_append, List.mem_singleton] at h
    rcases h with (h | h) | h
    · exact .inl (List.mem_of_mem_take h)
    · exact .inr h
    · exact .inl (List.mem_of_mem_drop h)
  · exact .inl h
theorem sortP_mem {S : List Pt} {q : Pt} : ∀ {F : List Pt}, q ∈ S.foldl insP F → q ∈ F ∨ q ∈ S := by
  induction S with
  | nil => intro F h; exact .inl h
  | cons p S ih =>
    intro F h
    rcases ih h with h | h
    · rcases insP_mem h with h | h
      · exact .inl h
      · exact .inr (h ▸ List.mem_cons_self)
    · exact .inr (List.mem_cons_of_mem _ h)
theorem sortP_len {S : List Pt} : ∀ {F : List Pt}, (S.foldl insP F).length ≤ F.length + S.length := by
  induction S with
  | nil => intro F; exact Nat.le_refl _
  | cons p S ih =>
    intro F
    have := ih (F := insP F p)
    have := insP_len F p
    simp only [List.foldl_cons, List.length_cons]
    omega
theorem dP_inj {p q : Pt} : decide ([p.X, p.Y, p.Z] = [q.X, q.Y, q.Z]) = decide (p = q) := by
  rw [decide_eq_decide]
  constructor
  · intro h
    simp only [List.cons.injEq, and_true] at h
    exact Pt.inj h.1 h.2.1 h.2.2
  · intro h
    rw [h]
theorem atD_map (F : List Pt) (k : Nat) : atD (F.map dP) (k : Int) = F[k]?.map dP := by
  show (F.map dP)[k]? = _
  rw [List.getElem?_map]
abbrev s_sorted_places : Stmt := topS 25
abbrev N_sorted_places : List Str := ["some", "found", "one", "at", "other"]
theorem sc_sorted_places : FnScope ["some", "found", "one", "at", "other"] ["some"] (defScope s_sorted_places) := ⟨rfl, rfl, rfl, by decide +kernel, rfl, by decide +kernel, by decide +kernel⟩
theorem ok_sorted_places (N : Dn K mg "sorted_places" s_sorted_places ["some"]) (B : Bt mg) (c_is_lesser : Cal P w K mg base 1 "is_lesser" (LSp K C_is_lesser) []) : Cal P w K mg base 2 "sorted_places" (LSp K C_sorted_places) [] := by
  refine N.ok sc_sorted_places ?_ (fun f cdv A outer s H E hr => (pss_cons (ps_set (i := 1) sc_sorted_places.nd rfl (.inl rfl) (pe_lst pa_nil))
      (pss_cons (ps_for PassesOwn.never rfl (pi_seq (pv 0)) (pg_name (i := 2) sc_sorted_places.nd rfl (.inr rfl)) (pss_cons (ps_set (i := 3) sc_sorted_places.nd rfl (.inl rfl) (pe_callB call_len_seq (by rfl) B.len (by decide +kernel) (pa_cons (pe_lc (own := [("other", 4)]) rfl sc_sorted_places.nd (pi_seq (pv 1)) (blkOk_by (own := [("other", 4)]) (N := N_sorted_places) (sc := defScope s_sorted_places) (by decide +kernel)) (fun _ _ _ _ _ => (pg_name (i := 4) sc_sorted_places.nd rfl (.inl rfl))) (fun _ _ _ _ _ => (pts_one (pt_val (pe_c c_is_lesser hr (by decide) (by rfl) (pa_cons (pv 4) (pa_cons (pv 2) pa_nil)))))) (fun _ _ _ _ _ => (pv 4))) pa_nil)))
      (pss_one (ps_if (PW.pt (pw_or (pt_cmpR (op_eqA hr.units) (pv 3) (pe_callB call_len_seq (by rfl) B.len PySem.boot_len (pa_cons (pv 1) pa_nil)) (nomark _)) (pw_or1 (pt_cmpR (op_neA hr.units) (pe_ix ix_A (pv 1) (pv 3) (fun _ _ => rfl)) (pv 2) (nomark _))))) (pss_one (ps_expr (pe_bm PySem.F.plainAttrs_list PySem.F.slot_list_insert PySem.F.type_list_insert mt_insertR (pv 1) (pa_cons (pv 3) (pa_cons (pv 2) pa_nil))))) pss_nil))))
      (pss_one (ps_ret (pv 1))))))
    (sns_seq (sns_ownLst (i := 1) sna_nil)
      (sns_seq (sns_for (sni_seq (sn_var (i := 0))) (sng_name (i := 2)) (sns_seq (sns_asg (sn_cb snc_len (sna_cons (sn_lc (snic_own (i := 1)) (sng_name (i := 4)) (snt_B (sn_call (C := C_is_lesser) (sna_cons (sn_var (i := 4)) (sna_cons (sn_var (i := 2)) sna_nil)))) (sn_var (i := 4)) (by decide)) sna_nil)) (sng_name (i := 3)))
      (sns_if (snt_or (snt_test (sn_op snr_eq (sn_var (i := 3)) (sn_lenO (i := 1)))) (snt_test (sn_op snr_ne (sn_ixO (i := 1) (sn_var (i := 3))) (sn_var (i := 2))))) (sns_ins (i := 1) (sn_var (i := 3)) (sn_var (i := 2))) sns_nil)))
      (sns_frz (i := 1) (sns_ret (sn_var (i := 1)))))) ?_
  · exact Con.len fun _ => rfl
  · rintro ds t Q ⟨⟨b, S⟩, rfl, ⟨hl, hS⟩, q⟩
    refine sqD_dL ?_
    have hl : S.length ≤ 400 := hl
    have q : Q (.lst ((S.foldl insP []).map dP)) t := q
    refine (?_ : ∀ (S F : List Pt) (s2 s3 : Sl), F.length + S.length ≤ 400 → PBs 100000 F → PBs 100000 S → Q (.lst ((S.foldl insP F).map dP)) t → forW _ _ _ (S.map dP) [Sl.dat (dL b _), Sl.own (F.map dP), s2, s3, Sl.no] t) S [] Sl.no Sl.no (by simpa using hl) (fun _ h => nomatch h) hS q
    intro S
    induction S with
    | nil => intro F s2 s3 _ _ _ hq; exact hq
    | cons p S ih =>
      intro F s2 s3 hn hF hS hq
      have hn : F.length + (S.length + 1) ≤ 400 := hn
      have hp : PB 100000 p := hS p List.mem_cons_self
      refine ⟨by rw [List.length_map]; omega, ?_⟩
      refine lcW_filter (xs := F) (g := dP) (k := fun o => ltP o p) (fun x hx t P1 P2 h1 h2 => ⟨(x, p), rfl, ⟨hF x hx, hp⟩, ?_⟩) ?_
      · show if ltP x p = true then P1 (dP x) t else P2 t
        cases h : ltP x p with
        | true => exact h1 h
        | false => exact h2 h
      · rw [List.nil_append]
        have fl : (F.filter fun o => ltP o p).length ≤ F.length := List.length_filter_le _ _
        have next : ∀ G, G = insP F p → ∀ s3, forW _ _ _ (S.map dP) [Sl.dat (dL b _), Sl.own (G.map dP), Sl.dat (dP p), s3, Sl.no] t := fun G e s3 => by
          subst e
          exact ih (insP F p) (Sl.dat (dP p)) s3 (by have := insP_len F p; omega) (fun q hq => (insP_mem hq).elim (hF q) fun e => e ▸ hp) (fun q hq => hS q (List.mem_cons_of_mem _ hq)) hq
        generalize hm : (F.filter fun o => ltP o p).length = m at fl
        have e1 : ((F.filter fun o => ltP o p).map dP).length = m := by rw [List.length_map]; exact hm
        have ins : m = F.length ∨ F[m]? ≠ some p → forW _ _ _ (S.map dP) [Sl.dat (dL b _), Sl.own ((F.map dP).take (m : Int).toNat ++ [dP p] ++ (F.map dP).drop (m : Int).toNat), Sl.dat (dP p), Sl.dat (.int (m : Int)), Sl.no] t := fun h => by
          have e : (F.map dP).take (m : Int).toNat ++ [dP p] ++ (F.map dP).drop (m : Int).toNat = (insP F p).map dP := by
            unfold insP
            rw [hm, if_pos h, Int.toNat_natCast, List.map_append, List.map_append, List.map_take, List.map_drop]
            rfl
          rw [e]
          exact next _ rfl _
        show if decide ((((F.filter fun o => ltP o p).map dP).length : Int) = ((F.map dP).length : Int)) = true then _ else _
        rw [e1, List.length_map]
        refine ite2 (fun h => ?_) (fun h => ?_)
        · have h' : m = F.length := by have := of_decide_eq_true h; omega
          exact ⟨⟨by rw [List.length_map]; omega, by show (0 : Int) ≤ ((_ : Nat) : Int); omega, by show (m : Int) ≤ 1000; omega⟩, ins (.inl h')⟩
        · have h' : m < F.length := by
            have : ¬ ((m : Int) = (F.length : Int)) := fun z => h (decide_eq_true z)
            omega
          obtain ⟨r, hr⟩ : ∃ r, F[m]? = some r := ⟨F[m], List.getElem?_eq_getElem h'⟩
          refine opD_mk (d := dP r) (by rw [atD_map, hr]; rfl) ?_
          show if (!decide ([r.X, r.Y, r.Z] = [p.X, p.Y, p.Z])) = true then _ else _
          rw [dP_inj]
          refine ite2 (fun h2 => ?_) (fun h2 => ?_)
          · have h2' : F[m]? ≠ some p := by
              rw [hr]
              intro z
              have z := Option.some.inj z
              rw [z] at h2
              simp at h2
            exact ⟨⟨by rw [List.length_map]; omega, by show (0 : Int) ≤ ((_ : Nat) : Int); omega, by show (m : Int) ≤ 1000; omega⟩, ins (.inr h2')⟩
          · have h2' : r = p := by
              have : ¬ ¬ r = p := fun z => h2 (by simpa using z)
              exact Classical.not_not.mp this
            refine next F ?_ _
            unfold insP
            rw [hm, if_neg]
            rintro (z | z)
            · omega
            · exact z (by rw [hr, h2'])
theorem blt_true {a b : Nat} (h : a < b) : Nat.blt a b = true := Nat.ble_eq_true_of_le h
theorem atD_neg1 {xs : List D} {x : D} : atD (xs ++ [x]) (-1) = some x := by
  show (match Nat.blt 0 (xs ++ [x]).length with | true => (xs ++ [x])[(xs ++ [x]).length - (0 + 1)]? | false => none) = some x
  rw [blt_true (by simp)]
  simp
theorem atD_neg2 {xs : List D} {x y : D} : atD (xs ++ [y] ++ [x]) (-2) = some y := by
  show (match Nat.blt 1 (xs ++ [y] ++ [x]).length with | true => (xs ++ [y] ++ [x])[(xs ++ [y] ++ [x]).length - (1 + 1)]? | false => none) = some y
  rw [blt_true (by simp)]
  simp
theorem popR_mem {c q : Pt} : ∀ {st : List Pt}, q ∈ popR st c → q ∈ st
  | b :: a :: r, h => by
    unfold popR at h
    split at h
    · exact List.mem_cons_of_mem _ (popR_mem (st := a :: r) h)
    · exact h
  | [], h => by unfold popR at h; exact h
  | [x], h => by unfold popR at h; exact h
theorem popR_len {c : Pt} : ∀ {st : List Pt}, (popR st c).length ≤ st.length
  | b :: a :: r => by
    unfold popR
    split
    · have := popR_len (c := c) (st := a :: r)
      simp only [List.length_cons] at *
      omega
    · exact Nat.le_refl _
  | [] => by unfold popR; exact Nat.le_refl _
  | [x] => by unfold popR; exact Nat.le_refl _
theorem halfR_mem {q : Pt} : ∀ {S st : List Pt}, q ∈ halfR st S → q ∈ st ∨ q ∈ S
  | [], st, h => .inl h
  | c :: S, st, h => by
    rcases halfR_mem (S := S) (st := c :: popR st c) h with h | h
    · rcases List.mem_cons.mp h with h | h
      · exact .inr (h ▸ List.mem_cons_self)
      · exact .inl (popR_mem h)
    · exact .inr (List.mem_cons_of_mem _ h)
theorem halfR_len : ∀ {S st : List Pt}, (halfR st S).length ≤ st.length + S.length
  | [], st => Nat.le_refl _
  | c :: S, st => by
    have h1 := halfR_len (S := S) (st := c :: popR st c)
    have h2 := popR_len (c := c) (st := st)
    show (halfR (c :: popR st c) S).length ≤ _
    simp only [List.length_cons] at *
    omega
theorem halfRound_mem {q : Pt} {S : List Pt} (h : q ∈ halfRound S) : q ∈ S := by
  unfold halfRound at h
  rcases halfR_mem (List.mem_reverse.mp h) with h | h
  · exact nomatch h
  · exact h
theorem halfRound_len {S : List Pt} : (halfRound S).length ≤ S.length := by
  unfold halfRound
  rw [List.length_reverse]
  have := halfR_len (S := S) (st := [])
  simpa using this
def C_half_round : Con := Con.of (fun p : List Pt => [.lst (p.map dP)]) (fun p => p.length ≤ 400 ∧ PBs 100000 p) (fun p => .lst ((halfRound p).map dP))
abbrev s_half_round : Stmt := topS 26
abbrev N_half_round : List Str := ["some", "found", "one"]
theorem sc_half_round : FnScope ["some", "found", "one"] ["some"] (defScope s_half_round) := ⟨rfl, rfl, rfl, by decide +kernel, rfl, by decide +kernel, by decide +kernel⟩
theorem ok_half_round (N : Dn K mg "half_round" s_half_round ["some"]) (B : Bt mg) (c_turn : Cal P w K mg base 2 "turn" (LSp K C_turn) []) : Cal P w K mg base 3 "half_round" (LSp K C_half_round) [] := by
  refine N.ok sc_half_round ?_ (fun f cdv A outer s H E hr => (pss_cons (ps_set (i := 1) sc_half_round.nd rfl (.inl rfl) (pe_lst pa_nil))
      (pss_cons (ps_for PassesOwn.never rfl (pi_seq (pv 0)) (pg_name (i := 2) sc_half_round.nd rfl (.inl rfl)) (pss_cons (ps_while PassesOwn.never (PW.pt (pw_and (pt_cmpR op_gt (pe_callB call_len_seq (by rfl) B.len PySem.boot_len (pa_cons (pv 1) pa_nil)) pe_int (nomark _)) (pw_and1 (pt_cmpR op_le (pe_c c_turn hr (by decide) (by rfl) (pa_cons (pe_ix ix_A (pv 1) (pe_un un_neg pe_int) (fun _ _ => rfl)) (pa_cons (pe_ix ix_A (pv 1) (pe_un un_neg pe_int) (fun _ _ => rfl)) (pa_cons (pv 2) pa_nil)))) pe_int (nomark _))))) (pss_one (ps_expr (pe_bm0 PySem.F.plainAttrs_list PySem.F.slot_list_pop PySem.F.type_list_pop mt_pop (pv 1)))))
      (pss_one (ps_expr (pe_bm PySem.F.plainAttrs_list PySem.F.slot_list_append PySem.F.type_list_append mt_append (pv 1) (pa_cons (pv 2) pa_nil))))))
      (pss_one (ps_ret (pv 1))))))
    (sns_seq (sns_ownLst (i := 1) sna_nil)
      (sns_seq (sns_for (sni_seq (sn_var (i := 0))) (sng_name (i := 2)) (sns_seq (sns_while (snt_and (snt_test (sn_op snr_B (sn_lenO (i := 1)) sn_int)) (snt_test (sn_op snr_B (sn_call (C := C_turn) (sna_cons (sn_ixO (i := 1) (sn_un snu_neg sn_int)) (sna_cons (sn_ixO (i := 1) (sn_un snu_neg sn_int)) (sna_cons (sn_var (i := 2)) sna_nil)))) sn_int))) (sns_pop (i := 1)))
      (sns_app (i := 1) (sn_var (i := 2)))))
      (sns_frz (i := 1) (sns_ret (sn_var (i := 1)))))) ?_
  · exact Con.len fun _ => rfl
  · rintro ds t Q ⟨S, rfl, ⟨hl, hS⟩, q⟩
    refine (?_ : ∀ (S st : List Pt) (s2 : Sl), st.length + S.length ≤ 400 → PBs 100000 st → PBs 100000 S → Q (.lst ((halfR st S).reverse.map dP)) t → forW _ _ _ (S.map dP) [Sl.dat (.lst (_ : List D)), Sl.own (st.reverse.map dP), s2] t) S [] Sl.no (by simpa using hl) (fun _ h => nomatch h) hS q
    intro S
    induction S with
    | nil => intro st s2 _ _ _ hq; exact hq
    | cons c S ih =>
      intro st s2 hn hst hS hq
      have hn : st.length + (S.length + 1) ≤ 400 := hn
      have hc : PB 100000 c := hS c List.mem_cons_self
      have next : forW _ _ _ (S.map dP) [Sl.dat (.lst (_ : List D)), Sl.own ((c :: popR st c).reverse.map dP), Sl.dat (dP c)] t := ih (c :: popR st c) (Sl.dat (dP c)) (by have := popR_len (c := c) (st := st); simp only [List.length_cons]; omega) (fun q hq => (List.mem_cons.mp hq).elim (fun e => e ▸ hc) fun h => hst q (popR_mem h)) (fun q hq => hS q (List.mem_cons_of_mem _ hq)) hq
      refine ⟨st.length + 1, ?_⟩
      refine (?_ : ∀ (st : List Pt), st.length ≤ 400 → PBs 100000 st → (((popR st c).reverse.map dP).length ≤ 1000 ∧ forW _ _ _ (S.map dP) [Sl.dat (.lst (_ : List D)), Sl.own ((popR st c).reverse.map dP ++ [dP c]), Sl.dat (dP c)] t) → whW _ _ _ (st.length + 1) [Sl.dat (.lst (_ : List D)), Sl.own (st.reverse.map dP), Sl.dat (dP c)] t) st (by omega) hst ?_
      · intro st
        induction st with
        | nil => intro _ _ hx; exact hx
        | cons b st ih2 =>
          intro hl hst hx
          cases st with
          | nil => exact hx
          | cons a r =>
            have er : (b :: a :: r).reverse.map dP = r.reverse.map dP ++ [dP a] ++ [dP b] := by simp
            have ha : PB 100000 a := hst a (by simp)
            have hb : PB 100000 b := hst b (by simp)
            rw [er]
            show if decide ((1 : Int) < ((r.reverse.map dP ++ [dP a] ++ [dP b]).length : Int)) = true then _ else _
            have len : (1 : Int) < ((r.reverse.map dP ++ [dP a] ++ [dP b]).length : Int) := by
              simp only [List.length_append, List.length_singleton]
              omega
            rw [decide_eq_true len]
            refine opD_mk (d := dP a) atD_neg2 (opD_mk (d := dP b) atD_neg1 ⟨(a, b, c), rfl, ⟨ha, hb, hc⟩, ?_⟩)
            show if decide (sgn (crossP a b c) ≤ 0) = true then _ else _
            refine ite2 (fun h => ?_) (fun h => ?_)
            · have h' := of_decide_eq_true h
              have ep : popR (b :: a :: r) c = popR (a :: r) c := by
                conv => lhs; unfold popR
                rw [if_pos h']
              rw [ep] at hx
              have := ih2 (by simp only [List.length_cons] at *; omega) (fun q hq => hst q (List.mem_cons_of_mem _ hq)) hx
              refine ⟨by simp, ?_⟩
              have ed : (r.reverse.map dP ++ [dP a] ++ [dP b]).dropLast = (a :: r).reverse.map dP := by
                rw [List.dropLast_concat]
                simp
              show whW _ _ _ _ [Sl.dat (.lst (_ : List D)), Sl.own (r.reverse.map dP ++ [dP a] ++ [dP b]).dropLast, Sl.dat (dP c)] t
              rw [ed]
              exact this
            · have h' : ¬ sgn (crossP a b c) ≤ 0 := fun z => h (decide_eq_true z)
              have ep : popR (b :: a :: r) c = b :: a :: r := by
                conv => lhs; unfold popR
                rw [if_neg h']
              rw [ep, er] at hx
              exact hx
      · refine ⟨?_, ?_⟩
        · have := popR_len (c := c) (st := st)
          rw [List.length_map, List.length_reverse]
          omega
        · have e : (popR st c).reverse.map dP ++ [dP c] = (c :: popR st c).reverse.map dP := by simp
          rw [e]
          exact next
def dO : Option (List Pt) → D
  | none => .non
  | some l => .tup (l.map dP)
theorem cutD_init (ds : List D) : cutD ds none (some (-1)) = ds.dropLast := by
  unfold cutD
  show (ds.drop 0).take ((if (-1 : Int) < 0 then ((-1 : Int) + (ds.length : Int)).toNat else min (-1 : Int).toNat ds.length) - 0) = _
  rw [if_pos (by decide), List.drop_zero, List.dropLast_eq_take, Nat.sub_zero]
  congr 1
  omega
theorem hull_len {o : List Pt} : (hull o).length ≤ 2 * o.length := by
  unfold hull
  have h1 := halfRound_len (S := o)
  have h2 := halfRound_len (S := o.reverse)
  rw [List.length_reverse] at h2
  simp only [List.length_append, List.length_dropLast]
  omega
theorem sortP_pb {n : Nat} {S : List Pt} (h : PBs n S) : PBs n (sortP S) := fun p hp => by
  rcases sortP_mem hp with z | z
  · exact nomatch z
  · exact h p z
theorem hull_mem {o : List Pt} {q : Pt} (h : q ∈ hull o) : q ∈ o := by
  unfold hull at h
  rcases List.mem_append.mp h with h | h
  · exact halfRound_mem (List.dropLast_subset _ h)
  · exact List.mem_reverse.mp (halfRound_mem (List.dropLast_subset _ h))
theorem shapeOf_mem {S l : List Pt} (e : shapeOf S = some l) {q : Pt} (h : q ∈ l) : q ∈ S := by
  unfold shapeOf at e
  split at e
  · cases e
  · split at e
    · cases e
      rcases sortP_mem (hull_mem h) with z | z
      · exact nomatch z
      · exact z
    · cases e
theorem shapeOf_len {S l : List Pt} (e : shapeOf S = some l) : l.length ≤ 2 * S.length := by
  unfold shapeOf at e
  split at e
  · cases e
  · split at e
    · cases e
      have := hull_len (o := sortP S)
      have := sortP_len (S := S) (F := [])
      unfold sortP at *
      simp only [List.length_nil] at *
      omega
    · cases e
def C_shape_of : Con := Con.of (fun p : Bool × List Pt => [dL p.1 p.2]) (fun p => p.2.length ≤ 400 ∧ PBs 100000 p.2) (fun p => dO (shapeOf p.2))
abbrev s_shape_of : Stmt := topS 27
abbrev N_shape_of : List Str := ["some", "ordered", "below", "above", "found"]
theorem sc_shape_of : FnScope ["some", "ordered", "below", "above", "found"] ["some"] (defScope s_shape_of) := ⟨rfl, rfl, rfl, by decide +kernel, rfl, by decide +kernel, by decide +kernel⟩
theorem ok_shape_of (N : Dn K mg "shape_of" s_shape_of ["some"]) (B : Bt mg) (c_sorted_places : Cal P w K mg base 2 "sorted_places" (LSp K C_sorted_places) []) (c_half_round : Cal P w K mg base 3 "half_round" (LSp K C_half_round) []) : Cal P w K mg base 4 "shape_of" (LSp K C_shape_of) [] := by
  refine N.ok sc_shape_of ?_ (fun f cdv A outer s H E hr => (pss_cons (ps_set (i := 1) sc_shape_of.nd rfl (.inl rfl) (pe_c c_sorted_places hr (by decide) (by rfl) (pa_cons (pv 0) pa_nil)))
      (pss_cons (ps_if (pt_cmpR op_lt (pe_callB call_len_seq (by rfl) B.len (by decide +kernel) (pa_cons (pv 1) pa_nil)) pe_int (nomark _)) (pss_one (ps_ret pe_non)) pss_nil)
      (pss_cons (ps_set (i := 2) sc_shape_of.nd rfl (.inl rfl) (pe_c c_half_round hr (by decide) (by rfl) (pa_cons (pv 1) pa_nil)))
      (pss_cons (ps_set (i := 3) sc_shape_of.nd rfl (.inl rfl) (pe_c c_half_round hr (by decide) (by rfl) (pa_cons (pe_revL (pv 1)) pa_nil)))
      (pss_cons (ps_set (i := 4) sc_shape_of.nd rfl (.inl rfl) (pe_op op_addA (pe_slice sl_A (pv 2) po_none (po_some (pe_un un_neg pe_int))) (pe_slice sl_A (pv 3) po_none (po_some (pe_un un_neg pe_int)))))
      (pss_one (ps_ret (pe_ifExp (pt_cmpR op_gt (pe_callB call_len_seq (by rfl) B.len (by decide +kernel) (pa_cons (pv 4) pa_nil)) pe_int (nomark _)) (pe_callTy call_tuple_of (by rfl) B.tuple (by decide +kernel) (pa_cons (pv 4) pa_nil)) pe_non)))))))))
    (sns_seq (sns_asg (sn_call (C := C_sorted_places) (sna_cons (sn_var (i := 0)) sna_nil)) (sng_name (i := 1)))
      (sns_seq (sns_if (snt_test (sn_op snr_B (sn_cb snc_len (sna_cons (sn_var (i := 1)) sna_nil)) sn_int)) (sns_ret sn_non) sns_nil)
      (sns_seq (sns_asg (sn_call (C := C_half_round) (sna_cons (sn_var (i := 1)) sna_nil)) (sng_name (i := 2)))
      (sns_seq (sns_asg (sn_call (C := C_half_round) (sna_cons (sn_rev (sn_var (i := 1))) sna_nil)) (sng_name (i := 3)))
      (sns_seq (sns_asg (sn_op snr_add (sn_sl (sn_var (i := 2)) sno_none (sno_some (sn_un snu_neg sn_int))) (sn_sl (sn_var (i := 3)) sno_none (sno_some (sn_un snu_neg sn_int)))) (sng_name (i := 4)))
      (sns_ret (sn_if (snt_test (sn_op snr_B (sn_cb snc_len (sna_cons (sn_var (i := 4)) sna_nil)) sn_int)) (sn_cb snc_tuple (sna_cons (sn_var (i := 4)) sna_nil)) sn_non))))))) ?_
  · exact Con.len fun _ => rfl
  · rintro ds t Q ⟨⟨b, S⟩, rfl, ⟨hl, hS⟩, q⟩
    have hl : S.length ≤ 400 := hl
    have hS : PBs 100000 S := hS
    refine ⟨(b, S), rfl, ⟨hl, hS⟩, ?_⟩
    have ho := sortP_pb hS
    have lo : (sortP S).length ≤ 400 := by
      have := sortP_len (S := S) (F := [])
      unfold sortP
      simp only [List.length_nil] at this
      omega
    have q : Q (dO (shapeOf S)) t := q
    unfold shapeOf at q
    show if decide ((((sortP S).map dP).length : Int) < 3) = true then Q .non t else wSeqS _ _ _ [Sl.dat (dL b S), Sl.dat (.lst ((sortP S).map dP)), Sl.no, Sl.no, Sl.no] t
    generalize sortP S = o at *
    refine ite2 (fun h => ?_) (fun h => ?_)
    · have h' : o.length < 3 := by
        have := of_decide_eq_true h
        rw [List.length_map] at this
        omega
      rw [if_pos h'] at q
      exact q
    · have h' : ¬ o.length < 3 := fun z => h (decide_eq_true (by rw [List.length_map]; omega))
      rw [if_neg h'] at q
      refine ⟨o, rfl, ⟨lo, ho⟩, o.reverse, ?_, ⟨by rw [List.length_reverse]; exact lo, fun p hp => ho p (List.mem_reverse.mp hp)⟩, ?_⟩
      · show [D.lst (o.map dP).reverse] = [D.lst (o.reverse.map dP)]
        rw [List.map_reverse]
      · have h1 := halfRound_len (S := o)
        have h2 := halfRound_len (S := o.reverse)
        rw [List.length_reverse] at h2
        show szOk ((cutD ((halfRound o).map dP) none (some (-1))).length + (cutD ((halfRound o.reverse).map dP) none (some (-1))).length) _
        rw [cutD_init, cutD_init]
        refine szOk_mk (by simp only [List.length_dropLast, List.length_map]; omega) ?_
        have e : ((halfRound o).map dP).dropLast ++ ((halfRound o.reverse).map dP).dropLast = (hull o).map dP := by
          unfold hull
          rw [List.map_append, List.map_dropLast, List.map_dropLast]
        show if decide ((2 : Int) < ((((halfRound o).map dP).dropLast ++ ((halfRound o.reverse).map dP).dropLast).length : Int)) = true then Q (.tup (((halfRound o).map dP).dropLast ++ ((halfRound o.reverse).map dP).dropLast)) t else Q .non t
        rw [e, List.length_map]
        refine ite2 (fun h => ?_) (fun h => ?_)
        · have h' : 2 < (hull o).length := by have := of_decide_eq_true h; omega
          rw [if_pos h'] at q
          exact q
        · have h' : ¬ 2 < (hull o).length := fun z => h (decide_eq_true (by omega))
          rw [if_neg h'] at q
          exact q
def dE (e : Pt × Pt) : D := .tup [dP e.1, dP e.2]
def C_edges : Con := Con.of (fun p : List Pt => [.tup (p.map dP)]) (fun p => p.length ≤ 400) (fun p => .lst ((edgesP p).map dE))
abbrev s_edges : Stmt := topS 24
abbrev N_edges : List Str := ["shape", "k"]
theorem sc_edges : FnScope ["shape", "k"] ["shape"] (defScope s_edges) := ⟨rfl, rfl, rfl, by decide +kernel, rfl, by decide +kernel, by decide +kernel⟩
theorem ok_edges (N : Dn K mg "edges" s_edges ["shape"]) (B : Bt mg) : Cal P w K mg base 1 "edges" (LSp K C_edges) [] := by
  refine N.ok sc_edges ?_ (fun f cdv A outer s H E hr => (pss_one (ps_ret (pe_lc (own := [("k", 1)]) rfl sc_edges.nd (pi_range1 (by rfl) B.range (pa_cons (pe_callB call_len_seq (by rfl) B.len (by decide +kernel) (pa_cons (pv 0) pa_nil)) pa_nil)) (blkOk_by (own := [("k", 1)]) (N := N_edges) (sc := defScope s_edges) (by decide +kernel)) (fun _ _ _ _ _ => (pg_name (i := 1) sc_edges.nd rfl (.inl rfl))) (fun _ _ _ _ _ => pts_nil) (fun _ _ _ _ _ => (pe_tup (pa_cons (pe_ix ix_A (pv 0) (pv 1) (fun _ _ => rfl)) (pa_cons (pe_ix ix_A (pv 0) (pe_op op_modN (pe_op op_addA (pv 1) pe_int) (pe_callB call_len_seq (by rfl) B.len (by decide +kernel) (pa_cons (pv 0) pa_nil))) (fun _ _ => rfl)) pa_nil))))))))
    (sns_ret (sn_lc (sni_rng (sna_cons (sn_cb snc_len (sna_cons (sn_var (i := 0)) sna_nil)) sna_nil)).c (sng_name (i := 1)) snt_yes (sn_tup (sna_cons (sn_op snr_ix (sn_var (i := 0)) (sn_var (i := 1))) (sna_cons (sn_op snr_ix (sn_var (i := 0)) (sn_op snr_IC (sn_op snr_add (sn_var (i := 1)) sn_int) (sn_cb snc_len (sna_cons (sn_var (i := 0)) sna_nil)))) sna_nil))) (by decide))) ?_
  · exact Con.len fun _ => rfl
  · rintro ds t Q ⟨S, rfl, hl, q⟩
    have hl : S.length ≤ 400 := hl
    refine ⟨⟨by show (-1000 : Int) ≤ ((_ : Nat) : Int); omega, by show ((List.map dP S).length : Int) ≤ 1000; rw [List.length_map]; omega⟩, by
      show ((List.range ((S.map dP).length : Int).toNat).map fun (k : Nat) => D.int (k : Int)).length ≤ 1000
      rw [List.length_map, List.length_range, List.length_map]
      omega, ?_⟩
    show lcW _ _ _ _ ((List.range ((S.map dP).length : Int).toNat).map fun (k : Nat) => D.int (k : Int)) [] t Q
    rw [List.length_map, Int.toNat_natCast]
    refine lcW_all (g := fun k => dE (S.getD k ⟨0, 0⟩, S.getD ((k + 1) % S.length) ⟨0, 0⟩)) (fun k hk t P hp => ?_) ?_
    · have hk : k < S.length := List.mem_range.mp hk
      have hm : (k + 1) % S.length < S.length := Nat.mod_lt _ (by omega)
      refine opD_mk (d := dP (S.getD k ⟨0, 0⟩)) ?_ ?_
      · rw [atD_map, List.getElem?_eq_getElem hk, List.getD_eq_getElem?_getD, List.getElem?_eq_getElem hk]
        rfl
      · refine ⟨by show ((List.map dP S).length : Int) ≠ 0; rw [List.length_map]; omega, ?_⟩
        refine opD_mk (d := dP (S.getD ((k + 1) % S.length) ⟨0, 0⟩)) ?_ hp
        have e : ((k : Int) + 1).fmod ((S.map dP).length : Int) = (((k + 1) % S.length : Nat) : Int) := by
          rw [List.length_map, Int.fmod_eq_emod_of_nonneg _ (by omega)]
          rfl
        rw [e, atD_map, List.getElem?_eq_getElem hm, List.getD_eq_getElem?_getD, List.getElem?_eq_getElem hm]
        rfl
    · have q : Q (.lst ((edgesP S).map dE)) t := q
      unfold edgesP at q
      rw [List.map_map] at q
      exact q
def dP4 (p : Pt × Pt × Pt × Pt) : List D := [dP p.1, dP p.2.1, dP p.2.2.1, dP p.2.2.2]
/-- the way from a to b athwart that from c to d -/
def cr4 (a b c d : Pt) : Rat := (b.x - a.x) * (d.y - c.y) - (b.y - a.y) * (d.x - c.x)
def C_meeting : Con := Con.of dP4 (fun p => cr4 p.1 p.2.1 p.2.2.1 p.2.2.2 ≠ 0 ∧ PB 2200 p.1 ∧ PB 2200 p.2.1 ∧ PB 2200 p.2.2.1 ∧ PB 2200 p.2.2.2) (fun p => dP (meetP p.1 p.2.1 p.2.2.1 p.2.2.2))
/-- the three numbers of the meeting, as they are reckoned -/
structure MeetN (a b c d : Pt) (W X Y : Int) : Prop where
  w : (W : Rat) = cr4 a b c d * (((a.Z : Rat) * (b.Z : Rat)) * ((c.Z : Rat) * (d.Z : Rat)) * (a.Z : Rat) * (c.Z : Rat))
  x : (X : Rat) = (meetP a b c d).x * (W : Rat)
  y : (Y : Rat) = (meetP a b c d).y * (W : Rat)
theorem meetN (a b c d : Pt) (h : cr4 a b c d ≠ 0) : MeetN a b c d (((wayI a b).1 * (wayI c d).2 - (wayI a b).2 * (wayI c d).1) * a.Z * c.Z)
    (a.X * c.Z * ((wayI a b).1 * (wayI c d).2 - (wayI a b).2 * (wayI c d).1) + (wayI a b).1 * ((wayI a c).1 * (wayI c d).2 - (wayI a c).2 * (wayI c d).1))
    (a.Y * c.Z * ((wayI a b).1 * (wayI c d).2 - (wayI a b).2 * (wayI c d).1) + (wayI a b).2 * ((wayI a c).1 * (wayI c d).2 - (wayI a c).2 * (wayI c d).1)) := by
  have e1 := crossI a b c d
  have e2 := crossI a c c d
  have hw : ((((wayI a b).1 * (wayI c d).2 - (wayI a b).2 * (wayI c d).1) * a.Z * c.Z : Int) : Rat) = cr4 a b c d * (((a.Z : Rat) * (b.Z : Rat)) * ((c.Z : Rat) * (d.Z : Rat)) * (a.Z : Rat) * (c.Z : Rat)) := by
    rw [Rat.intCast_mul, Rat.intCast_mul, e1]
    unfold cr4
    grind
  refine ⟨hw, ?_, ?_⟩
  · rw [hw, Rat.intCast_add, Rat.intCast_mul, Rat.intCast_mul, Rat.intCast_mul, e1, e2, way_x, a.ex]
    unfold meetP addP
    show _ = (a.x + ((c.x - a.x) * (d.y - c.y) - (c.y - a.y) * (d.x - c.x)) / cr4 a b c d * (b.x - a.x)) * _
    have e3 : (b.x - a.x) * (d.y - c.y) - (b.y - a.y) * (d.x - c.x) = cr4 a b c d := rfl
    rw [e3]
    generalize cr4 a b c d = k at *
    grind
  · rw [hw, Rat.intCast_add, Rat.intCast_mul, Rat.intCast_mul, Rat.intCast_mul, e1, e2, way_y, a.ey]
    unfold meetP addP
    show _ = (a.y + ((c.x - a.x) * (d.y - c.y) - (c.y - a.y) * (d.x - c.x)) / cr4 a b c d * (b.y - a.y)) * _
    have e3 : (b.x - a.x) * (d.y - c.y) - (b.y - a.y) * (d.x - c.x) = cr4 a b c d := rfl
    rw [e3]
    generalize cr4 a b c d = k at *
    grind
abbrev s_meeting : Stmt := topS 28
abbrev N_meeting : List Str := ["a", "b", "c", "d", "whole", "part_here", "top_x", "top_y", "first", "second"]
theorem sc_meeting : FnScope ["a", "b", "c", "d", "whole", "part_here", "top_x", "top_y", "first", "second"] ["a", "b", "c", "d"] (defScope s_meeting) := ⟨rfl, rfl, rfl, by decide +kernel, rfl, by decide +kernel, by decide +kernel⟩
theorem ok_meeting (N : Dn K mg "meeting" s_meeting ["a", "b", "c", "d"]) (c_cross : Cal P w K mg base 1 "cross" (LSp K C_cross) []) (c_place_of : Cal P w K mg base 2 "place_of" (LSp K C_place_of) []) (c_way : Cal P w K mg base 1 "way" (LSp K C_way) []) : Cal P w K mg base 3 "meeting" (LSp K C_meeting) [] := by
  refine N.ok sc_meeting ?_ (fun f cdv A outer s H E hr => (pss_cons (ps_par (i := 8) (j := 9) rfl sc_meeting.nd rfl rfl (by decide) rfl rfl (pa_cons (pe_c c_way hr (by decide) (by rfl) (pa_cons (pv 0) (pa_cons (pv 1) pa_nil))) (pa_cons (pe_c c_way hr (by decide) (by rfl) (pa_cons (pv 2) (pa_cons (pv 3) pa_nil))) pa_nil)) (by rfl))
      (pss_cons (ps_set (i := 4) sc_meeting.nd rfl (.inl rfl) (pe_op op_mulB (pe_op op_mulB (pe_c c_cross hr (by decide) (by rfl) (pa_cons (pv 8) (pa_cons (pv 9) pa_nil))) (pe_ix ix_A (pv 0) pe_int (fun _ _ => rfl))) (pe_ix ix_A (pv 2) pe_int (fun _ _ => rfl))))
      (pss_cons (ps_set (i := 5) sc_meeting.nd rfl (.inl rfl) (pe_c c_cross hr (by decide) (by rfl) (pa_cons (pe_c c_way hr (by decide) (by rfl) (pa_cons (pv 0) (pa_cons (pv 2) pa_nil))) (pa_cons (pv 9) pa_nil))))
      (pss_cons (ps_set (i := 6) sc_meeting.nd rfl (.inl rfl) (pe_op op_addA (pe_op op_mulB (pe_op op_mulB (pe_ix ix_A (pv 0) pe_int (fun _ _ => rfl)) (pe_ix ix_A (pv 2) pe_int (fun _ _ => rfl))) (pe_c c_cross hr (by decide) (by rfl) (pa_cons (pv 8) (pa_cons (pv 9) pa_nil)))) (pe_op op_mulB (pe_ix ix_A (pv 8) pe_int (fun _ _ => rfl)) (pv 5))))
      (pss_cons (ps_set (i := 7) sc_meeting.nd rfl (.inl rfl) (pe_op op_addA (pe_op op_mulB (pe_op op_mulB (pe_ix ix_A (pv 0) pe_int (fun _ _ => rfl)) (pe_ix ix_A (pv 2) pe_int (fun _ _ => rfl))) (pe_c c_cross hr (by decide) (by rfl) (pa_cons (pv 8) (pa_cons (pv 9) pa_nil)))) (pe_op op_mulB (pe_ix ix_A (pv 8) pe_int (fun _ _ => rfl)) (pv 5))))
      (pss_cons (ps_if (pt_cmpR op_lt (pv 4) pe_int (nomark _)) (pss_one (ps_ret (pe_c c_place_of hr (by decide) (by rfl) (pa_cons (pe_op op_sub pe_int (pv 6)) (pa_cons (pe_op op_sub pe_int (pv 7)) (pa_cons (pe_op op_sub pe_int (pv 4)) pa_nil)))))) pss_nil)
      (pss_one (ps_ret (pe_c c_place_of hr (by decide) (by rfl) (pa_cons (pv 6) (pa_cons (pv 7) (pa_cons (pv 4) pa_nil)))))))))))))
    (sns_seq (sns_par (i := 8) (j := 9) (sna_cons (sn_call (C := C_way) (sna_cons (sn_var (i := 0)) (sna_cons (sn_var (i := 1)) sna_nil))) (sna_cons (sn_call (C := C_way) (sna_cons (sn_var (i := 2)) (sna_cons (sn_var (i := 3)) sna_nil))) sna_nil)))
      (sns_seq (sns_asg (sn_op snr_IC (sn_op snr_IC (sn_call (C := C_cross) (sna_cons (sn_var (i := 8)) (sna_cons (sn_var (i := 9)) sna_nil))) (sn_op snr_ix (sn_var (i := 0)) sn_int)) (sn_op snr_ix (sn_var (i := 2)) sn_int)) (sng_name (i := 4)))
      (sns_seq (sns_asg (sn_call (C := C_cross) (sna_cons (sn_call (C := C_way) (sna_cons (sn_var (i := 0)) (sna_cons (sn_var (i := 2)) sna_nil))) (sna_cons (sn_var (i := 9)) sna_nil))) (sng_name (i := 5)))
      (sns_seq (sns_asg (sn_op snr_add (sn_op snr_IC (sn_op snr_IC (sn_op snr_ix (sn_var (i := 0)) sn_int) (sn_op snr_ix (sn_var (i := 2)) sn_int)) (sn_call (C := C_cross) (sna_cons (sn_var (i := 8)) (sna_cons (sn_var (i := 9)) sna_nil)))) (sn_op snr_IC (sn_op snr_ix (sn_var (i := 8)) sn_int) (sn_var (i := 5)))) (sng_name (i := 6)))
      (sns_seq (sns_asg (sn_op snr_add (sn_op snr_IC (sn_op snr_IC (sn_op snr_ix (sn_var (i := 0)) sn_int) (sn_op snr_ix (sn_var (i := 2)) sn_int)) (sn_call (C := C_cross) (sna_cons (sn_var (i := 8)) (sna_cons (sn_var (i := 9)) sna_nil)))) (sn_op snr_IC (sn_op snr_ix (sn_var (i := 8)) sn_int) (sn_var (i := 5)))) (sng_name (i := 7)))
      (sns_seq (sns_if (snt_test (sn_op snr_B (sn_var (i := 4)) sn_int)) (sns_ret (sn_call (C := C_place_of) (sna_cons (sn_op snr_I sn_int (sn_var (i := 6))) (sna_cons (sn_op snr_I sn_int (sn_var (i := 7))) (sna_cons (sn_op snr_I sn_int (sn_var (i := 4))) sna_nil))))) sns_nil)
      (sns_ret (sn_call (C := C_place_of) (sna_cons (sn_var (i := 6)) (sna_cons (sn_var (i := 7)) (sna_cons (sn_var (i := 4)) sna_nil))))))))))) ?_
  · exact Con.len fun _ => rfl
  · rintro ds t Q ⟨⟨a, b, c, d⟩, rfl, ⟨h0, ha, hb, hc, hd⟩, q⟩
    have h0 : cr4 a b c d ≠ 0 := h0
    have w1 := wayB ha hb
    have w2 := wayB hc hd
    have w3 := wayB ha hc
    have M := meetN a b c d h0
    have cB := (w1.1.mul w2.2).subS (w1.2.mul w2.1)
    have pB := (w3.1.mul w2.2).subS (w3.2.mul w2.1)
    have wB := (cB.mul ha.Z).mul hc.Z
    have xB := (((ha.X.mul hc.Z).mul cB).mono (by decide)).addS (w1.1.mul pB)
    have yB := (((ha.Y.mul hc.Z).mul cB).mono (by decide)).addS (w1.2.mul pB)
    have l : ∀ {p : Pt}, PB 2200 p → PB 100000 p := fun h => h.mono (by decide)
    have i1 : Bd 300000 (wayI a b).1 ∧ Bd 300000 (wayI a b).2 ∧ Bd 300000 (wayI c d).1 ∧ Bd 300000 (wayI c d).2 := ⟨w1.1.mono (by decide), w1.2.mono (by decide), w2.1.mono (by decide), w2.2.mono (by decide)⟩
    have i2 : Bd 300000 (wayI a c).1 ∧ Bd 300000 (wayI a c).2 ∧ Bd 300000 (wayI c d).1 ∧ Bd 300000 (wayI c d).2 := ⟨w3.1.mono (by decide), w3.2.mono (by decide), w2.1.mono (by decide), w2.2.mono (by decide)⟩
    refine ⟨(a, b), rfl, ⟨l ha, l hb⟩, (c, d), rfl, ⟨l hc, l hd⟩, (wayI a b, wayI c d), rfl, i1, mulB cB ha.Z (by decide), mulB (cB.mul ha.Z) hc.Z (by decide), (a, c), rfl, ⟨l ha, l hc⟩, (wayI a c, wayI c d), rfl, i2,
      mulB ha.X hc.Z (by decide), (wayI a b, wayI c d), rfl, i1, mulB (ha.X.mul hc.Z) cB (by decide), mulB w1.1 pB (by decide), mulB ha.Y hc.Z (by decide), (wayI a b, wayI c d), rfl, i1, mulB (ha.Y.mul hc.Z) cB (by decide), mulB w1.2 pB (by decide), ?_⟩
    have zp : 0 < ((a.Z : Rat) * (b.Z : Rat)) * ((c.Z : Rat) * (d.Z : Rat)) * (a.Z : Rat) * (c.Z : Rat) := Rat.mul_pos (Rat.mul_pos (pos4 a b c d) (Zpos' _)) (Zpos' _)
    have wn : ((wayI a b).1 * (wayI c d).2 - (wayI a b).2 * (wayI c d).1) * a.Z * c.Z ≠ 0 := fun z => by
      have := M.w
      rw [z] at this
      have zp' : ((a.Z : Rat) * (b.Z : Rat)) * ((c.Z : Rat) * (d.Z : Rat)) * (a.Z : Rat) * (c.Z : Rat) ≠ 0 := fun e => by rw [e] at zp; exact Rat.lt_irrefl zp
      rcases Rat.mul_eq_zero.mp this.symm with e | e
      · exact h0 e
      · exact zp' e
    show if decide (((wayI a b).1 * (wayI c d).2 - (wayI a b).2 * (wayI c d).1) * a.Z * c.Z < 0) = true then _ else _
    refine ite2 (fun h => ?_) (fun h => ?_)
    · have h' := of_decide_eq_true h
      refine ⟨(meetP a b c d, _, _, _), rfl, ⟨?_, ?_, ?_, (xB.neg0).mono (by decide), (yB.neg0).mono (by decide), (wB.neg0).mono (by decide)⟩, q⟩
      · show 0 < 0 - ((wayI a b).1 * (wayI c d).2 - (wayI a b).2 * (wayI c d).1) * a.Z * c.Z
        omega
      · rw [Rat.intCast_sub, Rat.intCast_sub, M.x]
        grind
      · rw [Rat.intCast_sub, Rat.intCast_sub, M.y]
        grind
    · have h' : ¬ ((wayI a b).1 * (wayI c d).2 - (wayI a b).2 * (wayI c d).1) * a.Z * c.Z < 0 := fun z => h (decide_eq_true z)
      exact ⟨(meetP a b c d, _, _, _), rfl, ⟨by show 0 < ((wayI a b).1 * (wayI c d).2 - (wayI a b).2 * (wayI c d).1) * a.Z * c.Z; omega, M.x, M.y, xB.mono (by decide), yB.mono (by decide), wB.mono (by decide)⟩, q⟩
end
end DL


/-! ## W3 -/
set_option maxRecDepth 100000
/-! cutting, belonging, roots -/
namespace DL
open PySem PySem.Spec PyProof.Rows L2
open C8 (Cal pe_c pe_gc)
open W15
section
variable {P : Program} {w : World} {K : PySem.W.Frag} {mg : Str → Option Value} {base : Heap}
theorem edgesP_len (S : List Pt) : (edgesP S).length = S.length := by
  unfold edgesP
  rw [List.length_map, List.length_range]
theorem getD_mem {S : List Pt} {k : Nat} (h : k < S.length) : S.getD k ⟨0, 0⟩ ∈ S := by
  rw [List.getD_eq_getElem?_getD, List.getElem?_eq_getElem h]
  exact List.getElem_mem h
theorem edgesP_mem {S : List Pt} {e : Pt × Pt} (h : e ∈ edgesP S) : e.1 ∈ S ∧ e.2 ∈ S := by
  unfold edgesP at h
  obtain ⟨k, hk, rfl⟩ := List.mem_map.mp h
  have hk := List.mem_range.mp hk
  exact ⟨getD_mem hk, getD_mem (Nat.mod_lt _ (by omega))⟩
theorem cr4_ne {a b p q : Pt} (h : sgn (crossP a b p) * sgn (crossP a b q) < 0) : cr4 a b p q ≠ 0 := by
  intro z
  have e : crossP a b q = crossP a b p + cr4 a b p q := by
    unfold crossP cr4
    grind
  rw [e, z, Rat.add_zero] at h
  have : 0 ≤ sgn (crossP a b p) * sgn (crossP a b p) := by
    generalize sgn (crossP a b p) = k
    rcases Int.le_total 0 k with hk | hk
    · exact Int.mul_nonneg hk hk
    · exact Int.mul_nonneg_of_nonpos_of_nonpos hk hk
  omega
theorem meetP_pb {a b c d : Pt} (h : cr4 a b c d ≠ 0) {n : Nat} (ha : PB n a) (hb : PB n b) (hc : PB n c) (hd : PB n d) : PB (6 * n + 5) (meetP a b c d) := by
  have w1 := wayB ha hb
  have w2 := wayB hc hd
  have w3 := wayB ha hc
  have M := meetN a b c d h
  have cB := (w1.1.mul w2.2).subS (w1.2.mul w2.1)
  have pB := (w3.1.mul w2.2).subS (w3.2.mul w2.1)
  have wB := (cB.mul ha.Z).mul hc.Z
  have xB := (((ha.X.mul hc.Z).mul cB).mono (show _ ≤ (n + n + 1 + (n + n + 1 + (n + n + 1) + 1)) by omega)).addS (w1.1.mul pB)
  have yB := (((ha.Y.mul hc.Z).mul cB).mono (show _ ≤ (n + n + 1 + (n + n + 1 + (n + n + 1) + 1)) by omega)).addS (w1.2.mul pB)
  have zp : 0 < ((a.Z : Rat) * (b.Z : Rat)) * ((c.Z : Rat) * (d.Z : Rat)) * (a.Z : Rat) * (c.Z : Rat) := Rat.mul_pos (Rat.mul_pos (pos4 a b c d) (Zpos' _)) (Zpos' _)
  by_cases hw : 0 < ((wayI a b).1 * (wayI c d).2 - (wayI a b).2 * (wayI c d).1) * a.Z * c.Z
  · exact pb_tri hw M.x M.y (xB.mono (by omega)) (yB.mono (by omega)) (wB.mono (by omega))
  · have wn : ((wayI a b).1 * (wayI c d).2 - (wayI a b).2 * (wayI c d).1) * a.Z * c.Z ≠ 0 := fun z => by
      have := M.w
      rw [z] at this
      have zp' : ((a.Z : Rat) * (b.Z : Rat)) * ((c.Z : Rat) * (d.Z : Rat)) * (a.Z : Rat) * (c.Z : Rat) ≠ 0 := fun e => by rw [e] at zp; exact Rat.lt_irrefl zp
      rcases Rat.mul_eq_zero.mp this.symm with e | e
      · exact h e
      · exact zp' e
    refine pb_tri (show 0 < 0 - ((wayI a b).1 * (wayI c d).2 - (wayI a b).2 * (wayI c d).1) * a.Z * c.Z by omega) ?_ ?_ (xB.neg0.mono (by omega)) (yB.neg0.mono (by omega)) (wB.neg0.mono (by omega))
    · rw [Rat.intCast_sub, Rat.intCast_sub, M.x]
      grind
    · rw [Rat.intCast_sub, Rat.intCast_sub, M.y]
      grind
theorem keptP_pb {S : List Pt} {a b : Pt} {n : Nat} (hS : PBs n S) (ha : PB n a) (hb : PB n b) : PBs (6 * n + 5) (keptP S a b) := fun p hp => by
  unfold keptP at hp
  rcases List.mem_append.mp hp with h | h
  · exact (hS p (List.mem_filter.mp h).1).mono (by omega)
  · obtain ⟨e, he, rfl⟩ := List.mem_map.mp h
    obtain ⟨h1, h2⟩ := List.mem_filter.mp he
    obtain ⟨m1, m2⟩ := edgesP_mem h1
    exact meetP_pb (cr4_ne (of_decide_eq_true h2)) ha hb (hS _ m1) (hS _ m2)
theorem keptP_len {S : List Pt} {a b : Pt} : (keptP S a b).length ≤ 2 * S.length := by
  unfold keptP
  rw [List.length_append, List.length_map]
  have h1 := List.length_filter_le (fun p => decide (0 ≤ sgn (crossP a b p))) S
  have h2 := List.length_filter_le (fun e : Pt × Pt => decide (sgn (crossP a b e.1) * sgn (crossP a b e.2) < 0)) (edgesP S)
  rw [edgesP_len] at h2
  omega
theorem sgnB (x : Rat) : Bd 2 (sgn x) := by
  unfold sgn Bd
  split
  · decide
  · split <;> decide
def C_cut_off : Con := Con.of (fun p : List Pt × Pt × Pt => [.tup (p.1.map dP), dP p.2.1, dP p.2.2]) (fun p => p.1.length ≤ 150 ∧ PBs 2200 p.1 ∧ PB 2200 p.2.1 ∧ PB 2200 p.2.2) (fun p => dO (cutOff p.1 p.2.1 p.2.2))
abbrev s_cut_off : Stmt := topS 29
abbrev N_cut_off : List Str := ["shape", "a", "b", "kept", "one", "other"]
theorem sc_cut_off : FnScope ["shape", "a", "b", "kept", "one", "other"] ["shape", "a", "b"] (defScope s_cut_off) := ⟨rfl, rfl, rfl, by decide +kernel, rfl, by decide +kernel, by decide +kernel⟩
theorem ok_cut_off (N : Dn K mg "cut_off" s_cut_off ["shape", "a", "b"]) (B : Bt mg) (c_edges : Cal P w K mg base 1 "edges" (LSp K C_edges) []) (c_shape_of : Cal P w K mg base 4 "shape_of" (LSp K C_shape_of) []) (c_turn : Cal P w K mg base 2 "turn" (LSp K C_turn) []) (c_meeting : Cal P w K mg base 3 "meeting" (LSp K C_meeting) []) : Cal P w K mg base 5 "cut_off" (LSp K C_cut_off) [] := by
  refine N.ok sc_cut_off ?_ (fun f cdv A outer s H E hr => (pss_cons (ps_setLc (i := 3) (own := [("one", 4)]) rfl sc_cut_off.nd rfl rfl (sw_true rfl rfl rfl (by decide +kernel)) (pi_seq (pv 0)) (blkOk_by (own := [("one", 4)]) (N := N_cut_off) (sc := defScope s_cut_off) (by decide +kernel)) (fun _ _ _ _ _ => (pg_name (i := 4) sc_cut_off.nd rfl (.inl rfl))) (fun _ _ _ _ _ => (pts_one (pt_cmpR op_ge (pe_c c_turn hr (by decide) (by rfl) (pa_cons (pv 1) (pa_cons (pv 2) (pa_cons (pv 4) pa_nil)))) pe_int (nomark _)))) (fun _ _ _ _ _ => (pv 4)))
      (pss_cons (ps_for PassesOwn.never rfl (pi_seq (pe_c c_edges hr (by decide) (by rfl) (pa_cons (pv 0) pa_nil))) (pg_tup rfl (pgs_cons (pg_name (i := 4) sc_cut_off.nd rfl (.inl rfl)) (pgs_cons (pg_name (i := 5) sc_cut_off.nd rfl (.inl rfl)) pgs_nil))) (pss_one (ps_if (pt_cmpR op_lt (pe_op op_mulB (pe_c c_turn hr (by decide) (by rfl) (pa_cons (pv 1) (pa_cons (pv 2) (pa_cons (pv 4) pa_nil)))) (pe_c c_turn hr (by decide) (by rfl) (pa_cons (pv 1) (pa_cons (pv 2) (pa_cons (pv 5) pa_nil))))) pe_int (nomark _)) (pss_one (ps_expr (pe_bm PySem.F.plainAttrs_list PySem.F.slot_list_append PySem.F.type_list_append mt_append (pv 3) (pa_cons (pe_c c_meeting hr (by decide) (by rfl) (pa_cons (pv 1) (pa_cons (pv 2) (pa_cons (pv 4) (pa_cons (pv 5) pa_nil))))) pa_nil)))) pss_nil)))
      (pss_one (ps_ret (pe_ifExp (pt_cmpR op_gt (pe_callB call_len_seq (by rfl) B.len (by decide +kernel) (pa_cons (pv 3) pa_nil)) pe_int (nomark _)) (pe_c c_shape_of hr (by decide) (by rfl) (pa_cons (pv 3) pa_nil)) pe_non))))))
    (sns_seq (sns_ownN (i := 3) (snn_lc (sni_seq (sn_var (i := 0))).c (sng_name (i := 4)) (snt_test (sn_op snr_B (sn_call (C := C_turn) (sna_cons (sn_var (i := 1)) (sna_cons (sn_var (i := 2)) (sna_cons (sn_var (i := 4)) sna_nil)))) sn_int)) (sn_var (i := 4)) (by decide)))
      (sns_seq (sns_for (sni_seq (sn_call (C := C_edges) (sna_cons (sn_var (i := 0)) sna_nil))) (sng_tup (n := 2) (sngs_cons (sng_name (i := 4)) (sngs_cons (sng_name (i := 5)) sngs_nil))) (sns_if (snt_test (sn_op snr_B (sn_op snr_IC (sn_call (C := C_turn) (sna_cons (sn_var (i := 1)) (sna_cons (sn_var (i := 2)) (sna_cons (sn_var (i := 4)) sna_nil)))) (sn_call (C := C_turn) (sna_cons (sn_var (i := 1)) (sna_cons (sn_var (i := 2)) (sna_cons (sn_var (i := 5)) sna_nil))))) sn_int)) (sns_app (i := 3) (sn_call (C := C_meeting) (sna_cons (sn_var (i := 1)) (sna_cons (sn_var (i := 2)) (sna_cons (sn_var (i := 4)) (sna_cons (sn_var (i := 5)) sna_nil)))))) sns_nil))
      (sns_frz (i := 3) (sns_ret (sn_if (snt_test (sn_op snr_B (sn_cb snc_len (sna_cons (sn_var (i := 3)) sna_nil)) sn_int)) (sn_call (C := C_shape_of) (sna_cons (sn_var (i := 3)) sna_nil)) sn_non))))) ?_
  · exact Con.len fun _ => rfl
  · rintro ds t Q ⟨⟨S, a, b⟩, rfl, ⟨hl, hS, ha, hb⟩, q⟩
    have hl : S.length ≤ 150 := hl
    have hS : PBs 2200 S := hS
    have ha : PB 2200 a := ha
    have hb : PB 2200 b := hb
    have l : ∀ {p : Pt}, PB 2200 p → PB 100000 p := fun h => h.mono (by decide)
    refine ⟨by show (List.map dP S).length ≤ 1000; rw [List.length_map]; omega, ?_⟩
    refine lcW_filter (xs := S) (f := dP) (g := dP) (k := fun p => decide (0 ≤ sgn (crossP a b p))) (fun p hp t P1 P2 h1 h2 => ⟨(a, b, p), rfl, ⟨l ha, l hb, l (hS p hp)⟩, ?_⟩) ?_
    · show if decide (0 ≤ sgn (crossP a b p)) = true then P1 (dP p) t else P2 t
      cases h : decide (0 ≤ sgn (crossP a b p)) with
      | true => exact h1 h
      | false => exact h2 h
    · refine ⟨S, rfl, by omega, ?_⟩
      rw [List.nil_append]
      have fin : if decide ((0 : Int) < (((keptP S a b).map dP).length : Int)) = true then C_shape_of.c [.lst ((keptP S a b).map dP)] t Q else Q .non t := by
        have q : Q (dO (cutOff S a b)) t := q
        unfold cutOff at q
        rw [List.length_map]
        refine ite2 (fun h => ?_) (fun h => ?_)
        · have h' : ¬ (keptP S a b).length = 0 := by have := of_decide_eq_true h; omega
          rw [if_neg h'] at q
          refine ⟨(false, keptP S a b), rfl, ⟨?_, ?_⟩, q⟩
          · have := keptP_len (S := S) (a := a) (b := b)
            show (keptP S a b).length ≤ 400
            omega
          · exact fun p hp => (keptP_pb hS ha hb p hp).mono (by decide)
        · have h' : (keptP S a b).length = 0 := by
            have : ¬ (0 : Int) < ((keptP S a b).length : Int) := fun z => h (decide_eq_true z)
            omega
          rw [if_pos h'] at q
          exact q
      unfold keptP at fin
      rw [List.map_append] at fin
      show forW _ _ _ ((edgesP S).map dE) [Sl.dat (.tup (S.map dP)), Sl.dat (dP a), Sl.dat (dP b), Sl.own ((S.filter fun p => decide (0 ≤ sgn (crossP a b p))).map dP), Sl.no, Sl.no] t
      have hE : ∀ e ∈ edgesP S, PB 2200 e.1 ∧ PB 2200 e.2 := fun e he => ⟨hS _ (edgesP_mem he).1, hS _ (edgesP_mem he).2⟩
      have hlE := edgesP_len S
      generalize edgesP S = es at *
      have hl0 : ((S.filter fun p => decide (0 ≤ sgn (crossP a b p))).map dP).length ≤ 150 := by
        rw [List.length_map]
        exact Nat.le_trans (List.length_filter_le _ _) hl
      generalize (S.filter fun p => decide (0 ≤ sgn (crossP a b p))).map dP = acc at *
      refine (?_ : ∀ (es : List (Pt × Pt)) (acc : List D) (s4 s5 : Sl), acc.length + es.length ≤ 300 → (∀ e ∈ es, PB 2200 e.1 ∧ PB 2200 e.2) →
        (if decide ((0 : Int) < ((acc ++ ((es.filter fun e => decide (sgn (crossP a b e.1) * sgn (crossP a b e.2) < 0)).map fun e => meetP a b e.1 e.2).map dP).length : Int)) = true then C_shape_of.c [.lst (acc ++ ((es.filter fun e => decide (sgn (crossP a b e.1) * sgn (crossP a b e.2) < 0)).map fun e => meetP a b e.1 e.2).map dP)] t Q else Q .non t) →
        forW _ _ _ (es.map dE) [Sl.dat (.tup (S.map dP)), Sl.dat (dP a), Sl.dat (dP b), Sl.own acc, s4, s5] t) es acc Sl.no Sl.no (by omega) hE fin
      intro es
      induction es with
      | nil =>
        intro acc s4 s5 _ _ fin
        rw [List.filter_nil, List.map_nil, List.map_nil, List.append_nil] at fin
        exact fin
      | cons e es ih =>
        intro acc s4 s5 hn hE fin
        have hn : acc.length + (es.length + 1) ≤ 300 := hn
        obtain ⟨h1, h2⟩ := hE e List.mem_cons_self
        have hE' := fun e he => hE e (List.mem_cons_of_mem _ he)
        refine ⟨(a, b, e.1), rfl, ⟨l ha, l hb, l h1⟩, (a, b, e.2), rfl, ⟨l ha, l hb, l h2⟩, mulB (sgnB _) (sgnB _) (by decide), ?_⟩
        show if decide (sgn (crossP a b e.1) * sgn (crossP a b e.2) < 0) = true then _ else _
        refine ite2 (fun h => ?_) (fun h => ?_)
        · refine ⟨(a, b, e.1, e.2), rfl, ⟨cr4_ne (of_decide_eq_true h), ha, hb, h1, h2⟩, by omega, ?_⟩
          refine ih (acc ++ [dP (meetP a b e.1 e.2)]) (Sl.dat (dP e.1)) (Sl.dat (dP e.2)) (by simp only [List.length_append, List.length_singleton]; omega) hE' ?_
          rw [List.filter_cons, if_pos h, List.map_cons, List.map_cons] at fin
          rw [List.append_assoc]
          exact fin
        · refine ih acc (Sl.dat (dP e.1)) (Sl.dat (dP e.2)) (by omega) hE' ?_
          rw [List.filter_cons, if_neg h] at fin
          exact fin
def C_belongs : Con := Con.of (fun p : List Pt × Pt => [.tup (p.1.map dP), dP p.2]) (fun p => p.1.length ≤ 400 ∧ PBs 100000 p.1 ∧ PB 100000 p.2) (fun p => .bl (belongsP p.1 p.2))
abbrev s_belongs : Stmt := topS 31
abbrev N_belongs : List Str := ["shape", "one", "a", "b"]
theorem sc_belongs : FnScope ["shape", "one", "a", "b"] ["shape", "one"] (defScope s_belongs) := ⟨rfl, rfl, rfl, by decide +kernel, rfl, by decide +kernel, by decide +kernel⟩
theorem ok_belongs (N : Dn K mg "belongs" s_belongs ["shape", "one"]) (B : Bt mg) (c_turn : Cal P w K mg base 2 "turn" (LSp K C_turn) []) (c_edges : Cal P w K mg base 1 "edges" (LSp K C_edges) []) : Cal P w K mg base 3 "belongs" (LSp K C_belongs) [] := by
  refine N.ok sc_belongs ?_ (fun f cdv A outer s H E hr => (pss_one (ps_ret (pe_callB (cr_all rfl) (by rfl) B.all (by decide +kernel) (pa_cons (pe_lc (own := [("a", 2), ("b", 3)]) rfl sc_belongs.nd (pi_seq (pe_c c_edges hr (by decide) (by rfl) (pa_cons (pv 0) pa_nil))) (blkOk_by (own := [("a", 2), ("b", 3)]) (N := N_belongs) (sc := defScope s_belongs) (by decide +kernel)) (fun _ _ _ _ _ => (pg_tup rfl (pgs_cons (pg_name (i := 2) sc_belongs.nd rfl (.inl rfl)) (pgs_cons (pg_name (i := 3) sc_belongs.nd rfl (.inl rfl)) pgs_nil)))) (fun _ _ _ _ _ => pts_nil) (fun _ _ _ _ _ => (pe_cmpR op_ge (pe_c c_turn hr (by decide) (by rfl) (pa_cons (pv 2) (pa_cons (pv 3) (pa_cons (pv 1) pa_nil)))) pe_int (nomark _)))) pa_nil)))))
    (sns_ret (sn_cb snc_all (sna_cons (sn_lc (sni_seq (sn_call (C := C_edges) (sna_cons (sn_var (i := 0)) sna_nil))).c (sng_tup (n := 2) (sngs_cons (sng_name (i := 2)) (sngs_cons (sng_name (i := 3)) sngs_nil))) snt_yes (sn_op snr_B (sn_call (C := C_turn) (sna_cons (sn_var (i := 2)) (sna_cons (sn_var (i := 3)) (sna_cons (sn_var (i := 1)) sna_nil)))) sn_int) (by decide)) sna_nil))) ?_
  · exact Con.len fun _ => rfl
  · rintro ds t Q ⟨⟨S, r⟩, rfl, ⟨hl, hS, hr⟩, q⟩
    have hl : S.length ≤ 400 := hl
    have hS : PBs 100000 S := hS
    have hr : PB 100000 r := hr
    refine ⟨S, rfl, hl, ?_⟩
    refine ⟨by show (List.map dE (edgesP S)).length ≤ 1000; rw [List.length_map, edgesP_len]; omega, ?_⟩
    refine lcW_all (xs := edgesP S) (f := dE) (g := fun e => D.bl (decide (0 ≤ sgn (crossP e.1 e.2 r)))) (fun e he t P hp => ?_) ?_
    · refine ⟨(e.1, e.2, r), rfl, ⟨hS _ (edgesP_mem he).1, hS _ (edgesP_mem he).2, hr⟩, ?_⟩
      exact hp
    · refine ⟨(edgesP S).map fun e => decide (0 ≤ sgn (crossP e.1 e.2 r)), ?_, ?_⟩
      · rw [List.nil_append, List.map_map]
        rfl
      · have q : ∀ b, b = belongsP S r → Q (.bl b) t := by
          rintro _ rfl
          exact q
        refine q _ ?_
        show List.all (List.map _ _) id = _
        rw [List.all_map]
        rfl
def dLs (Ss : List (List Pt)) : D := .tup (Ss.map fun S => .tup (S.map dP))
def C_in_area : Con := Con.of (fun p : List (List Pt) × Pt => [dLs p.1, dP p.2]) (fun p => p.1.length ≤ 400 ∧ (∀ S ∈ p.1, S.length ≤ 400 ∧ PBs 100000 S) ∧ PB 100000 p.2) (fun p => .bl (inArea p.1 p.2))
abbrev s_in_area : Stmt := topS 32
abbrev N_in_area : List Str := ["shapes", "one", "shape"]
theorem sc_in_area : FnScope ["shapes", "one", "shape"] ["shapes", "one"] (defScope s_in_area) := ⟨rfl, rfl, rfl, by decide +kernel, rfl, by decide +kernel, by decide +kernel⟩
theorem ok_in_area (N : Dn K mg "in_area" s_in_area ["shapes", "one"]) (B : Bt mg) (c_belongs : Cal P w K mg base 3 "belongs" (LSp K C_belongs) []) : Cal P w K mg base 4 "in_area" (LSp K C_in_area) [] := by
  refine N.ok sc_in_area ?_ (fun f cdv A outer s H E hr => (pss_one (ps_ret (pe_callB (cr_any rfl) (by rfl) B.any (by decide +kernel) (pa_cons (pe_lc (own := [("shape", 2)]) rfl sc_in_area.nd (pi_seq (pv 0)) (blkOk_by (own := [("shape", 2)]) (N := N_in_area) (sc := defScope s_in_area) (by decide +kernel)) (fun _ _ _ _ _ => (pg_name (i := 2) sc_in_area.nd rfl (.inl rfl))) (fun _ _ _ _ _ => pts_nil) (fun _ _ _ _ _ => (pe_c c_belongs hr (by decide) (by rfl) (pa_cons (pv 2) (pa_cons (pv 1) pa_nil))))) pa_nil)))))
    (sns_ret (sn_cb snc_any (sna_cons (sn_lc (sni_seq (sn_var (i := 0))).c (sng_name (i := 2)) snt_yes (sn_call (C := C_belongs) (sna_cons (sn_var (i := 2)) (sna_cons (sn_var (i := 1)) sna_nil))) (by decide)) sna_nil))) ?_
  · exact Con.len fun _ => rfl
  · rintro ds t Q ⟨⟨Ss, r⟩, rfl, ⟨hl, hS, hr⟩, q⟩
    have hl : Ss.length ≤ 400 := hl
    refine ⟨by rw [List.length_map]; show Ss.length ≤ 1000; omega, ?_⟩
    refine lcW_all (xs := Ss) (f := fun S => .tup (S.map dP)) (g := fun S => D.bl (belongsP S r)) (fun S hS' t P hp => ?_) ?_
    · exact ⟨(S, r), rfl, ⟨(hS S hS').1, (hS S hS').2, hr⟩, hp⟩
    · refine ⟨Ss.map fun S => belongsP S r, ?_, ?_⟩
      · rw [List.nil_append, List.map_map]
        rfl
      · have q : ∀ b, b = inArea Ss r → Q (.bl b) t := by
          rintro _ rfl
          exact q
        refine q _ ?_
        show List.any (List.map _ _) id = _
        rw [List.any_map]
        unfold inArea
        rfl
end
end DL


/-! ## W4 -/
set_option maxRecDepth 100000
/-! roots, sides of a piece -/
namespace DL
open PySem PySem.Spec PyProof.Rows L2
open C8 (Cal pe_c pe_gc)
open W15
section
variable {P : Program} {w : World} {K : PySem.W.Frag} {mg : Str → Option Value} {base : Heap}
theorem sq_nn (x : Int) : 0 ≤ x * x := by
  rcases Int.le_total 0 x with h | h
  · exact Int.mul_nonneg h h
  · exact Int.mul_nonneg_of_nonpos_of_nonpos h h
theorem div_floor {g n : Int} (hg : 0 < g) : n.fdiv g * g ≤ n ∧ n < (n.fdiv g + 1) * g := by
  rw [Int.fdiv_eq_ediv_of_nonneg n (by omega)]
  have h1 := Int.emod_add_mul_ediv n g
  have h2 := Int.emod_nonneg n (show g ≠ 0 by omega)
  have h3 := Int.emod_lt_of_pos n hg
  have h4 : g * (n / g) = n / g * g := Int.mul_comm _ _
  rw [Int.add_mul]
  omega
/-- Newton's step stays at or above the root -/
theorem newton_ge {k g : Int} (hk : 0 ≤ k) (hg : 0 < g) : k ≤ (g + (k * k).fdiv g).fdiv 2 := by
  obtain ⟨h1, h2⟩ := div_floor (n := k * k) hg
  have h3 : 2 * k - g ≤ (k * k).fdiv g := by
    apply Int.le_of_lt_add_one
    apply Int.lt_of_mul_lt_mul_right (a := g) _ (Int.le_of_lt hg)
    refine Int.lt_of_le_of_lt ?_ h2
    have := sq_nn (k - g)
    rw [Int.sub_mul, Int.mul_sub, Int.mul_sub] at this
    rw [Int.sub_mul]
    have e1 : g * k = k * g := Int.mul_comm _ _
    have e2 : 2 * k * g = 2 * (k * g) := Int.mul_assoc _ _ _
    omega
  rw [Int.fdiv_eq_ediv_of_nonneg _ (by decide)]
  omega
theorem newton_end {k g : Int} (hk : 0 ≤ k) (hg : 0 < g) (h : k ≤ g) (he : ¬ (g + (k * k).fdiv g).fdiv 2 < g) : g = k := by
  obtain ⟨h1, h2⟩ := div_floor (n := k * k) hg
  rw [Int.fdiv_eq_ediv_of_nonneg _ (by decide)] at he
  have h3 : g ≤ (k * k).fdiv g := by omega
  have h4 : g * g ≤ k * k := Int.le_trans (Int.mul_le_mul_of_nonneg_right h3 (Int.le_of_lt hg)) h1
  apply Int.le_antisymm _ h
  apply Int.le_of_lt_add_one
  rcases Int.lt_or_le k g with hl | hl
  · have := Int.mul_lt_mul' h hl hk hg
    omega
  · omega
def C_whole_root : Con := Con.of (fun k : Int => [.int (k * k)]) (fun k => 0 ≤ k ∧ Bd 13000 (k * k)) (fun k => .int k)
abbrev s_whole_root : Stmt := topS 7
abbrev N_whole_root : List Str := ["number", "guess", "better"]
theorem sc_whole_root : FnScope ["number", "guess", "better"] ["number"] (defScope s_whole_root) := ⟨rfl, rfl, rfl, by decide +kernel, rfl, by decide +kernel, by decide +kernel⟩
theorem ok_whole_root (N : Dn K mg "whole_root" s_whole_root ["number"]) : Cal P w K mg base 1 "whole_root" (LSp K C_whole_root) [] := by
  refine N.ok sc_whole_root ?_ (fun f cdv A outer s H E hr => (pss_cons (ps_if (pt_cmpR op_lt (pv 0) pe_int (nomark _)) (pss_one (ps_ret (pv 0))) pss_nil)
      (pss_cons (ps_set (i := 1) sc_whole_root.nd rfl (.inl rfl) (pv 0))
      (pss_cons (ps_set (i := 2) sc_whole_root.nd rfl (.inl rfl) (pe_op op_fdivB (pe_op op_addA (pv 1) pe_int) pe_int))
      (pss_cons (ps_while PassesOwn.never (pt_cmpR op_lt (pv 2) (pv 1) (nomark _)) (pss_cons (ps_set (i := 1) sc_whole_root.nd rfl (.inl rfl) (pv 2))
      (pss_one (ps_set (i := 2) sc_whole_root.nd rfl (.inl rfl) (pe_op op_fdivB (pe_op op_addA (pv 1) (pe_op op_fdivB (pv 0) (pv 1))) pe_int)))))
      (pss_one (ps_ret (pv 1))))))))
    (sns_seq (sns_if (snt_test (sn_op snr_B (sn_var (i := 0)) sn_int)) (sns_ret (sn_var (i := 0))) sns_nil)
      (sns_seq (sns_asg (sn_var (i := 0)) (sng_name (i := 1)))
      (sns_seq (sns_asg (sn_op snr_IC (sn_op snr_add (sn_var (i := 1)) sn_int) sn_int) (sng_name (i := 2)))
      (sns_seq (sns_while (snt_test (sn_op snr_B (sn_var (i := 2)) (sn_var (i := 1)))) (sns_seq (sns_asg (sn_var (i := 2)) (sng_name (i := 1)))
      (sns_asg (sn_op snr_IC (sn_op snr_add (sn_var (i := 1)) (sn_op snr_IC (sn_var (i := 0)) (sn_var (i := 1)))) sn_int) (sng_name (i := 2)))))
      (sns_ret (sn_var (i := 1))))))) ?_
  · exact Con.len fun _ => rfl
  · rintro ds t Q ⟨k, rfl, ⟨hk, hB⟩, q⟩
    have hk : 0 ≤ k := hk
    have q : Q (.int k) t := q
    show if decide (k * k < 2) = true then Q (.int (k * k)) t else _
    refine ite2 (fun h => ?_) (fun h => ?_)
    · have h' : k * k < 2 := of_decide_eq_true h
      have : k * k = k := by
        have : k < 2 := by
          rcases Int.lt_or_le k 2 with z | z
          · exact z
          · have := Int.mul_le_mul z z (by decide) hk
            omega
        have : k = 0 ∨ k = 1 := by omega
        rcases this with rfl | rfl <;> rfl
      rw [this]
      exact q
    · have h' : ¬ k * k < 2 := fun z => h (decide_eq_true z)
      have k1 : 1 < k := by
        rcases Int.lt_or_le 1 k with z | z
        · exact z
        · have : k = 0 ∨ k = 1 := by omega
          rcases this with rfl | rfl <;> exact absurd (by decide) h'
      have kk : k ≤ k * k := by
        have := Int.mul_le_mul_of_nonneg_right (show (1 : Int) ≤ k by omega) hk
        omega
      refine ⟨⟨by decide, .inl ⟨2, by unfold Bd; decide, by decide⟩⟩, (k * k).toNat + 1, ?_⟩
      refine (?_ : ∀ (n : Nat) (g b : Int), b = (g + (k * k).fdiv g).fdiv 2 → k ≤ g → g ≤ k * k → g.toNat < n → whW _ _ _ n [Sl.dat (.int (k * k)), Sl.dat (.int g), Sl.dat (.int b)] t) ((k * k).toNat + 1) (k * k) _ ?_ kk (Int.le_refl _) (Nat.lt_succ_self _)
      · intro n
        induction n with
        | zero => intro g b _ _ _ h; exact absurd h (Nat.not_lt_zero _)
        | succ n ih =>
          intro g b hb h1 h2 h3
          show if decide (b < g) = true then _ else Q (.int g) t
          refine ite2 (fun h => ?_) (fun h => ?_)
          · have h4 := of_decide_eq_true h
            have hge := newton_ge hk (show 0 < g by omega)
            rw [← hb] at hge
            refine ⟨⟨by show b ≠ 0; omega, .inr ⟨13000, hB, by decide⟩⟩, ⟨by decide, .inl ⟨2, by unfold Bd; decide, by decide⟩⟩, ?_⟩
            exact ih b _ rfl hge (by omega) (by omega)
          · have h4 : ¬ b < g := fun z => h (decide_eq_true z)
            rw [hb] at h4
            rw [newton_end hk (by omega) h1 h4]
            exact q
      · have e : (k * k).fdiv (k * k) = 1 := by
          rw [Int.fdiv_eq_ediv_of_nonneg _ (by omega), Int.ediv_self (by omega)]
        rw [e]
/-- the numbers of a square -/
theorem sq_num (q : Rat) : (q * q).num = q.num * q.num ∧ (q * q).den = q.den * q.den := by
  have h : q * q = q ^ 2 := by grind
  rw [h, Rat.num_pow, Rat.den_pow, Int.pow_succ, Int.pow_succ, Int.pow_zero, Int.one_mul, Nat.pow_succ, Nat.pow_succ, Nat.pow_zero, Nat.one_mul]
  exact ⟨rfl, rfl⟩
def C_root : Con := Con.of (fun q : Rat => [dR (q * q)]) (fun q => 0 ≤ q ∧ RB 6000 q) (fun q => dR q)
abbrev s_root : Stmt := topS 8
abbrev N_root : List Str := ["one", "top", "bottom"]
theorem sc_root : FnScope ["one", "top", "bottom"] ["one"] (defScope s_root) := ⟨rfl, rfl, rfl, by decide +kernel, rfl, by decide +kernel, by decide +kernel⟩
theorem ok_root (N : Dn K mg "root" s_root ["one"]) (c_whole_root : Cal P w K mg base 1 "whole_root" (LSp K C_whole_root) []) : Cal P w K mg base 2 "root" (LSp K C_root) [] := by
  refine N.ok sc_root ?_ (fun f cdv A outer s H E hr => (pss_cons (ps_if (pt_cmpR op_lt (pe_ix ix_A (pv 0) pe_int (fun _ _ => rfl)) pe_int (nomark _)) (pss_one (ps_ret pe_non)) pss_nil)
      (pss_cons (ps_par (i := 1) (j := 2) rfl sc_root.nd rfl rfl (by decide) rfl rfl (pa_cons (pe_c c_whole_root hr (by decide) (by rfl) (pa_cons (pe_ix ix_A (pv 0) pe_int (fun _ _ => rfl)) pa_nil)) (pa_cons (pe_c c_whole_root hr (by decide) (by rfl) (pa_cons (pe_ix ix_A (pv 0) pe_int (fun _ _ => rfl)) pa_nil)) pa_nil)) (by rfl))
      (pss_cons (ps_if (PW.pt (pw_or (pt_cmpR (op_neA hr.units) (pe_op op_mulB (pv 1) (pv 1)) (pe_ix ix_A (pv 0) pe_int (fun _ _ => rfl)) (nomark _)) (pw_or1 (pt_cmpR (op_neA hr.units) (pe_op op_mulB (pv 2) (pv 2)) (pe_ix ix_A (pv 0) pe_int (fun _ _ => rfl)) (nomark _))))) (pss_one (ps_ret pe_non)) pss_nil)
      (pss_one (ps_ret (pe_tup (pa_cons (pv 1) (pa_cons (pv 2) pa_nil)))))))))
    (sns_seq (sns_if (snt_test (sn_op snr_B (sn_op snr_ix (sn_var (i := 0)) sn_int) sn_int)) (sns_ret sn_non) sns_nil)
      (sns_seq (sns_par (i := 1) (j := 2) (sna_cons (sn_call (C := C_whole_root) (sna_cons (sn_op snr_ix (sn_var (i := 0)) sn_int) sna_nil)) (sna_cons (sn_call (C := C_whole_root) (sna_cons (sn_op snr_ix (sn_var (i := 0)) sn_int) sna_nil)) sna_nil)))
      (sns_seq (sns_if (snt_or (snt_test (sn_op snr_ne (sn_op snr_IC (sn_var (i := 1)) (sn_var (i := 1))) (sn_op snr_ix (sn_var (i := 0)) sn_int))) (snt_test (sn_op snr_ne (sn_op snr_IC (sn_var (i := 2)) (sn_var (i := 2))) (sn_op snr_ix (sn_var (i := 0)) sn_int)))) (sns_ret sn_non) sns_nil)
      (sns_ret (sn_tup (sna_cons (sn_var (i := 1)) (sna_cons (sn_var (i := 2)) sna_nil))))))) ?_
  · exact Con.len fun _ => rfl
  · rintro ds t Q ⟨q, rfl, ⟨h0, hB⟩, hq⟩
    have h0 : 0 ≤ q.num := Rat.num_nonneg.mpr h0
    obtain ⟨e1, e2⟩ := sq_num q
    have e2' : ((q * q).den : Int) = (q.den : Int) * (q.den : Int) := by rw [e2, Int.natCast_mul]
    have hn : (q * q).num = q.num * q.num := e1
    show if decide ((q * q).num < 0) = true then _ else _
    have nn : ¬ (q * q).num < 0 := by
      rw [e1]
      have := sq_nn q.num
      omega
    rw [decide_eq_false nn]
    refine iteF ?_
    have enc : ([D.int (q * q).num] : List D) = [D.int (q.num * q.num)] := by rw [e1]
    have enc2 : ([D.int ((q * q).den : Int)] : List D) = [D.int ((q.den : Int) * (q.den : Int))] := by rw [e2']
    refine ⟨q.num, enc, ⟨h0, (hB.num.mul hB.num).mono (by decide)⟩, (q.den : Int), enc2, ⟨by omega, (hB.den.mul hB.den).mono (by decide)⟩, ?_⟩
    refine ⟨mulB hB.num hB.num (by decide), ?_⟩
    show if (!decide (q.num * q.num = (q * q).num)) = true then _ else _
    rw [decide_eq_true e1.symm]
    refine iteF ⟨mulB hB.den hB.den (by decide), ?_⟩
    show if (!decide ((q.den : Int) * (q.den : Int) = ((q * q).den : Int))) = true then _ else _
    rw [decide_eq_true e2'.symm]
    exact iteF hq
def C_contrary : Con := Con.of (fun q : Rat => [dR q]) (fun _ => True) (fun q => dR (-q))
abbrev s_contrary : Stmt := topS 34
abbrev N_contrary : List Str := ["one"]
theorem sc_contrary : FnScope ["one"] ["one"] (defScope s_contrary) := ⟨rfl, rfl, rfl, by decide +kernel, rfl, by decide +kernel, by decide +kernel⟩
theorem ok_contrary (N : Dn K mg "contrary" s_contrary ["one"]) : Cal P w K mg base 1 "contrary" (LSp K C_contrary) [] := by
  refine N.ok sc_contrary ?_ (fun f cdv A outer s H E hr => (pss_one (ps_ret (pe_tup (pa_cons (pe_op op_sub pe_int (pe_ix ix_A (pv 0) pe_int (fun _ _ => rfl))) (pa_cons (pe_ix ix_A (pv 0) pe_int (fun _ _ => rfl)) pa_nil))))))
    (sns_ret (sn_tup (sna_cons (sn_op snr_I sn_int (sn_op snr_ix (sn_var (i := 0)) sn_int)) (sna_cons (sn_op snr_ix (sn_var (i := 0)) sn_int) sna_nil)))) ?_
  · exact Con.len fun _ => rfl
  · rintro ds t Q ⟨q, rfl, _, hq⟩
    show Q (.tup [.int (0 - q.num), .int (q.den : Int)]) t
    rw [Int.zero_sub]
    exact hq
end
end DL


/-! ## W5 -/
set_option maxRecDepth 100000
/-! widening: sides, strips, twelves -/
namespace DL
open PySem PySem.Spec PyProof.Rows L2
open C8 (Cal pe_c pe_gc)
open W15
section
variable {P : Program} {w : World} {K : PySem.W.Frag} {mg : Str → Option Value} {base : Heap}
theorem num_div' (q : Rat) : (q.num : Rat) / (((q.den : Int)) : Rat) = q := by
  rw [Rat.intCast_natCast]
  exact num_div q
theorem addP_pb {n m k : Nat} {p : Pt} {x y : Rat} (hp : PB n p) (hx : RB m x) (hy : RB k y) : PB (n + m + k + 1) (addP p x y) := by
  have d1 := den_pos x
  have d2 := den_pos y
  refine pb_tri (X := p.X * x.den * y.den + x.num * y.den * p.Z) (Y := p.Y * x.den * y.den + y.num * x.den * p.Z) (d := p.Z * x.den * y.den) (Int.mul_pos (Int.mul_pos p.Zpos d1) d2) ?_ ?_ ?_ ?_ ?_
  · rw [Rat.intCast_add, Rat.intCast_mul, Rat.intCast_mul, Rat.intCast_mul, Rat.intCast_mul, Rat.intCast_mul, Rat.intCast_mul, p.ex, num_eq x]
    simp only [addP, Rat.intCast_natCast]
    grind
  · rw [Rat.intCast_add, Rat.intCast_mul, Rat.intCast_mul, Rat.intCast_mul, Rat.intCast_mul, Rat.intCast_mul, Rat.intCast_mul, p.ey, num_eq y]
    simp only [addP, Rat.intCast_natCast]
    grind
  · exact ((hp.X.mul hx.den).mul hy.den).addS (((hx.num.mul hy.den).mul hp.Z).mono (by omega))
  · exact ((hp.Y.mul hx.den).mul hy.den).addS (((hy.num.mul hx.den).mul hp.Z).mono (by omega))
  · exact ((hp.Z.mul hx.den).mul hy.den).mono (by omega)
/-- two fractions -/
def dV (v : V2) : D := .tup [dR v.1, dR v.2]
def VB (n : Nat) (v : V2) : Prop := RB n v.1 ∧ RB n v.2
def C_moved_by : Con := Con.of (fun p : Pt × V2 => [dP p.1, dV p.2]) (fun p => PB 4000 p.1 ∧ VB 4000 p.2) (fun p => dP (addP p.1 p.2.1 p.2.2))
abbrev s_moved_by : Stmt := topS 36
abbrev N_moved_by : List Str := ["one", "some"]
theorem sc_moved_by : FnScope ["one", "some"] ["one", "some"] (defScope s_moved_by) := ⟨rfl, rfl, rfl, by decide +kernel, rfl, by decide +kernel, by decide +kernel⟩
theorem ok_moved_by (N : Dn K mg "moved_by" s_moved_by ["one", "some"]) (c_shifted : Cal P w K mg base 3 "shifted" (LSp K C_shifted) []) : Cal P w K mg base 4 "moved_by" (LSp K C_moved_by) [] := by
  refine N.ok sc_moved_by ?_ (fun f cdv A outer s H E hr => (pss_one (ps_ret (pe_c c_shifted hr (by decide) (by rfl) (pa_cons (pv 0) (pa_cons (pe_ix ix_A (pv 1) pe_int (fun _ _ => rfl)) (pa_cons (pe_ix ix_A (pv 1) pe_int (fun _ _ => rfl)) pa_nil)))))))
    (sns_ret (sn_call (C := C_shifted) (sna_cons (sn_var (i := 0)) (sna_cons (sn_op snr_ix (sn_var (i := 1)) sn_int) (sna_cons (sn_op snr_ix (sn_var (i := 1)) sn_int) sna_nil))))) ?_
  · exact Con.len fun _ => rfl
  · rintro ds t Q ⟨⟨p, x, y⟩, rfl, ⟨hp, hx, hy⟩, q⟩
    refine ⟨(p, (x.num, (x.den : Int)), (y.num, (y.den : Int))), rfl, ⟨den_pos x, den_pos y, hp, hx.num, hx.den, hy.num, hy.den⟩, ?_⟩
    show Q (dP (addP p ((x.num : Rat) / (((x.den : Int)) : Rat)) ((y.num : Rat) / (((y.den : Int)) : Rat)))) t
    rw [num_div', num_div']
    exact q
def C_to_left : Con := Con.of (fun p : Pt × V2 => [dP p.1, dV p.2]) (fun p => PB 4000 p.1 ∧ VB 4000 p.2) (fun p => dP (toL p.1 p.2))
abbrev s_to_left : Stmt := topS 37
abbrev N_to_left : List Str := ["one", "some"]
theorem sc_to_left : FnScope ["one", "some"] ["one", "some"] (defScope s_to_left) := ⟨rfl, rfl, rfl, by decide +kernel, rfl, by decide +kernel, by decide +kernel⟩
theorem ok_to_left (N : Dn K mg "to_left" s_to_left ["one", "some"]) (c_moved_by : Cal P w K mg base 4 "moved_by" (LSp K C_moved_by) []) : Cal P w K mg base 5 "to_left" (LSp K C_to_left) [] := by
  refine N.ok sc_to_left ?_ (fun f cdv A outer s H E hr => (pss_one (ps_ret (pe_c c_moved_by hr (by decide) (by rfl) (pa_cons (pv 0) (pa_cons (pv 1) pa_nil))))))
    (sns_ret (sn_call (C := C_moved_by) (sna_cons (sn_var (i := 0)) (sna_cons (sn_var (i := 1)) sna_nil)))) ?_
  · exact Con.len fun _ => rfl
  · rintro ds t Q ⟨⟨p, v⟩, rfl, hp, q⟩
    exact ⟨(p, v), rfl, hp, q⟩
def C_to_right : Con := Con.of (fun p : Pt × V2 => [dP p.1, dV p.2]) (fun p => PB 4000 p.1 ∧ VB 4000 p.2) (fun p => dP (toR p.1 p.2))
abbrev s_to_right : Stmt := topS 38
abbrev N_to_right : List Str := ["one", "some"]
theorem sc_to_right : FnScope ["one", "some"] ["one", "some"] (defScope s_to_right) := ⟨rfl, rfl, rfl, by decide +kernel, rfl, by decide +kernel, by decide +kernel⟩
theorem ok_to_right (N : Dn K mg "to_right" s_to_right ["one", "some"]) (c_moved_by : Cal P w K mg base 4 "moved_by" (LSp K C_moved_by) []) (c_contrary : Cal P w K mg base 1 "contrary" (LSp K C_contrary) []) : Cal P w K mg base 5 "to_right" (LSp K C_to_right) [] := by
  refine N.ok sc_to_right ?_ (fun f cdv A outer s H E hr => (pss_one (ps_ret (pe_c c_moved_by hr (by decide) (by rfl) (pa_cons (pv 0) (pa_cons (pe_tup (pa_cons (pe_c c_contrary hr (by decide) (by rfl) (pa_cons (pe_ix ix_A (pv 1) pe_int (fun _ _ => rfl)) pa_nil)) (pa_cons (pe_c c_contrary hr (by decide) (by rfl) (pa_cons (pe_ix ix_A (pv 1) pe_int (fun _ _ => rfl)) pa_nil)) pa_nil))) pa_nil))))))
    (sns_ret (sn_call (C := C_moved_by) (sna_cons (sn_var (i := 0)) (sna_cons (sn_tup (sna_cons (sn_call (C := C_contrary) (sna_cons (sn_op snr_ix (sn_var (i := 1)) sn_int) sna_nil)) (sna_cons (sn_call (C := C_contrary) (sna_cons (sn_op snr_ix (sn_var (i := 1)) sn_int) sna_nil)) sna_nil))) sna_nil)))) ?_
  · exact Con.len fun _ => rfl
  · rintro ds t Q ⟨⟨p, v⟩, rfl, ⟨hp, hx, hy⟩, q⟩
    exact ⟨v.1, rfl, trivial, v.2, rfl, trivial, (p, (-v.1, -v.2)), rfl, ⟨hp, hx.neg, hy.neg⟩, q⟩
def dOff (p : Pt × Pt × Pt × Rat × Rat) : List D := [dP p.1, dP p.2.1, dR p.2.2.2.2]
theorem pc_sq {a b u : Pt} {L : Rat} (c : Pc a b u L) : sqd a b = L * L := by
  have h1 := c.ex
  have h2 := c.ey
  have : sqd a b = L * L * (u.x * u.x + u.y * u.y) := by
    unfold sqd
    grind
  rw [this, c.one, Rat.mul_one]
theorem off_vb {u : Pt} {h : Rat} {n m : Nat} (hu : RB n u.x ∧ RB n u.y) (hh : RB m h) : VB (m + n) (offP u h) := ⟨(hh.mul hu.2).neg, hh.mul hu.1⟩
def C_off : Con := Con.of dOff (fun p => Pc p.1 p.2.1 p.2.2.1 p.2.2.2.1 ∧ RB 20 p.2.2.2.2) (fun p => dV (offP p.2.2.1 p.2.2.2.2))
abbrev s_off : Stmt := topS 35
abbrev N_off : List Str := ["a", "b", "half", "long", "x", "y"]
theorem sc_off : FnScope ["a", "b", "half", "long", "x", "y"] ["a", "b", "half"] (defScope s_off) := ⟨rfl, rfl, rfl, by decide +kernel, rfl, by decide +kernel, by decide +kernel⟩
theorem ok_off (N : Dn K mg "off" s_off ["a", "b", "half"]) (c_root : Cal P w K mg base 2 "root" (LSp K C_root) []) (c_over : Cal P w K mg base 3 "over" (LSp K C_over) []) (c_squared : Cal P w K mg base 3 "squared" (LSp K C_squared) []) (c_less : Cal P w K mg base 3 "less" (LSp K C_less) []) (c_contrary : Cal P w K mg base 1 "contrary" (LSp K C_contrary) []) (c_times : Cal P w K mg base 3 "times" (LSp K C_times) []) (c_across : Cal P w K mg base 3 "across" (LSp K C_across) []) (c_up : Cal P w K mg base 3 "up" (LSp K C_up) []) : Cal P w K mg base 4 "off" (LSp K C_off) [] := by
  refine N.ok sc_off ?_ (fun f cdv A outer s H E hr => (pss_cons (ps_set (i := 3) sc_off.nd rfl (.inl rfl) (pe_c c_root hr (by decide) (by rfl) (pa_cons (pe_c c_squared hr (by decide) (by rfl) (pa_cons (pv 0) (pa_cons (pv 1) pa_nil))) pa_nil)))
      (pss_cons (ps_set (i := 4) sc_off.nd rfl (.inl rfl) (pe_c c_over hr (by decide) (by rfl) (pa_cons (pe_c c_less hr (by decide) (by rfl) (pa_cons (pe_c c_across hr (by decide) (by rfl) (pa_cons (pv 1) pa_nil)) (pa_cons (pe_c c_across hr (by decide) (by rfl) (pa_cons (pv 0) pa_nil)) pa_nil))) (pa_cons (pv 3) pa_nil))))
      (pss_cons (ps_set (i := 5) sc_off.nd rfl (.inl rfl) (pe_c c_over hr (by decide) (by rfl) (pa_cons (pe_c c_less hr (by decide) (by rfl) (pa_cons (pe_c c_up hr (by decide) (by rfl) (pa_cons (pv 1) pa_nil)) (pa_cons (pe_c c_up hr (by decide) (by rfl) (pa_cons (pv 0) pa_nil)) pa_nil))) (pa_cons (pv 3) pa_nil))))
      (pss_one (ps_ret (pe_tup (pa_cons (pe_c c_contrary hr (by decide) (by rfl) (pa_cons (pe_c c_times hr (by decide) (by rfl) (pa_cons (pv 2) (pa_cons (pv 5) pa_nil))) pa_nil)) (pa_cons (pe_c c_times hr (by decide) (by rfl) (pa_cons (pv 2) (pa_cons (pv 4) pa_nil))) pa_nil)))))))))
    (sns_seq (sns_asg (sn_call (C := C_root) (sna_cons (sn_call (C := C_squared) (sna_cons (sn_var (i := 0)) (sna_cons (sn_var (i := 1)) sna_nil))) sna_nil)) (sng_name (i := 3)))
      (sns_seq (sns_asg (sn_call (C := C_over) (sna_cons (sn_call (C := C_less) (sna_cons (sn_call (C := C_across) (sna_cons (sn_var (i := 1)) sna_nil)) (sna_cons (sn_call (C := C_across) (sna_cons (sn_var (i := 0)) sna_nil)) sna_nil))) (sna_cons (sn_var (i := 3)) sna_nil))) (sng_name (i := 4)))
      (sns_seq (sns_asg (sn_call (C := C_over) (sna_cons (sn_call (C := C_less) (sna_cons (sn_call (C := C_up) (sna_cons (sn_var (i := 1)) sna_nil)) (sna_cons (sn_call (C := C_up) (sna_cons (sn_var (i := 0)) sna_nil)) sna_nil))) (sna_cons (sn_var (i := 3)) sna_nil))) (sng_name (i := 5)))
      (sns_ret (sn_tup (sna_cons (sn_call (C := C_contrary) (sna_cons (sn_call (C := C_times) (sna_cons (sn_var (i := 2)) (sna_cons (sn_var (i := 5)) sna_nil))) sna_nil)) (sna_cons (sn_call (C := C_times) (sna_cons (sn_var (i := 2)) (sna_cons (sn_var (i := 4)) sna_nil))) sna_nil))))))) ?_
  · exact Con.len fun _ => rfl
  · rintro ds t Q ⟨⟨a, b, u, L, h⟩, rfl, ⟨c, hh⟩, q⟩
    have c : Pc a b u L := c
    have hh : RB 20 h := hh
    have hL : L ≠ 0 := by have := c.pos; grind
    have ex := c.ex
    have ey := c.ey
    have xB : RB 200 (b.x - a.x) := (c.bb.rx.sub c.ba.rx).mono (by decide)
    have yB : RB 200 (b.y - a.y) := (c.bb.ry.sub c.ba.ry).mono (by decide)
    refine ⟨(a, b), rfl, ⟨c.ba.mono (by decide), c.bb.mono (by decide)⟩, L, by show [dR (sqd a b)] = [dR (L * L)]; rw [pc_sq c], ⟨Rat.le_of_lt c.pos, c.bL.mono (by decide)⟩, ?_⟩
    refine ⟨b, rfl, c.bb.mono (by decide), a, rfl, c.ba.mono (by decide), (b.x, a.x), rfl, ⟨c.bb.rx.mono (by decide), c.ba.rx.mono (by decide)⟩, (b.x - a.x, L), rfl, ⟨hL, xB.mono (by decide), c.bL.mono (by decide)⟩, ?_⟩
    refine ⟨b, rfl, c.bb.mono (by decide), a, rfl, c.ba.mono (by decide), (b.y, a.y), rfl, ⟨c.bb.ry.mono (by decide), c.ba.ry.mono (by decide)⟩, (b.y - a.y, L), rfl, ⟨hL, yB.mono (by decide), c.bL.mono (by decide)⟩, ?_⟩
    have e1 : (b.x - a.x) / L = u.x := by grind
    have e2 : (b.y - a.y) / L = u.y := by grind
    have enc1 : ([dR h, dR ((b.y - a.y) / L)] : List D) = rr (h, u.y) := by rw [e2]; rfl
    have enc2 : ([dR h, dR ((b.x - a.x) / L)] : List D) = rr (h, u.x) := by rw [e1]; rfl
    exact ⟨(h, u.y), enc1, ⟨hh.mono (by decide), c.bu.2.mono (by decide)⟩, h * u.y, rfl, trivial, (h, u.x), enc2, ⟨hh.mono (by decide), c.bu.1.mono (by decide)⟩, q⟩
def sideS : Side → Str
  | .both => "both"
  | .left => "left"
  | .right => "right"
def endS : W15.Ending → Str
  | .cut => "cut"
  | .square => "square"
  | .round => "round"
def joinS : Joining → Str
  | .cut => "cut"
  | .pointed => "pointed"
  | .round => "round"
def dRule (r : Rl) : D := .tup [dR r.half, .str (sideS r.side), .str (endS r.ending), .str (joinS r.joining), dR r.bound]
def C_rims : Con := Con.of (fun p : Pt × V2 × Side => [dP p.1, dV p.2.1, .str (sideS p.2.2)]) (fun p => PB 4000 p.1 ∧ VB 4000 p.2.1) (fun p => .tup [dP (rimsP p.1 p.2.1 p.2.2).1, dP (rimsP p.1 p.2.1 p.2.2).2])
abbrev s_rims : Stmt := topS 39
abbrev N_rims : List Str := ["one", "some", "side", "right", "left"]
theorem sc_rims : FnScope ["one", "some", "side", "right", "left"] ["one", "some", "side"] (defScope s_rims) := ⟨rfl, rfl, rfl, by decide +kernel, rfl, by decide +kernel, by decide +kernel⟩
theorem ok_rims (N : Dn K mg "rims" s_rims ["one", "some", "side"]) (c_to_right : Cal P w K mg base 5 "to_right" (LSp K C_to_right) []) (c_to_left : Cal P w K mg base 5 "to_left" (LSp K C_to_left) []) : Cal P w K mg base 6 "rims" (LSp K C_rims) [] := by
  refine N.ok sc_rims ?_ (fun f cdv A outer s H E hr => (pss_cons (ps_set (i := 3) sc_rims.nd rfl (.inl rfl) (pe_ifExp (pt_cmpR (op_eqA hr.units) (pv 2) pe_str (nomark _)) (pv 0) (pe_c c_to_right hr (by decide) (by rfl) (pa_cons (pv 0) (pa_cons (pv 1) pa_nil)))))
      (pss_cons (ps_set (i := 4) sc_rims.nd rfl (.inl rfl) (pe_ifExp (pt_cmpR (op_eqA hr.units) (pv 2) pe_str (nomark _)) (pv 0) (pe_c c_to_left hr (by decide) (by rfl) (pa_cons (pv 0) (pa_cons (pv 1) pa_nil)))))
      (pss_one (ps_ret (pe_tup (pa_cons (pv 3) (pa_cons (pv 4) pa_nil))))))))
    (sns_seq (sns_asg (sn_if (snt_test (sn_op snr_eq (sn_var (i := 2)) sn_str)) (sn_var (i := 0)) (sn_call (C := C_to_right) (sna_cons (sn_var (i := 0)) (sna_cons (sn_var (i := 1)) sna_nil)))) (sng_name (i := 3)))
      (sns_seq (sns_asg (sn_if (snt_test (sn_op snr_eq (sn_var (i := 2)) sn_str)) (sn_var (i := 0)) (sn_call (C := C_to_left) (sna_cons (sn_var (i := 0)) (sna_cons (sn_var (i := 1)) sna_nil)))) (sng_name (i := 4)))
      (sns_ret (sn_tup (sna_cons (sn_var (i := 3)) (sna_cons (sn_var (i := 4)) sna_nil)))))) ?_
  · exact Con.len fun _ => rfl
  · rintro ds t Q ⟨⟨p, v, s⟩, rfl, hp, q⟩
    cases s with
    | both => exact ⟨(p, v), rfl, hp, (p, v), rfl, hp, q⟩
    | left => exact ⟨(p, v), rfl, hp, q⟩
    | right => exact ⟨(p, v), rfl, hp, q⟩
theorem ok_bh {r : Rl} (h : r.Ok) {u : Pt} (hu : RB 6 u.x ∧ RB 6 u.y) : VB 26 (offP u r.half) := off_vb hu h.bh
theorem VB.mono {n m : Nat} {v : V2} (h : VB n v) (l : n ≤ m) : VB m v := ⟨h.1.mono l, h.2.mono l⟩
theorem toL_pb {n m : Nat} {p : Pt} {v : V2} (hp : PB n p) (hv : VB m v) : PB (n + m + m + 1) (toL p v) := addP_pb hp hv.1 hv.2
theorem toR_pb {n m : Nat} {p : Pt} {v : V2} (hp : PB n p) (hv : VB m v) : PB (n + m + m + 1) (toR p v) := addP_pb hp hv.1.neg hv.2.neg
theorem rims_pb {n m : Nat} {p : Pt} {v : V2} {s : Side} (hp : PB n p) (hv : VB m v) : PB (n + m + m + 1) (rimsP p v s).1 ∧ PB (n + m + m + 1) (rimsP p v s).2 := by
  unfold rimsP
  constructor
  · show PB _ (if s = .left then p else toR p v)
    split
    · exact hp.mono (by omega)
    · exact toR_pb hp hv
  · show PB _ (if s = .right then p else toL p v)
    split
    · exact hp.mono (by omega)
    · exact toL_pb hp hv
def dPcR (p : Pt × Pt × Pt × Rat × Rl) : List D := [dP p.1, dP p.2.1, dRule p.2.2.2.2]
theorem pbs4 {n : Nat} {a b c d : Pt} (h1 : PB n a) (h2 : PB n b) (h3 : PB n c) (h4 : PB n d) : PBs n [a, b, c, d] := fun p hp => by
  simp only [List.mem_cons, List.not_mem_nil, or_false] at hp
  rcases hp with rfl | rfl | rfl | rfl <;> assumption
theorem strip_pb {a b u : Pt} {L : Rat} {r : Rl} (c : Pc a b u L) (h : r.Ok) : PBs 143 (stripS a b u r) := by
  have h1 := rims_pb (s := r.side) c.ba (ok_bh h c.bu)
  have h2 := rims_pb (s := r.side) c.bb (ok_bh h c.bu)
  exact pbs4 h1.1 h1.2 h2.1 h2.2
def C_strip : Con := Con.of dPcR (fun p => Pc p.1 p.2.1 p.2.2.1 p.2.2.2.1 ∧ p.2.2.2.2.Ok) (fun p => dO (stripP p.1 p.2.1 p.2.2.1 p.2.2.2.2))
abbrev s_strip : Stmt := topS 40
abbrev N_strip : List Str := ["a", "b", "rule", "some"]
theorem sc_strip : FnScope ["a", "b", "rule", "some"] ["a", "b", "rule"] (defScope s_strip) := ⟨rfl, rfl, rfl, by decide +kernel, rfl, by decide +kernel, by decide +kernel⟩
theorem ok_strip (N : Dn K mg "strip" s_strip ["a", "b", "rule"]) (c_off : Cal P w K mg base 4 "off" (LSp K C_off) []) (c_shape_of : Cal P w K mg base 4 "shape_of" (LSp K C_shape_of) []) (c_rims : Cal P w K mg base 6 "rims" (LSp K C_rims) []) : Cal P w K mg base 7 "strip" (LSp K C_strip) [] := by
  refine N.ok sc_strip ?_ (fun f cdv A outer s H E hr => (pss_cons (ps_set (i := 3) sc_strip.nd rfl (.inl rfl) (pe_c c_off hr (by decide) (by rfl) (pa_cons (pv 0) (pa_cons (pv 1) (pa_cons (pe_ix ix_A (pv 2) pe_int (fun _ _ => rfl)) pa_nil)))))
      (pss_one (ps_ret (pe_c c_shape_of hr (by decide) (by rfl) (pa_cons (pe_op op_addA (pe_c c_rims hr (by decide) (by rfl) (pa_cons (pv 0) (pa_cons (pv 3) (pa_cons (pe_ix ix_A (pv 2) pe_int (fun _ _ => rfl)) pa_nil)))) (pe_c c_rims hr (by decide) (by rfl) (pa_cons (pv 1) (pa_cons (pv 3) (pa_cons (pe_ix ix_A (pv 2) pe_int (fun _ _ => rfl)) pa_nil))))) pa_nil))))))
    (sns_seq (sns_asg (sn_call (C := C_off) (sna_cons (sn_var (i := 0)) (sna_cons (sn_var (i := 1)) (sna_cons (sn_op snr_ix (sn_var (i := 2)) sn_int) sna_nil)))) (sng_name (i := 3)))
      (sns_ret (sn_call (C := C_shape_of) (sna_cons (sn_op snr_add (sn_call (C := C_rims) (sna_cons (sn_var (i := 0)) (sna_cons (sn_var (i := 3)) (sna_cons (sn_op snr_ix (sn_var (i := 2)) sn_int) sna_nil)))) (sn_call (C := C_rims) (sna_cons (sn_var (i := 1)) (sna_cons (sn_var (i := 3)) (sna_cons (sn_op snr_ix (sn_var (i := 2)) sn_int) sna_nil))))) sna_nil)))) ?_
  · exact Con.len fun _ => rfl
  · rintro ds t Q ⟨⟨a, b, u, L, r⟩, rfl, ⟨c, hr⟩, q⟩
    have c : Pc a b u L := c
    have hr : r.Ok := hr
    have hv := (ok_bh hr c.bu).mono (show 26 ≤ 4000 by decide)
    refine ⟨(a, b, u, L, r.half), rfl, ⟨c, hr.bh⟩, (a, offP u r.half, r.side), rfl, ⟨c.ba.mono (by decide), hv⟩, (b, offP u r.half, r.side), rfl, ⟨c.bb.mono (by decide), hv⟩, (true, stripS a b u r), rfl, ⟨by show 4 ≤ 400; decide, fun p hp => (strip_pb c hr p hp).mono (by decide)⟩, by unfold stripP at q; exact q⟩
def d12 : D := .tup (pairs12.map dI)
def C_twelve : Con := Con.of (fun p : Pt × Rat => [dP p.1, dR p.2]) (fun p => PB 100 p.1 ∧ RB 20 p.2) (fun p => dO (twelveP p.1 p.2))
theorem twelve_num (h : Rat) (x : Int) : ((h.num * x : Int) : Rat) / ((((h.den : Int) * 5 : Int)) : Rat) = h * ((x : Rat) / 5) := by
  have h1 := num_eq h
  have h2 := den_ne h
  rw [Rat.intCast_mul, Rat.intCast_mul, h1, Rat.intCast_natCast]
  have : ((5 : Int) : Rat) = 5 := rfl
  rw [this]
  grind
theorem twelve_pb {p : Pt} {h : Rat} (hp : PB 100 p) (hh : RB 20 h) : PBs 160 (twelvePts p h) := fun q hq => by
  unfold twelvePts at hq
  obtain ⟨e, he, rfl⟩ := List.mem_map.mp hq
  have hb : ∀ e ∈ pairs12, e.1.natAbs < 2 ^ 4 ∧ e.2.natAbs < 2 ^ 4 := by decide
  have k : ∀ x : Int, x.natAbs < 2 ^ 4 → RB 4 ((x : Rat) / 5) := fun x hx => rb_of (b := 5) hx (by unfold Bd; decide) (by decide)
  exact (addP_pb hp (hh.mul (k _ (hb e he).1)) (hh.mul (k _ (hb e he).2))).mono (by decide)
variable {v12 : V}
abbrev s_twelve : Stmt := topS 30
abbrev N_twelve : List Str := ["one", "half", "found", "x", "y"]
theorem sc_twelve : FnScope ["one", "half", "found", "x", "y"] ["one", "half"] (defScope s_twelve) := ⟨rfl, rfl, rfl, by decide +kernel, rfl, by decide +kernel, by decide +kernel⟩
theorem ok_twelve (N : Dn K mg "twelve" s_twelve ["one", "half"]) (g_TWELVE_PAIRS : ∃ u, mg "TWELVE_PAIRS" = some u ∧ RelV v12 u) (r_TWELVE_PAIRS : ∀ fo G, Rep K fo G d12 v12) (c_shape_of : Cal P w K mg base 4 "shape_of" (LSp K C_shape_of) []) (c_shifted : Cal P w K mg base 3 "shifted" (LSp K C_shifted) []) : Cal P w K mg base 5 "twelve" (LSp K C_twelve) [] := by
  refine N.ok sc_twelve ?_ (fun f cdv A outer s H E hr => (pss_cons (ps_set (i := 2) sc_twelve.nd rfl (.inl rfl) (pe_lst pa_nil))
      (pss_cons (ps_for PassesOwn.never rfl (pi_seq (pe_gc (by rfl) g_TWELVE_PAIRS)) (pg_tup rfl (pgs_cons (pg_name (i := 3) sc_twelve.nd rfl (.inl rfl)) (pgs_cons (pg_name (i := 4) sc_twelve.nd rfl (.inl rfl)) pgs_nil))) (pss_one (ps_expr (pe_bm PySem.F.plainAttrs_list PySem.F.slot_list_append PySem.F.type_list_append mt_append (pv 2) (pa_cons (pe_c c_shifted hr (by decide) (by rfl) (pa_cons (pv 0) (pa_cons (pe_tup (pa_cons (pe_op op_mulB (pe_ix ix_A (pv 1) pe_int (fun _ _ => rfl)) (pv 3)) (pa_cons (pe_op op_mulB (pe_ix ix_A (pv 1) pe_int (fun _ _ => rfl)) pe_int) pa_nil))) (pa_cons (pe_tup (pa_cons (pe_op op_mulB (pe_ix ix_A (pv 1) pe_int (fun _ _ => rfl)) (pv 4)) (pa_cons (pe_op op_mulB (pe_ix ix_A (pv 1) pe_int (fun _ _ => rfl)) pe_int) pa_nil))) pa_nil)))) pa_nil)))))
      (pss_one (ps_ret (pe_c c_shape_of hr (by decide) (by rfl) (pa_cons (pv 2) pa_nil)))))))
    (sns_seq (sns_ownLst (i := 2) sna_nil)
      (sns_seq (sns_for (sni_seq (sn_glob r_TWELVE_PAIRS)) (sng_tup (n := 2) (sngs_cons (sng_name (i := 3)) (sngs_cons (sng_name (i := 4)) sngs_nil))) (sns_app (i := 2) (sn_call (C := C_shifted) (sna_cons (sn_var (i := 0)) (sna_cons (sn_tup (sna_cons (sn_op snr_IC (sn_op snr_ix (sn_var (i := 1)) sn_int) (sn_var (i := 3))) (sna_cons (sn_op snr_IC (sn_op snr_ix (sn_var (i := 1)) sn_int) sn_int) sna_nil))) (sna_cons (sn_tup (sna_cons (sn_op snr_IC (sn_op snr_ix (sn_var (i := 1)) sn_int) (sn_var (i := 4))) (sna_cons (sn_op snr_IC (sn_op snr_ix (sn_var (i := 1)) sn_int) sn_int) sna_nil))) sna_nil))))))
      (sns_frz (i := 2) (sns_ret (sn_call (C := C_shape_of) (sna_cons (sn_var (i := 2)) sna_nil)))))) ?_
  · exact Con.len fun _ => rfl
  · rintro ds t Q ⟨⟨p, h⟩, rfl, ⟨hp, hh⟩, q⟩
    have hp : PB 100 p := hp
    have hh : RB 20 h := hh
    have q : Q (dO (twelveP p h)) t := q
    have fin : C_shape_of.c [.lst (([] : List D) ++ (pairs12.map fun e => addP p (h * ((e.1 : Rat) / 5)) (h * ((e.2 : Rat) / 5))).map dP)] t Q := ⟨(false, twelvePts p h), rfl, ⟨by show (twelvePts p h).length ≤ 400; unfold twelvePts; rw [List.length_map]; decide, fun x hx => (twelve_pb hp hh x hx).mono (by decide)⟩, by unfold twelveP at q; exact q⟩
    have hb : ∀ e ∈ pairs12, e.1.natAbs < 2 ^ 4 ∧ e.2.natAbs < 2 ^ 4 := by decide
    have hlen : pairs12.length = 12 := rfl
    unfold d12
    generalize pairs12 = es at *
    show forW _ _ _ (es.map dI) [Sl.dat (dP p), Sl.dat (dR h), Sl.own [], Sl.no, Sl.no] t
    refine (?_ : ∀ (es : List (Int × Int)) (acc : List D) (s3 s4 : Sl), acc.length + es.length ≤ 100 → (∀ e ∈ es, e.1.natAbs < 2 ^ 4 ∧ e.2.natAbs < 2 ^ 4) →
      C_shape_of.c [.lst (acc ++ (es.map fun e => addP p (h * ((e.1 : Rat) / 5)) (h * ((e.2 : Rat) / 5))).map dP)] t Q →
      forW _ _ _ (es.map dI) [Sl.dat (dP p), Sl.dat (dR h), Sl.own acc, s3, s4] t) es [] Sl.no Sl.no (by rw [hlen]; decide) hb fin
    intro es
    induction es with
    | nil =>
      intro acc s3 s4 _ _ fin
      rw [List.map_nil, List.map_nil, List.append_nil] at fin
      exact fin
    | cons e es ih =>
      intro acc s3 s4 hn hE fin
      have hn : acc.length + (es.length + 1) ≤ 100 := hn
      obtain ⟨h1, h2⟩ := hE e List.mem_cons_self
      have hE' := fun e he => hE e (List.mem_cons_of_mem _ he)
      have h5 : Bd 3 5 := by unfold Bd; decide
      have d5 := den_pos h
      have l1 := hh.num.mul (show Bd 4 e.1 from h1)
      have l2 := hh.num.mul (show Bd 4 e.2 from h2)
      have l3 := hh.den.mul h5
      refine ⟨mulB hh.num h1 (by decide), mulB hh.den h5 (by decide), mulB hh.num h2 (by decide), mulB hh.den h5 (by decide),
        (p, (h.num * e.1, (h.den : Int) * 5), (h.num * e.2, (h.den : Int) * 5)), rfl, ⟨by show 0 < (h.den : Int) * 5; omega, by show 0 < (h.den : Int) * 5; omega, hp.mono (by decide), l1.mono (by decide), l3.mono (by decide), l2.mono (by decide), l3.mono (by decide)⟩, by omega, ?_⟩
      show forW _ _ _ (es.map dI) [Sl.dat (dP p), Sl.dat (dR h), Sl.own (acc ++ [dP (addP p (((h.num * e.1 : Int) : Rat) / ((((h.den : Int) * 5 : Int)) : Rat)) (((h.num * e.2 : Int) : Rat) / ((((h.den : Int) * 5 : Int)) : Rat)))]), _, _] t
      rw [twelve_num, twelve_num]
      refine ih _ _ _ (by simp only [List.length_append, List.length_singleton]; omega) hE' ?_
      rw [List.map_cons, List.map_cons] at fin
      rw [List.append_assoc]
      exact fin
end
end DL


/-! ## W6 -/
set_option maxRecDepth 100000
/-! widening: parts cut from twelves, joins, ends -/
namespace DL
open PySem PySem.Spec PyProof.Rows L2
open C8 (Cal pe_c pe_gc)
open W15
section
variable {P : Program} {w : World} {K : PySem.W.Frag} {mg : Str → Option Value} {base : Heap}
theorem cutOff_len {S F : List Pt} {a b : Pt} (h : cutOff S a b = some F) : F.length ≤ 4 * S.length := by
  unfold cutOff at h
  split at h
  · cases h
  · have := shapeOf_len h
    have := keptP_len (S := S) (a := a) (b := b)
    omega
theorem cutOff_pb {S F : List Pt} {a b : Pt} {n : Nat} (h : cutOff S a b = some F) (hS : PBs n S) (ha : PB n a) (hb : PB n b) : PBs (6 * n + 5) F := fun p hp => by
  unfold cutOff at h
  split at h
  · cases h
  · exact keptP_pb hS ha hb p (shapeOf_mem h hp)
theorem T12_some (p : Pt) {h : Rat} (hh : 0 < h) : twelveP p h = some (T12 p h) := by
  obtain ⟨T, e, _⟩ := twelve_spec p hh
  unfold T12
  rw [e]
  rfl
theorem T12_ok {p : Pt} {h : Rat} (hh : 0 < h) (hp : PB 100 p) (hB : RB 20 h) : (T12 p h).length ≤ 24 ∧ PBs 160 (T12 p h) := by
  have e : shapeOf (twelvePts p h) = some (T12 p h) := by
    have e := T12_some p hh
    unfold twelveP at e
    exact e
  refine ⟨?_, fun q hq => twelve_pb hp hB q (shapeOf_mem e hq)⟩
  have := shapeOf_len e
  have : (twelvePts p h).length = 12 := by unfold twelvePts; rw [List.length_map]; rfl
  omega
def C_ahead_part : Con := Con.of (fun p : List Pt × Pt × V2 => [.tup (p.1.map dP), dP p.2.1, dV p.2.2]) (fun p => p.1.length ≤ 150 ∧ PBs 2200 p.1 ∧ PB 100 p.2.1 ∧ VB 100 p.2.2) (fun p => dO (aheadP p.1 p.2.1 p.2.2))
abbrev s_ahead_part : Stmt := topS 41
abbrev N_ahead_part : List Str := ["shape", "one", "some"]
theorem sc_ahead_part : FnScope ["shape", "one", "some"] ["shape", "one", "some"] (defScope s_ahead_part) := ⟨rfl, rfl, rfl, by decide +kernel, rfl, by decide +kernel, by decide +kernel⟩
theorem ok_ahead_part (N : Dn K mg "ahead_part" s_ahead_part ["shape", "one", "some"]) (c_cut_off : Cal P w K mg base 5 "cut_off" (LSp K C_cut_off) []) (c_to_left : Cal P w K mg base 5 "to_left" (LSp K C_to_left) []) : Cal P w K mg base 6 "ahead_part" (LSp K C_ahead_part) [] := by
  refine N.ok sc_ahead_part ?_ (fun f cdv A outer s H E hr => (pss_one (ps_ret (pe_c c_cut_off hr (by decide) (by rfl) (pa_cons (pv 0) (pa_cons (pe_c c_to_left hr (by decide) (by rfl) (pa_cons (pv 1) (pa_cons (pv 2) pa_nil))) (pa_cons (pv 1) pa_nil)))))))
    (sns_ret (sn_call (C := C_cut_off) (sna_cons (sn_var (i := 0)) (sna_cons (sn_call (C := C_to_left) (sna_cons (sn_var (i := 1)) (sna_cons (sn_var (i := 2)) sna_nil))) (sna_cons (sn_var (i := 1)) sna_nil))))) ?_
  · exact Con.len fun _ => rfl
  · rintro ds t Q ⟨⟨S, p, v⟩, rfl, ⟨hl, hS, hp, hv⟩, q⟩
    have hp : PB 100 p := hp
    have hv : VB 100 v := hv
    exact ⟨(p, v), rfl, ⟨hp.mono (by decide), hv.mono (by decide)⟩, (S, toL p v, p), rfl, ⟨hl, hS, (toL_pb hp hv).mono (by decide), hp.mono (by decide)⟩, by unfold aheadP at q; exact q⟩
def C_wedge : Con := Con.of (fun p : List Pt × Pt × Pt × Pt => [.tup (p.1.map dP), dP p.2.1, dP p.2.2.1, dP p.2.2.2]) (fun p => p.1.length ≤ 30 ∧ PBs 300 p.1 ∧ PB 300 p.2.1 ∧ PB 300 p.2.2.1 ∧ PB 300 p.2.2.2) (fun p => dO (wedgeP p.1 p.2.1 p.2.2.1 p.2.2.2))
theorem dO_none : dO none = .non := rfl
theorem dO_some (F : List Pt) : dO (some F) = .tup (F.map dP) := rfl
abbrev s_wedge : Stmt := topS 42
abbrev N_wedge : List Str := ["shape", "one", "first", "last", "found"]
theorem sc_wedge : FnScope ["shape", "one", "first", "last", "found"] ["shape", "one", "first", "last"] (defScope s_wedge) := ⟨rfl, rfl, rfl, by decide +kernel, rfl, by decide +kernel, by decide +kernel⟩
theorem ok_wedge (N : Dn K mg "wedge" s_wedge ["shape", "one", "first", "last"]) (c_cut_off : Cal P w K mg base 5 "cut_off" (LSp K C_cut_off) []) : Cal P w K mg base 6 "wedge" (LSp K C_wedge) [] := by
  refine N.ok sc_wedge ?_ (fun f cdv A outer s H E hr => (pss_cons (ps_set (i := 4) sc_wedge.nd rfl (.inl rfl) (pe_c c_cut_off hr (by decide) (by rfl) (pa_cons (pv 0) (pa_cons (pv 1) (pa_cons (pv 2) pa_nil)))))
      (pss_one (ps_ret (pe_ifExp (pt_cmpR op_isN (pv 4) pe_non (nomark _)) pe_non (pe_c c_cut_off hr (by decide) (by rfl) (pa_cons (pv 4) (pa_cons (pv 3) (pa_cons (pv 1) pa_nil)))))))))
    (sns_seq (sns_asg (sn_call (C := C_cut_off) (sna_cons (sn_var (i := 0)) (sna_cons (sn_var (i := 1)) (sna_cons (sn_var (i := 2)) sna_nil)))) (sng_name (i := 4)))
      (sns_ret (sn_if (snt_test (sn_op snr_is (sn_var (i := 4)) sn_non)) sn_non (sn_call (C := C_cut_off) (sna_cons (sn_var (i := 4)) (sna_cons (sn_var (i := 3)) (sna_cons (sn_var (i := 1)) sna_nil))))))) ?_
  · exact Con.len fun _ => rfl
  · rintro ds t Q ⟨⟨S, p, f, l⟩, rfl, ⟨hl, hS, hp, hf, hla⟩, q⟩
    have hl : S.length ≤ 30 := hl
    have hS : PBs 300 S := hS
    have hp : PB 300 p := hp
    have hf : PB 300 f := hf
    have hla : PB 300 l := hla
    have q : Q (dO (wedgeP S p f l)) t := q
    have m : ∀ {x : Pt}, PB 300 x → PB 2200 x := fun h => h.mono (by decide)
    refine ⟨(S, p, f), rfl, ⟨by show S.length ≤ 150; omega, fun x hx => m (hS x hx), m hp, m hf⟩, ?_⟩
    unfold wedgeP at q
    refine (?_ : ∀ d : D, d = dO (cutOff S p f) → wgName 4 d _ _) _ rfl
    intro d hd
    cases e : cutOff S p f with
    | none =>
      rw [e] at q hd
      subst hd
      exact q
    | some F =>
      rw [e] at q hd
      subst hd
      have h1 := cutOff_len e
      have h2 := cutOff_pb e hS hp hf
      exact ⟨(F, l, p), rfl, ⟨by show F.length ≤ 150; omega, fun x hx => (h2 x hx).mono (by decide), m hla, m hp⟩, q⟩
def C_folded_join : Con := Con.of (fun p : Pt × V2 × Rl => [dP p.1, dV p.2.1, dRule p.2.2]) (fun p => PB 100 p.1 ∧ VB 100 p.2.1 ∧ p.2.2.Ok) (fun p => dO (foldedP p.1 p.2.1 p.2.2))
abbrev s_folded_join : Stmt := topS 43
abbrev N_folded_join : List Str := ["p", "some", "rule"]
theorem sc_folded_join : FnScope ["p", "some", "rule"] ["p", "some", "rule"] (defScope s_folded_join) := ⟨rfl, rfl, rfl, by decide +kernel, rfl, by decide +kernel, by decide +kernel⟩
theorem ok_folded_join (N : Dn K mg "folded_join" s_folded_join ["p", "some", "rule"]) (c_ahead_part : Cal P w K mg base 6 "ahead_part" (LSp K C_ahead_part) []) (c_twelve : Cal P w K mg base 5 "twelve" (LSp K C_twelve) []) : Cal P w K mg base 7 "folded_join" (LSp K C_folded_join) [] := by
  refine N.ok sc_folded_join ?_ (fun f cdv A outer s H E hr => (pss_cons (ps_if (pt_cmpR (op_neA hr.units) (pe_ix ix_A (pv 2) pe_int (fun _ _ => rfl)) pe_str (nomark _)) (pss_one (ps_ret pe_non)) pss_nil)
      (pss_one (ps_ret (pe_c c_ahead_part hr (by decide) (by rfl) (pa_cons (pe_c c_twelve hr (by decide) (by rfl) (pa_cons (pv 0) (pa_cons (pe_ix ix_A (pv 2) pe_int (fun _ _ => rfl)) pa_nil))) (pa_cons (pv 0) (pa_cons (pv 1) pa_nil))))))))
    (sns_seq (sns_if (snt_test (sn_op snr_ne (sn_op snr_ix (sn_var (i := 2)) sn_int) sn_str)) (sns_ret sn_non) sns_nil)
      (sns_ret (sn_call (C := C_ahead_part) (sna_cons (sn_call (C := C_twelve) (sna_cons (sn_var (i := 0)) (sna_cons (sn_op snr_ix (sn_var (i := 2)) sn_int) sna_nil))) (sna_cons (sn_var (i := 0)) (sna_cons (sn_var (i := 1)) sna_nil)))))) ?_
  · exact Con.len fun _ => rfl
  · rintro ds t Q ⟨⟨p, v, r⟩, rfl, ⟨hp, hv, hr⟩, q⟩
    have hp : PB 100 p := hp
    have hv : VB 100 v := hv
    have hr : r.Ok := hr
    have q : Q (dO (foldedP p v r)) t := q
    have T := T12_ok hr.pos hp hr.bh
    unfold foldedP at q
    obtain ⟨h, s, e, j, b⟩ := r
    cases j with
    | cut => exact q
    | pointed => exact q
    | round =>
      refine ⟨(p, h), rfl, ⟨hp, hr.bh⟩, ?_⟩
      refine (?_ : ∀ d : D, d = dO (twelveP p h) → C_ahead_part.c [d, dP p, dV v] t Q) _ rfl
      intro d hd
      rw [T12_some p hr.pos] at hd
      subst hd
      exact ⟨(T12 p h, p, v), rfl, ⟨by show (T12 p h).length ≤ 150; exact Nat.le_trans T.1 (by decide), fun x hx => (T.2 x hx).mono (by decide), hp, hv⟩, q⟩
def C_shifted_way : Con := Con.of (fun p : Pt × Pt × Pt => [dP p.1, dE p.2]) (fun p => PB 150 p.1 ∧ PB 90 p.2.1 ∧ PB 90 p.2.2) (fun p => dP (wayAdd p.1 p.2.1 p.2.2))
theorem wayAdd_pb {n m : Nat} {p a b : Pt} (hp : PB n p) (ha : PB m a) (hb : PB m b) : PB (n + (m + m + 1) + (m + m + 1) + 1) (wayAdd p a b) := addP_pb hp (hb.rx.sub ha.rx) (hb.ry.sub ha.ry)
abbrev s_shifted_way : Stmt := topS 46
abbrev N_shifted_way : List Str := ["one", "piece", "a", "b"]
theorem sc_shifted_way : FnScope ["one", "piece", "a", "b"] ["one", "piece"] (defScope s_shifted_way) := ⟨rfl, rfl, rfl, by decide +kernel, rfl, by decide +kernel, by decide +kernel⟩
theorem ok_shifted_way (N : Dn K mg "shifted_way" s_shifted_way ["one", "piece"]) (c_shifted : Cal P w K mg base 3 "shifted" (LSp K C_shifted) []) (c_less : Cal P w K mg base 3 "less" (LSp K C_less) []) (c_across : Cal P w K mg base 3 "across" (LSp K C_across) []) (c_up : Cal P w K mg base 3 "up" (LSp K C_up) []) : Cal P w K mg base 4 "shifted_way" (LSp K C_shifted_way) [] := by
  refine N.ok sc_shifted_way ?_ (fun f cdv A outer s H E hr => (pss_cons (ps_asg (pv 1) (pg_tup rfl (pgs_cons (pg_name (i := 2) sc_shifted_way.nd rfl (.inl rfl)) (pgs_cons (pg_name (i := 3) sc_shifted_way.nd rfl (.inl rfl)) pgs_nil))))
      (pss_one (ps_ret (pe_c c_shifted hr (by decide) (by rfl) (pa_cons (pv 0) (pa_cons (pe_c c_less hr (by decide) (by rfl) (pa_cons (pe_c c_across hr (by decide) (by rfl) (pa_cons (pv 3) pa_nil)) (pa_cons (pe_c c_across hr (by decide) (by rfl) (pa_cons (pv 2) pa_nil)) pa_nil))) (pa_cons (pe_c c_less hr (by decide) (by rfl) (pa_cons (pe_c c_up hr (by decide) (by rfl) (pa_cons (pv 3) pa_nil)) (pa_cons (pe_c c_up hr (by decide) (by rfl) (pa_cons (pv 2) pa_nil)) pa_nil))) pa_nil))))))))
    (sns_seq (sns_asg (sn_var (i := 1)) (sng_tup (n := 2) (sngs_cons (sng_name (i := 2)) (sngs_cons (sng_name (i := 3)) sngs_nil))))
      (sns_ret (sn_call (C := C_shifted) (sna_cons (sn_var (i := 0)) (sna_cons (sn_call (C := C_less) (sna_cons (sn_call (C := C_across) (sna_cons (sn_var (i := 3)) sna_nil)) (sna_cons (sn_call (C := C_across) (sna_cons (sn_var (i := 2)) sna_nil)) sna_nil))) (sna_cons (sn_call (C := C_less) (sna_cons (sn_call (C := C_up) (sna_cons (sn_var (i := 3)) sna_nil)) (sna_cons (sn_call (C := C_up) (sna_cons (sn_var (i := 2)) sna_nil)) sna_nil))) sna_nil)))))) ?_
  · exact Con.len fun _ => rfl
  · rintro ds t Q ⟨⟨p, a, b⟩, rfl, ⟨hp, ha, hb⟩, q⟩
    have hp : PB 150 p := hp
    have ha : PB 90 a := ha
    have hb : PB 90 b := hb
    have dx := hb.rx.sub ha.rx
    have dy := hb.ry.sub ha.ry
    refine ⟨b, rfl, hb.mono (by decide), a, rfl, ha.mono (by decide), (b.x, a.x), rfl, ⟨hb.rx.mono (by decide), ha.rx.mono (by decide)⟩, b, rfl, hb.mono (by decide), a, rfl, ha.mono (by decide), (b.y, a.y), rfl, ⟨hb.ry.mono (by decide), ha.ry.mono (by decide)⟩,
      (p, ((b.x - a.x).num, ((b.x - a.x).den : Int)), ((b.y - a.y).num, ((b.y - a.y).den : Int))), rfl, ⟨den_pos _, den_pos _, hp.mono (by decide), dx.num.mono (by decide), dx.den.mono (by decide), dy.num.mono (by decide), dy.den.mono (by decide)⟩, ?_⟩
    show Q (dP (addP p (((b.x - a.x).num : Rat) / ((((b.x - a.x).den : Int)) : Rat)) (((b.y - a.y).num : Rat) / ((((b.y - a.y).den : Int)) : Rat)))) t
    rw [num_div', num_div']
    exact q
structure JPre (a p b u v : Pt) (L M : Rat) (r : Rl) : Prop where
  c1 : Pc a p u L
  c2 : Pc p b v M
  ok : r.Ok
abbrev JArg := (Pt × Pt × Pt) × (Pt × Pt) × (Rat × Rat) × Rl
theorem outer_pb {p u v : Pt} {h : Rat} (hp : PB 90 p) (hu : RB 6 u.x ∧ RB 6 u.y) (hv : RB 6 v.x ∧ RB 6 v.y) (hh : RB 20 h) : PB 143 (outerP p u v h).1 ∧ PB 143 (outerP p u v h).2 := by
  have k1 := off_vb hu hh
  have k2 := off_vb hv hh
  unfold outerP
  split
  · exact ⟨toR_pb hp k1, toR_pb hp k2⟩
  · exact ⟨toL_pb hp k1, toL_pb hp k2⟩
theorem cr4_way {a p b u v o1 o2 : Pt} {L M : Rat} (c1 : Pc a p u L) (c2 : Pc p b v M) : cr4 o1 (wayAdd o1 a p) o2 (wayAdd o2 p b) = L * M * crU u v := by
  have ex1 := c1.ex
  have ey1 := c1.ey
  have ex2 := c2.ex
  have ey2 := c2.ey
  unfold cr4 crU wayAdd addP
  grind
def C_tip_of : Con := Con.of (fun p : JArg => [dE (p.1.1, p.1.2.1), dE p.1.2, .tup [dP (outerP p.1.2.1 p.2.1.1 p.2.1.2 p.2.2.2.half).1, dP (outerP p.1.2.1 p.2.1.1 p.2.1.2 p.2.2.2.half).2], dRule p.2.2.2])
  (fun p => JPre p.1.1 p.1.2.1 p.1.2.2 p.2.1.1 p.2.1.2 p.2.2.1.1 p.2.2.1.2 p.2.2.2 ∧ crU p.2.1.1 p.2.1.2 ≠ 0) (fun p => .tup ((tipP p.1.1 p.1.2.1 p.1.2.2 p.2.1.1 p.2.1.2 p.2.2.2).map dP))
theorem tip_pb {a p b u v : Pt} {L M : Rat} {r : Rl} (h : JPre a p b u v L M r) (hn : crU u v ≠ 0) : PB 3041 (tipAt a p b u v r.half) := by
  have O := outer_pb h.c1.bb h.c1.bu h.c2.bu h.ok.bh
  have f1 := wayAdd_pb O.1 h.c1.ba h.c1.bb
  have f2 := wayAdd_pb O.2 h.c2.ba h.c2.bb
  refine meetP_pb ?_ (O.1.mono (by decide)) f1 (O.2.mono (by decide)) f2
  rw [cr4_way h.c1 h.c2]
  have := h.c1.pos
  have := h.c2.pos
  have := Rat.mul_pos h.c1.pos h.c2.pos
  intro z
  rcases Rat.mul_eq_zero.mp z with z | z
  · grind
  · exact hn z
theorem sqd_rb {p t : Pt} (hp : PB 90 p) (ht : PB 3041 t) : RB 12600 (sqd p t) := by
  have x := ht.rx.sub hp.rx
  have y := ht.ry.sub hp.ry
  unfold sqd
  exact ((x.mul x).add (y.mul y)).mono (by decide)
abbrev s_tip_of : Stmt := topS 45
abbrev N_tip_of : List Str := ["first", "second", "outer", "rule", "p", "far", "last", "tip", "most"]
theorem sc_tip_of : FnScope ["first", "second", "outer", "rule", "p", "far", "last", "tip", "most"] ["first", "second", "outer", "rule"] (defScope s_tip_of) := ⟨rfl, rfl, rfl, by decide +kernel, rfl, by decide +kernel, by decide +kernel⟩
theorem ok_tip_of (N : Dn K mg "tip_of" s_tip_of ["first", "second", "outer", "rule"]) (c_shifted_way : Cal P w K mg base 4 "shifted_way" (LSp K C_shifted_way) []) (c_meeting : Cal P w K mg base 3 "meeting" (LSp K C_meeting) []) (c_times : Cal P w K mg base 3 "times" (LSp K C_times) []) (c_is_below : Cal P w K mg base 1 "is_below" (LSp K C_is_below) []) (c_squared : Cal P w K mg base 3 "squared" (LSp K C_squared) []) : Cal P w K mg base 5 "tip_of" (LSp K C_tip_of) [] := by
  refine N.ok sc_tip_of ?_ (fun f cdv A outer s H E hr => (pss_cons (ps_set (i := 4) sc_tip_of.nd rfl (.inl rfl) (pe_ix ix_A (pv 1) pe_int (fun _ _ => rfl)))
      (pss_cons (ps_if (pt_cmpR (op_neA hr.units) (pe_ix ix_A (pv 3) pe_int (fun _ _ => rfl)) pe_str (nomark _)) (pss_one (ps_ret (pe_tup pa_nil))) pss_nil)
      (pss_cons (ps_set (i := 5) sc_tip_of.nd rfl (.inl rfl) (pe_c c_shifted_way hr (by decide) (by rfl) (pa_cons (pe_ix ix_A (pv 2) pe_int (fun _ _ => rfl)) (pa_cons (pv 0) pa_nil))))
      (pss_cons (ps_set (i := 6) sc_tip_of.nd rfl (.inl rfl) (pe_c c_shifted_way hr (by decide) (by rfl) (pa_cons (pe_ix ix_A (pv 2) pe_int (fun _ _ => rfl)) (pa_cons (pv 1) pa_nil))))
      (pss_cons (ps_set (i := 7) sc_tip_of.nd rfl (.inl rfl) (pe_c c_meeting hr (by decide) (by rfl) (pa_cons (pe_ix ix_A (pv 2) pe_int (fun _ _ => rfl)) (pa_cons (pv 5) (pa_cons (pe_ix ix_A (pv 2) pe_int (fun _ _ => rfl)) (pa_cons (pv 6) pa_nil))))))
      (pss_cons (ps_set (i := 8) sc_tip_of.nd rfl (.inl rfl) (pe_c c_times hr (by decide) (by rfl) (pa_cons (pe_c c_times hr (by decide) (by rfl) (pa_cons (pe_ix ix_A (pv 3) pe_int (fun _ _ => rfl)) (pa_cons (pe_ix ix_A (pv 3) pe_int (fun _ _ => rfl)) pa_nil))) (pa_cons (pe_c c_times hr (by decide) (by rfl) (pa_cons (pe_ix ix_A (pv 3) pe_int (fun _ _ => rfl)) (pa_cons (pe_ix ix_A (pv 3) pe_int (fun _ _ => rfl)) pa_nil))) pa_nil))))
      (pss_one (ps_ret (pe_ifExp (pt_val (pe_c c_is_below hr (by decide) (by rfl) (pa_cons (pv 8) (pa_cons (pe_c c_squared hr (by decide) (by rfl) (pa_cons (pv 4) (pa_cons (pv 7) pa_nil))) pa_nil)))) (pe_tup pa_nil) (pe_tup (pa_cons (pv 7) pa_nil))))))))))))
    (sns_seq (sns_asg (sn_op snr_ix (sn_var (i := 1)) sn_int) (sng_name (i := 4)))
      (sns_seq (sns_if (snt_test (sn_op snr_ne (sn_op snr_ix (sn_var (i := 3)) sn_int) sn_str)) (sns_ret (sn_tup sna_nil)) sns_nil)
      (sns_seq (sns_asg (sn_call (C := C_shifted_way) (sna_cons (sn_op snr_ix (sn_var (i := 2)) sn_int) (sna_cons (sn_var (i := 0)) sna_nil))) (sng_name (i := 5)))
      (sns_seq (sns_asg (sn_call (C := C_shifted_way) (sna_cons (sn_op snr_ix (sn_var (i := 2)) sn_int) (sna_cons (sn_var (i := 1)) sna_nil))) (sng_name (i := 6)))
      (sns_seq (sns_asg (sn_call (C := C_meeting) (sna_cons (sn_op snr_ix (sn_var (i := 2)) sn_int) (sna_cons (sn_var (i := 5)) (sna_cons (sn_op snr_ix (sn_var (i := 2)) sn_int) (sna_cons (sn_var (i := 6)) sna_nil))))) (sng_name (i := 7)))
      (sns_seq (sns_asg (sn_call (C := C_times) (sna_cons (sn_call (C := C_times) (sna_cons (sn_op snr_ix (sn_var (i := 3)) sn_int) (sna_cons (sn_op snr_ix (sn_var (i := 3)) sn_int) sna_nil))) (sna_cons (sn_call (C := C_times) (sna_cons (sn_op snr_ix (sn_var (i := 3)) sn_int) (sna_cons (sn_op snr_ix (sn_var (i := 3)) sn_int) sna_nil))) sna_nil))) (sng_name (i := 8)))
      (sns_ret (sn_if (snt_B (sn_call (C := C_is_below) (sna_cons (sn_var (i := 8)) (sna_cons (sn_call (C := C_squared) (sna_cons (sn_var (i := 4)) (sna_cons (sn_var (i := 7)) sna_nil))) sna_nil)))) (sn_tup sna_nil) (sn_tup (sna_cons (sn_var (i := 7)) sna_nil)))))))))) ?_
  · exact Con.len fun _ => rfl
  · rintro ds t Q ⟨⟨⟨a, p, b⟩, ⟨u, v⟩, ⟨L, M⟩, r⟩, rfl, ⟨h, hn⟩, q⟩
    have h : JPre a p b u v L M r := h
    have hn : crU u v ≠ 0 := hn
    have q : Q (.tup ((tipP a p b u v r).map dP)) t := q
    have O := outer_pb h.c1.bb h.c1.bu h.c2.bu h.ok.bh
    have f1 := wayAdd_pb O.1 h.c1.ba h.c1.bb
    have f2 := wayAdd_pb O.2 h.c2.ba h.c2.bb
    have T := tip_pb h hn
    have bp := h.c1.bb
    have bh := h.ok.bh
    have bb := h.ok.bb
    have nz : cr4 (outerP p u v r.half).1 (wayAdd (outerP p u v r.half).1 a p) (outerP p u v r.half).2 (wayAdd (outerP p u v r.half).2 p b) ≠ 0 := by
      rw [cr4_way h.c1 h.c2]
      have := Rat.mul_pos h.c1.pos h.c2.pos
      intro z
      rcases Rat.mul_eq_zero.mp z with z | z
      · grind
      · exact hn z
    have S := sqd_rb bp T
    have ba := h.c1.ba
    have bb2 := h.c2.bb
    unfold tipP at q
    unfold tipAt at q T S
    clear h
    obtain ⟨hf, s, e, j, bd⟩ := r
    cases j with
    | cut => exact q
    | round => exact q
    | pointed =>
      have q : Q (.tup ((if hf * hf * (bd * bd) < sqd p (meetP (outerP p u v hf).1 (wayAdd (outerP p u v hf).1 a p) (outerP p u v hf).2 (wayAdd (outerP p u v hf).2 p b)) then [] else [meetP (outerP p u v hf).1 (wayAdd (outerP p u v hf).1 a p) (outerP p u v hf).2 (wayAdd (outerP p u v hf).2 p b)]).map dP)) t := q
      have bh : RB 20 hf := bh
      have bb : RB 20 bd := bb
      refine ⟨((outerP p u v hf).1, a, p), rfl, ⟨O.1.mono (by decide), ba, bp⟩, ((outerP p u v hf).2, p, b), rfl, ⟨O.2.mono (by decide), bp, bb2⟩,
        ((outerP p u v hf).1, wayAdd (outerP p u v hf).1 a p, (outerP p u v hf).2, wayAdd (outerP p u v hf).2 p b), rfl, ⟨nz, O.1.mono (by decide), f1.mono (by decide), O.2.mono (by decide), f2.mono (by decide)⟩,
        (hf, hf), rfl, ⟨bh.mono (by decide), bh.mono (by decide)⟩, (bd, bd), rfl, ⟨bb.mono (by decide), bb.mono (by decide)⟩, (hf * hf, bd * bd), rfl, ⟨(bh.mul bh).mono (by decide), (bb.mul bb).mono (by decide)⟩,
        (p, meetP (outerP p u v hf).1 (wayAdd (outerP p u v hf).1 a p) (outerP p u v hf).2 (wayAdd (outerP p u v hf).2 p b)), rfl, ⟨bp.mono (by decide), T.mono (by decide)⟩,
        (hf * hf * (bd * bd), sqd p (meetP (outerP p u v hf).1 (wayAdd (outerP p u v hf).1 a p) (outerP p u v hf).2 (wayAdd (outerP p u v hf).2 p b))), rfl, ⟨((bh.mul bh).mul (bb.mul bb)).mono (by decide), S.mono (by decide)⟩, ?_⟩
      show if decide (hf * hf * (bd * bd) < sqd p (meetP (outerP p u v hf).1 (wayAdd (outerP p u v hf).1 a p) (outerP p u v hf).2 (wayAdd (outerP p u v hf).2 p b))) = true then Q (.tup []) t else Q (.tup [dP (meetP (outerP p u v hf).1 (wayAdd (outerP p u v hf).1 a p) (outerP p u v hf).2 (wayAdd (outerP p u v hf).2 p b))]) t
      refine ite2 (fun k => ?_) (fun k => ?_)
      · rw [if_pos (of_decide_eq_true k)] at q
        exact q
      · rw [if_neg (fun z => k (decide_eq_true z))] at q
        exact q
end
end DL


/-! ## W7 -/
set_option maxRecDepth 100000
/-! widening: joins, ends, lines -/
namespace DL
open PySem PySem.Spec PyProof.Rows L2
open C8 (Cal pe_c pe_gc)
open W15
section
variable {P : Program} {w : World} {K : PySem.W.Frag} {mg : Str → Option Value} {base : Heap}
def C_join : Con := Con.of (fun p : JArg => [dE (p.1.1, p.1.2.1), dE p.1.2, dRule p.2.2.2])
  (fun p => JPre p.1.1 p.1.2.1 p.1.2.2 p.2.1.1 p.2.1.2 p.2.2.1.1 p.2.2.1.2 p.2.2.2) (fun p => dO (joinP p.1.1 p.1.2.1 p.1.2.2 p.2.1.1 p.2.1.2 p.2.2.2))
theorem side_int {a p b u v : Pt} {L M : Rat} (c1 : Pc a p u L) (c2 : Pc p b v M) :
    (((wayI a p).1 * (wayI p b).2 - (wayI a p).2 * (wayI p b).1) = 0 ↔ crU u v = 0) ∧ (0 < ((wayI a p).1 * (wayI p b).2 - (wayI a p).2 * (wayI p b).1) ↔ 0 < crU u v) := by
  have e := crossI a p p b
  have k : 0 < L * M * (((a.Z : Rat) * (p.Z : Rat)) * ((p.Z : Rat) * (b.Z : Rat))) := Rat.mul_pos (Rat.mul_pos c1.pos c2.pos) (pos4 a p p b)
  have e2 : (p.x - a.x) * (b.y - p.y) - (p.y - a.y) * (b.x - p.x) = L * M * crU u v := by
    have ex1 := c1.ex
    have ey1 := c1.ey
    have ex2 := c2.ex
    have ey2 := c2.ey
    unfold crU
    grind
  rw [e2] at e
  have e3 : (((wayI a p).1 * (wayI p b).2 - (wayI a p).2 * (wayI p b).1 : Int) : Rat) = crU u v * (L * M * (((a.Z : Rat) * (p.Z : Rat)) * ((p.Z : Rat) * (b.Z : Rat)))) := by
    rw [e]
    grind
  generalize ((wayI a p).1 * (wayI p b).2 - (wayI a p).2 * (wayI p b).1) = i at *
  generalize L * M * (((a.Z : Rat) * (p.Z : Rat)) * ((p.Z : Rat) * (b.Z : Rat))) = k' at *
  constructor
  · rw [← Rat.intCast_eq_zero_iff, e3, Rat.mul_eq_zero]
    exact ⟨fun z => z.elim id fun z => absurd z (by grind), .inl⟩
  · rw [← Rat.intCast_pos, e3]
    exact Rat.mul_pos_iff_of_pos_right k
theorem pbs_join {p o1 o2 : Pt} {n m : Nat} {T : List Pt} (hp : PB n p) (h1 : PB n o1) (h2 : PB n o2) (l : n ≤ m) (hT : PBs m T) : PBs m (p :: o1 :: o2 :: T) := fun x hx => by
  simp only [List.mem_cons] at hx
  rcases hx with rfl | rfl | rfl | hx
  · exact hp.mono l
  · exact h1.mono l
  · exact h2.mono l
  · exact hT x hx
theorem tipP_ok {a p b u v : Pt} {L M : Rat} {r : Rl} (h : JPre a p b u v L M r) (hn : crU u v ≠ 0) : PBs 3041 (tipP a p b u v r) ∧ (tipP a p b u v r).length ≤ 1 := by
  have := tip_pb h hn
  unfold tipP
  split
  · split
    · exact ⟨fun x hx => (by cases hx), Nat.zero_le _⟩
    · exact ⟨fun x hx => by rw [List.mem_singleton.mp hx]; exact this, Nat.le_refl _⟩
  · exact ⟨fun x hx => (by cases hx), Nat.zero_le _⟩
abbrev s_join : Stmt := topS 44
abbrev N_join : List Str := ["first", "second", "rule", "p", "side", "outer", "one", "other", "rays"]
theorem sc_join : FnScope ["first", "second", "rule", "p", "side", "outer", "one", "other", "rays"] ["first", "second", "rule"] (defScope s_join) := ⟨rfl, rfl, rfl, by decide +kernel, rfl, by decide +kernel, by decide +kernel⟩
theorem ok_join (N : Dn K mg "join" s_join ["first", "second", "rule"]) (c_cross : Cal P w K mg base 1 "cross" (LSp K C_cross) []) (c_shape_of : Cal P w K mg base 4 "shape_of" (LSp K C_shape_of) []) (c_off : Cal P w K mg base 4 "off" (LSp K C_off) []) (c_way : Cal P w K mg base 1 "way" (LSp K C_way) []) (c_folded_join : Cal P w K mg base 7 "folded_join" (LSp K C_folded_join) []) (c_wedge : Cal P w K mg base 6 "wedge" (LSp K C_wedge) []) (c_to_right : Cal P w K mg base 5 "to_right" (LSp K C_to_right) []) (c_to_left : Cal P w K mg base 5 "to_left" (LSp K C_to_left) []) (c_twelve : Cal P w K mg base 5 "twelve" (LSp K C_twelve) []) (c_tip_of : Cal P w K mg base 5 "tip_of" (LSp K C_tip_of) []) : Cal P w K mg base 8 "join" (LSp K C_join) [] := by
  refine N.ok sc_join ?_ (fun f cdv A outer s H E hr => (pss_cons (ps_set (i := 3) sc_join.nd rfl (.inl rfl) (pe_ix ix_A (pv 1) pe_int (fun _ _ => rfl)))
      (pss_cons (ps_par (i := 6) (j := 7) rfl sc_join.nd rfl rfl (by decide) rfl rfl (pa_cons (pe_c c_off hr (by decide) (by rfl) (pa_cons (pe_ix ix_A (pv 0) pe_int (fun _ _ => rfl)) (pa_cons (pv 3) (pa_cons (pe_ix ix_A (pv 2) pe_int (fun _ _ => rfl)) pa_nil)))) (pa_cons (pe_c c_off hr (by decide) (by rfl) (pa_cons (pv 3) (pa_cons (pe_ix ix_A (pv 1) pe_int (fun _ _ => rfl)) (pa_cons (pe_ix ix_A (pv 2) pe_int (fun _ _ => rfl)) pa_nil)))) pa_nil)) (by rfl))
      (pss_cons (ps_set (i := 4) sc_join.nd rfl (.inl rfl) (pe_c c_cross hr (by decide) (by rfl) (pa_cons (pe_c c_way hr (by decide) (by rfl) (pa_cons (pe_ix ix_A (pv 0) pe_int (fun _ _ => rfl)) (pa_cons (pv 3) pa_nil))) (pa_cons (pe_c c_way hr (by decide) (by rfl) (pa_cons (pv 3) (pa_cons (pe_ix ix_A (pv 1) pe_int (fun _ _ => rfl)) pa_nil))) pa_nil))))
      (pss_cons (ps_if (pt_cmpR (op_eqA hr.units) (pv 4) pe_int (nomark _)) (pss_one (ps_ret (pe_c c_folded_join hr (by decide) (by rfl) (pa_cons (pv 3) (pa_cons (pv 6) (pa_cons (pv 2) pa_nil)))))) pss_nil)
      (pss_cons (ps_if (pt_cmpR (op_eqA hr.units) (pe_ix ix_A (pv 2) pe_int (fun _ _ => rfl)) (pe_ifExp (pt_cmpR op_gt (pv 4) pe_int (nomark _)) pe_str pe_str) (nomark _)) (pss_one (ps_ret pe_non)) pss_nil)
      (pss_cons (ps_set (i := 5) sc_join.nd rfl (.inl rfl) (pe_ifExp (pt_cmpR op_gt (pv 4) pe_int (nomark _)) (pe_tup (pa_cons (pe_c c_to_right hr (by decide) (by rfl) (pa_cons (pv 3) (pa_cons (pv 6) pa_nil))) (pa_cons (pe_c c_to_right hr (by decide) (by rfl) (pa_cons (pv 3) (pa_cons (pv 7) pa_nil))) pa_nil))) (pe_tup (pa_cons (pe_c c_to_left hr (by decide) (by rfl) (pa_cons (pv 3) (pa_cons (pv 6) pa_nil))) (pa_cons (pe_c c_to_left hr (by decide) (by rfl) (pa_cons (pv 3) (pa_cons (pv 7) pa_nil))) pa_nil)))))
      (pss_cons (ps_if (pt_cmpR (op_eqA hr.units) (pe_ix ix_A (pv 2) pe_int (fun _ _ => rfl)) pe_str (nomark _)) (pss_cons (ps_set (i := 8) sc_join.nd rfl (.inl rfl) (pe_ifExp (pt_cmpR op_gt (pv 4) pe_int (nomark _)) (pv 5) (pe_revT (pv 5))))
      (pss_one (ps_ret (pe_c c_wedge hr (by decide) (by rfl) (pa_cons (pe_c c_twelve hr (by decide) (by rfl) (pa_cons (pv 3) (pa_cons (pe_ix ix_A (pv 2) pe_int (fun _ _ => rfl)) pa_nil))) (pa_cons (pv 3) (pa_cons (pe_ix ix_A (pv 8) pe_int (fun _ _ => rfl)) (pa_cons (pe_ix ix_A (pv 8) pe_int (fun _ _ => rfl)) pa_nil)))))))) pss_nil)
      (pss_one (ps_ret (pe_c c_shape_of hr (by decide) (by rfl) (pa_cons (pe_op op_addA (pe_op op_addA (pe_tup (pa_cons (pv 3) pa_nil)) (pv 5)) (pe_c c_tip_of hr (by decide) (by rfl) (pa_cons (pv 0) (pa_cons (pv 1) (pa_cons (pv 5) (pa_cons (pv 2) pa_nil)))))) pa_nil))))))))))))
    (sns_seq (sns_asg (sn_op snr_ix (sn_var (i := 1)) sn_int) (sng_name (i := 3)))
      (sns_seq (sns_par (i := 6) (j := 7) (sna_cons (sn_call (C := C_off) (sna_cons (sn_op snr_ix (sn_var (i := 0)) sn_int) (sna_cons (sn_var (i := 3)) (sna_cons (sn_op snr_ix (sn_var (i := 2)) sn_int) sna_nil)))) (sna_cons (sn_call (C := C_off) (sna_cons (sn_var (i := 3)) (sna_cons (sn_op snr_ix (sn_var (i := 1)) sn_int) (sna_cons (sn_op snr_ix (sn_var (i := 2)) sn_int) sna_nil)))) sna_nil)))
      (sns_seq (sns_asg (sn_call (C := C_cross) (sna_cons (sn_call (C := C_way) (sna_cons (sn_op snr_ix (sn_var (i := 0)) sn_int) (sna_cons (sn_var (i := 3)) sna_nil))) (sna_cons (sn_call (C := C_way) (sna_cons (sn_var (i := 3)) (sna_cons (sn_op snr_ix (sn_var (i := 1)) sn_int) sna_nil))) sna_nil))) (sng_name (i := 4)))
      (sns_seq (sns_if (snt_test (sn_op snr_eq (sn_var (i := 4)) sn_int)) (sns_ret (sn_call (C := C_folded_join) (sna_cons (sn_var (i := 3)) (sna_cons (sn_var (i := 6)) (sna_cons (sn_var (i := 2)) sna_nil))))) sns_nil)
      (sns_seq (sns_if (snt_test (sn_op snr_eq (sn_op snr_ix (sn_var (i := 2)) sn_int) (sn_if (snt_test (sn_op snr_B (sn_var (i := 4)) sn_int)) sn_str sn_str))) (sns_ret sn_non) sns_nil)
      (sns_seq (sns_asg (sn_if (snt_test (sn_op snr_B (sn_var (i := 4)) sn_int)) (sn_tup (sna_cons (sn_call (C := C_to_right) (sna_cons (sn_var (i := 3)) (sna_cons (sn_var (i := 6)) sna_nil))) (sna_cons (sn_call (C := C_to_right) (sna_cons (sn_var (i := 3)) (sna_cons (sn_var (i := 7)) sna_nil))) sna_nil))) (sn_tup (sna_cons (sn_call (C := C_to_left) (sna_cons (sn_var (i := 3)) (sna_cons (sn_var (i := 6)) sna_nil))) (sna_cons (sn_call (C := C_to_left) (sna_cons (sn_var (i := 3)) (sna_cons (sn_var (i := 7)) sna_nil))) sna_nil)))) (sng_name (i := 5)))
      (sns_seq (sns_if (snt_test (sn_op snr_eq (sn_op snr_ix (sn_var (i := 2)) sn_int) sn_str)) (sns_seq (sns_asg (sn_if (snt_test (sn_op snr_B (sn_var (i := 4)) sn_int)) (sn_var (i := 5)) (sn_revT (sn_var (i := 5)))) (sng_name (i := 8)))
      (sns_ret (sn_call (C := C_wedge) (sna_cons (sn_call (C := C_twelve) (sna_cons (sn_var (i := 3)) (sna_cons (sn_op snr_ix (sn_var (i := 2)) sn_int) sna_nil))) (sna_cons (sn_var (i := 3)) (sna_cons (sn_op snr_ix (sn_var (i := 8)) sn_int) (sna_cons (sn_op snr_ix (sn_var (i := 8)) sn_int) sna_nil))))))) sns_nil)
      (sns_ret (sn_call (C := C_shape_of) (sna_cons (sn_op snr_add (sn_op snr_add (sn_tup (sna_cons (sn_var (i := 3)) sna_nil)) (sn_var (i := 5))) (sn_call (C := C_tip_of) (sna_cons (sn_var (i := 0)) (sna_cons (sn_var (i := 1)) (sna_cons (sn_var (i := 5)) (sna_cons (sn_var (i := 2)) sna_nil)))))) sna_nil)))))))))) ?_
  · exact Con.len fun _ => rfl
  · rintro ds t Q ⟨⟨⟨a, p, b⟩, ⟨u, v⟩, ⟨L, M⟩, r⟩, rfl, h, q⟩
    have h : JPre a p b u v L M r := h
    have q : Q (dO (joinP a p b u v r)) t := q
    have bh := h.ok.bh
    have w1 := wayB h.c1.ba h.c1.bb
    have w2 := wayB h.c2.ba h.c2.bb
    have V1 := ok_bh h.ok h.c1.bu
    have V2 := ok_bh h.ok h.c2.bu
    have bp := h.c1.bb
    refine ⟨(a, p, u, L, r.half), rfl, ⟨h.c1, bh⟩, (p, b, v, M, r.half), rfl, ⟨h.c2, bh⟩, (a, p), rfl, ⟨h.c1.ba.mono (by decide), bp.mono (by decide)⟩, (p, b), rfl, ⟨bp.mono (by decide), h.c2.bb.mono (by decide)⟩,
      (wayI a p, wayI p b), rfl, ⟨w1.1.mono (by decide), w1.2.mono (by decide), w2.1.mono (by decide), w2.2.mono (by decide)⟩, ?_⟩
    obtain ⟨i0, i1⟩ := side_int h.c1 h.c2
    refine (?_ : ∀ i : Int, i = (wayI a p).1 * (wayI p b).2 - (wayI a p).2 * (wayI p b).1 → wgName 4 (.int i) _ _) _ rfl
    intro i hi
    rw [← hi] at i0 i1
    show if decide (i = 0) = true then _ else _
    unfold joinP at q
    refine ite2 (fun k => ?_) (fun k => ?_)
    · rw [if_pos (i0.mp (of_decide_eq_true k))] at q
      exact ⟨(p, offP u r.half, r), rfl, ⟨bp.mono (by decide), V1.mono (by decide), h.ok⟩, q⟩
    · have hn : crU u v ≠ 0 := fun z => k (decide_eq_true (i0.mpr z))
      rw [if_neg hn] at q
      have O := outer_pb (h := r.half) bp h.c1.bu h.c2.bu bh
      have T := T12_ok h.ok.pos (bp.mono (show 90 ≤ 100 by decide)) bh
      have TS := T12_some p h.ok.pos
      have tp := tipP_ok h hn
      have hTP : JPre a p b u v L M r ∧ crU u v ≠ 0 := ⟨h, hn⟩
      have lTP : (tipP a p b u v r).length + 1 + 1 + 1 ≤ 400 := by have := tp.2; omega
      have bTP : PBs 100000 (p :: (outerP p u v r.half).1 :: (outerP p u v r.half).2 :: tipP a p b u v r) := pbs_join (bp.mono (by decide)) O.1 O.2 (by decide) fun x hx => (tp.1 x hx).mono (by decide)
      have WP : ∀ {f l : Pt}, PB 143 f → PB 143 l → Q (dO (wedgeP (T12 p r.half) p f l)) t → C_twelve.c [dP p, dR r.half] t fun d t1 => C_wedge.c [d, dP p, dP f, dP l] t1 Q := fun {f l} hf hl q => by
        refine ⟨(p, r.half), rfl, ⟨bp.mono (by decide), bh⟩, ?_⟩
        refine (?_ : ∀ d : D, d = dO (twelveP p r.half) → C_wedge.c [d, dP p, dP f, dP l] t Q) _ rfl
        intro d hd
        rw [TS] at hd
        subst hd
        exact ⟨(T12 p r.half, p, f, l), rfl, ⟨Nat.le_trans T.1 (by decide), fun x hx => (T.2 x hx).mono (by decide), bp.mono (by decide), hf.mono (by decide), hl.mono (by decide)⟩, q⟩
      clear h T TS
      have bp' : PB 4000 p := bp.mono (by decide)
      have V1' := V1.mono (show 26 ≤ 4000 by decide)
      have V2' := V2.mono (show 26 ≤ 4000 by decide)
      by_cases kp : 0 < crU u v
      · have kd : decide (0 < i) = true := decide_eq_true (i1.mpr kp)
        have eo : outerP p u v r.half = (toR p (offP u r.half), toR p (offP v r.half)) := by unfold outerP; rw [if_pos kp]
        rw [eo] at q bTP O
        rw [if_pos kp, if_pos kp] at q
        refine ite2 (fun _ => ?_) (fun z => absurd kd z)
        have hs : decide (sideS r.side = "left") = decide (r.side = Side.left) := by cases r.side <;> decide
        have hj : decide (joinS r.joining = "round") = decide (r.joining = .round) := by cases r.joining <;> decide
        show if decide (sideS r.side = "left") = true then Q .non t else _
        rw [hs]
        refine ite2 (fun z => ?_) (fun z => ?_)
        · rw [if_pos (of_decide_eq_true z)] at q
          exact q
        · rw [if_neg (fun y => z (decide_eq_true y))] at q
          refine ite2 (fun _ => ?_) (fun z => absurd kd z)
          refine ⟨(p, offP u r.half), rfl, ⟨bp', V1'⟩, (p, offP v r.half), rfl, ⟨bp', V2'⟩, ?_⟩
          show if decide (joinS r.joining = "round") = true then _ else _
          rw [hj]
          refine ite2 (fun y => ?_) (fun y => ?_)
          · rw [if_pos (of_decide_eq_true y)] at q
            refine ite2 (fun _ => ?_) (fun z => absurd kd z)
            exact WP O.1 O.2 q
          · rw [if_neg (fun y' => y (decide_eq_true y'))] at q
            exact ⟨((a, p, b), (u, v), (L, M), r), (by show _ = [dE (a, p), dE (p, b), .tup [dP (outerP p u v r.half).1, dP (outerP p u v r.half).2], dRule r]; rw [eo]), hTP, szOk_mk (by rw [List.length_map]; show 3 + (tipP a p b u v r).length ≤ 1000; omega) ⟨(true, p :: toR p (offP u r.half) :: toR p (offP v r.half) :: tipP a p b u v r), rfl, ⟨lTP, bTP⟩, q⟩⟩
      · have kd : decide (0 < i) = false := decide_eq_false (fun z => kp (i1.mp z))
        have eo : outerP p u v r.half = (toL p (offP u r.half), toL p (offP v r.half)) := by unfold outerP; rw [if_neg kp]
        rw [eo] at q bTP O
        rw [if_neg kp, if_neg kp] at q
        refine ite2 (fun z => absurd (kd.symm.trans z) (by decide)) (fun _ => ?_)
        have hs : decide (sideS r.side = "right") = decide (r.side = Side.right) := by cases r.side <;> decide
        have hj : decide (joinS r.joining = "round") = decide (r.joining = .round) := by cases r.joining <;> decide
        show if decide (sideS r.side = "right") = true then Q .non t else _
        rw [hs]
        refine ite2 (fun z => ?_) (fun z => ?_)
        · rw [if_pos (of_decide_eq_true z)] at q
          exact q
        · rw [if_neg (fun y => z (decide_eq_true y))] at q
          refine ite2 (fun z => absurd (kd.symm.trans z) (by decide)) (fun _ => ?_)
          refine ⟨(p, offP u r.half), rfl, ⟨bp', V1'⟩, (p, offP v r.half), rfl, ⟨bp', V2'⟩, ?_⟩
          show if decide (joinS r.joining = "round") = true then _ else _
          rw [hj]
          refine ite2 (fun y => ?_) (fun y => ?_)
          · rw [if_pos (of_decide_eq_true y)] at q
            refine ite2 (fun z => absurd (kd.symm.trans z) (by decide)) (fun _ => ?_)
            exact WP O.2 O.1 q
          · rw [if_neg (fun y' => y (decide_eq_true y'))] at q
            exact ⟨((a, p, b), (u, v), (L, M), r), (by show _ = [dE (a, p), dE (p, b), .tup [dP (outerP p u v r.half).1, dP (outerP p u v r.half).2], dRule r]; rw [eo]), hTP, szOk_mk (by rw [List.length_map]; show 3 + (tipP a p b u v r).length ≤ 1000; omega) ⟨(true, p :: toL p (offP u r.half) :: toL p (offP v r.half) :: tipP a p b u v r), rfl, ⟨lTP, bTP⟩, q⟩⟩
end
end DL


/-! ## W8 -/
set_option maxRecDepth 100000
/-! widening: ends, lines -/
namespace DL
open PySem PySem.Spec PyProof.Rows L2
open C8 (Cal pe_c pe_gc)
open W15
section
variable {P : Program} {w : World} {K : PySem.W.Frag} {mg : Str → Option Value} {base : Heap}
def C_end_of : Con := Con.of (fun p : Pt × Pt × Pt × Pt × Rat × Rl => [dP p.1, dP p.2.1, dP p.2.2.1, dRule p.2.2.2.2.2])
  (fun p => Pc p.2.1 p.2.2.1 p.2.2.2.1 p.2.2.2.2.1 ∧ PB 90 p.1 ∧ p.2.2.2.2.2.Ok) (fun p => dO (endP p.1 p.2.1 p.2.2.1 p.2.2.2.1 p.2.2.2.2.2))
abbrev s_end_of : Stmt := topS 47
abbrev N_end_of : List Str := ["one", "a", "b", "rule", "some", "side", "found", "out", "corners", "corner"]
theorem sc_end_of : FnScope ["one", "a", "b", "rule", "some", "side", "found", "out", "corners", "corner"] ["one", "a", "b", "rule"] (defScope s_end_of) := ⟨rfl, rfl, rfl, by decide +kernel, rfl, by decide +kernel, by decide +kernel⟩
theorem ok_end_of (N : Dn K mg "end_of" s_end_of ["one", "a", "b", "rule"]) (B : Bt mg) (c_off : Cal P w K mg base 4 "off" (LSp K C_off) []) (c_ahead_part : Cal P w K mg base 6 "ahead_part" (LSp K C_ahead_part) []) (c_cut_off : Cal P w K mg base 5 "cut_off" (LSp K C_cut_off) []) (c_rims : Cal P w K mg base 6 "rims" (LSp K C_rims) []) (c_shape_of : Cal P w K mg base 4 "shape_of" (LSp K C_shape_of) []) (c_twelve : Cal P w K mg base 5 "twelve" (LSp K C_twelve) []) (c_shifted_way : Cal P w K mg base 4 "shifted_way" (LSp K C_shifted_way) []) (c_contrary : Cal P w K mg base 1 "contrary" (LSp K C_contrary) []) (c_moved_by : Cal P w K mg base 4 "moved_by" (LSp K C_moved_by) []) : Cal P w K mg base 7 "end_of" (LSp K C_end_of) [] := by
  refine N.ok sc_end_of ?_ (fun f cdv A outer s H E hr => (pss_cons (ps_set (i := 4) sc_end_of.nd rfl (.inl rfl) (pe_c c_off hr (by decide) (by rfl) (pa_cons (pv 1) (pa_cons (pv 2) (pa_cons (pe_ix ix_A (pv 3) pe_int (fun _ _ => rfl)) pa_nil)))))
      (pss_cons (ps_set (i := 5) sc_end_of.nd rfl (.inl rfl) (pe_ix ix_A (pv 3) pe_int (fun _ _ => rfl)))
      (pss_cons (ps_if (pt_cmpR (op_eqA hr.units) (pe_ix ix_A (pv 3) pe_int (fun _ _ => rfl)) pe_str (nomark _)) (pss_cons (ps_set (i := 7) sc_end_of.nd rfl (.inr rfl) (pe_tup (pa_cons (pe_ix ix_A (pv 4) pe_int (fun _ _ => rfl)) (pa_cons (pe_c c_contrary hr (by decide) (by rfl) (pa_cons (pe_ix ix_A (pv 4) pe_int (fun _ _ => rfl)) pa_nil)) pa_nil))))
      (pss_cons (ps_set (i := 8) sc_end_of.nd rfl (.inl rfl) (pe_c c_rims hr (by decide) (by rfl) (pa_cons (pv 0) (pa_cons (pv 4) (pa_cons (pv 5) pa_nil)))))
      (pss_one (ps_ret (pe_c c_shape_of hr (by decide) (by rfl) (pa_cons (pe_op op_addA (pv 8) (pe_callTy call_tuple_of (by rfl) B.tuple (by decide +kernel) (pa_cons (pe_lc (own := [("corner", 9)]) rfl sc_end_of.nd (pi_seq (pv 8)) (blkOk_by (own := [("corner", 9)]) (N := N_end_of) (sc := defScope s_end_of) (by decide +kernel)) (fun _ _ _ _ _ => (pg_name (i := 9) sc_end_of.nd rfl (.inl rfl))) (fun _ _ _ _ _ => pts_nil) (fun _ _ _ _ _ => (pe_c c_moved_by hr (by decide) (by rfl) (pa_cons (pv 9) (pa_cons (pv 7) pa_nil))))) pa_nil))) pa_nil)))))) pss_nil)
      (pss_cons (ps_set (i := 6) sc_end_of.nd rfl (.inl rfl) (pe_c c_ahead_part hr (by decide) (by rfl) (pa_cons (pe_c c_twelve hr (by decide) (by rfl) (pa_cons (pv 0) (pa_cons (pe_ix ix_A (pv 3) pe_int (fun _ _ => rfl)) pa_nil))) (pa_cons (pv 0) (pa_cons (pv 4) pa_nil)))))
      (pss_cons (ps_if (PW.pt (pw_or (pt_cmpR op_isN (pv 6) pe_non (nomark _)) (pw_or1 (pt_cmpR (op_eqA hr.units) (pv 5) pe_str (nomark _))))) (pss_one (ps_ret (pv 6))) pss_nil)
      (pss_cons (ps_if (pt_cmpR (op_eqA hr.units) (pv 5) pe_str (nomark _)) (pss_one (ps_ret (pe_c c_cut_off hr (by decide) (by rfl) (pa_cons (pv 6) (pa_cons (pv 0) (pa_cons (pe_c c_shifted_way hr (by decide) (by rfl) (pa_cons (pv 0) (pa_cons (pe_tup (pa_cons (pv 1) (pa_cons (pv 2) pa_nil))) pa_nil))) pa_nil)))))) pss_nil)
      (pss_one (ps_ret (pe_c c_cut_off hr (by decide) (by rfl) (pa_cons (pv 6) (pa_cons (pe_c c_shifted_way hr (by decide) (by rfl) (pa_cons (pv 0) (pa_cons (pe_tup (pa_cons (pv 1) (pa_cons (pv 2) pa_nil))) pa_nil))) (pa_cons (pv 0) pa_nil)))))))))))))
    (sns_seq (sns_asg (sn_call (C := C_off) (sna_cons (sn_var (i := 1)) (sna_cons (sn_var (i := 2)) (sna_cons (sn_op snr_ix (sn_var (i := 3)) sn_int) sna_nil)))) (sng_name (i := 4)))
      (sns_seq (sns_asg (sn_op snr_ix (sn_var (i := 3)) sn_int) (sng_name (i := 5)))
      (sns_seq (sns_if (snt_test (sn_op snr_eq (sn_op snr_ix (sn_var (i := 3)) sn_int) sn_str)) (sns_seq (sns_asg (sn_tup (sna_cons (sn_op snr_ix (sn_var (i := 4)) sn_int) (sna_cons (sn_call (C := C_contrary) (sna_cons (sn_op snr_ix (sn_var (i := 4)) sn_int) sna_nil)) sna_nil))) (sng_name (i := 7)))
      (sns_seq (sns_asg (sn_call (C := C_rims) (sna_cons (sn_var (i := 0)) (sna_cons (sn_var (i := 4)) (sna_cons (sn_var (i := 5)) sna_nil)))) (sng_name (i := 8)))
      (sns_ret (sn_call (C := C_shape_of) (sna_cons (sn_op snr_add (sn_var (i := 8)) (sn_cb snc_tuple (sna_cons (sn_lc (sni_seq (sn_var (i := 8))).c (sng_name (i := 9)) snt_yes (sn_call (C := C_moved_by) (sna_cons (sn_var (i := 9)) (sna_cons (sn_var (i := 7)) sna_nil))) (by decide)) sna_nil))) sna_nil))))) sns_nil)
      (sns_seq (sns_asg (sn_call (C := C_ahead_part) (sna_cons (sn_call (C := C_twelve) (sna_cons (sn_var (i := 0)) (sna_cons (sn_op snr_ix (sn_var (i := 3)) sn_int) sna_nil))) (sna_cons (sn_var (i := 0)) (sna_cons (sn_var (i := 4)) sna_nil)))) (sng_name (i := 6)))
      (sns_seq (sns_if (snt_or (snt_test (sn_op snr_is (sn_var (i := 6)) sn_non)) (snt_test (sn_op snr_eq (sn_var (i := 5)) sn_str))) (sns_ret (sn_var (i := 6))) sns_nil)
      (sns_seq (sns_if (snt_test (sn_op snr_eq (sn_var (i := 5)) sn_str)) (sns_ret (sn_call (C := C_cut_off) (sna_cons (sn_var (i := 6)) (sna_cons (sn_var (i := 0)) (sna_cons (sn_call (C := C_shifted_way) (sna_cons (sn_var (i := 0)) (sna_cons (sn_tup (sna_cons (sn_var (i := 1)) (sna_cons (sn_var (i := 2)) sna_nil))) sna_nil))) sna_nil))))) sns_nil)
      (sns_ret (sn_call (C := C_cut_off) (sna_cons (sn_var (i := 6)) (sna_cons (sn_call (C := C_shifted_way) (sna_cons (sn_var (i := 0)) (sna_cons (sn_tup (sna_cons (sn_var (i := 1)) (sna_cons (sn_var (i := 2)) sna_nil))) sna_nil))) (sna_cons (sn_var (i := 0)) sna_nil))))))))))) ?_
  · exact Con.len fun _ => rfl
  · rintro ds t Q ⟨⟨p, a, b, u, L, r⟩, rfl, ⟨c, bp, hr⟩, q⟩
    have c : Pc a b u L := c
    have bp : PB 90 p := bp
    have hr : r.Ok := hr
    have q : Q (dO (endP p a b u r)) t := q
    have V := ok_bh hr c.bu
    have V4 := V.mono (show 26 ≤ 4000 by decide)
    have bp4 : PB 4000 p := bp.mono (by decide)
    have R := rims_pb (s := r.side) bp V
    have hs : decide (endS r.ending = "square") = decide (r.ending = .square) := by cases r.ending <;> decide
    refine ⟨(a, b, u, L, r.half), rfl, ⟨c, hr.bh⟩, ?_⟩
    show if decide (endS r.ending = "square") = true then _ else _
    rw [hs]
    unfold endP at q
    refine ite2 (fun z => ?_) (fun z => ?_)
    · rw [if_pos (of_decide_eq_true z)] at q
      refine ⟨(offP u r.half).1, rfl, trivial, (p, offP u r.half, r.side), rfl, ⟨bp4, V4⟩, by show 2 ≤ 1000; decide, ?_⟩
      have V5 : VB 4000 (r.half * u.x, - -(r.half * u.y)) := ⟨V4.2, V4.1.neg⟩
      refine ⟨((rimsP p (offP u r.half) r.side).1, (r.half * u.x, - -(r.half * u.y))), rfl, ⟨R.1.mono (by decide), V5⟩, ((rimsP p (offP u r.half) r.side).2, (r.half * u.x, - -(r.half * u.y))), rfl, ⟨R.2.mono (by decide), V5⟩, ?_⟩
      refine ⟨(true, [(rimsP p (offP u r.half) r.side).1, (rimsP p (offP u r.half) r.side).2, addP (rimsP p (offP u r.half) r.side).1 (r.half * u.x) (- -(r.half * u.y)), addP (rimsP p (offP u r.half) r.side).2 (r.half * u.x) (- -(r.half * u.y))]), rfl, ⟨by show 4 ≤ 400; decide, ?_⟩, q⟩
      have A1 := addP_pb R.1 V.2 V.1.neg
      have A2 := addP_pb R.2 V.2 V.1.neg
      exact pbs4 (R.1.mono (by decide)) (R.2.mono (by decide)) (A1.mono (by decide)) (A2.mono (by decide))
    · rw [if_neg (fun y => z (decide_eq_true y))] at q
      have T := T12_ok hr.pos (bp.mono (show 90 ≤ 100 by decide)) hr.bh
      have TS := T12_some p hr.pos
      refine ⟨(p, r.half), rfl, ⟨bp.mono (by decide), hr.bh⟩, ?_⟩
      refine (?_ : ∀ d : D, d = dO (twelveP p r.half) → C_ahead_part.c [d, dP p, dV (offP u r.half)] t _) _ rfl
      intro d hd
      rw [TS] at hd
      subst hd
      refine ⟨(T12 p r.half, p, offP u r.half), rfl, ⟨Nat.le_trans T.1 (by decide), fun x hx => (T.2 x hx).mono (by decide), bp.mono (by decide), V.mono (by decide)⟩, ?_⟩
      refine (?_ : ∀ d : D, d = dO (aheadP (T12 p r.half) p (offP u r.half)) → wgName 6 d _ _) _ rfl
      intro d hd
      cases e : aheadP (T12 p r.half) p (offP u r.half) with
      | none =>
        rw [e] at hd q
        subst hd
        exact q
      | some F =>
        rw [e] at hd q
        subst hd
        have e' : cutOff (T12 p r.half) (toL p (offP u r.half)) p = some F := by
          unfold aheadP at e
          exact e
        have hl : F.length ≤ 4 * (T12 p r.half).length := cutOff_len e'
        have hF : PBs (6 * 160 + 5) F := cutOff_pb e' T.2 ((toL_pb bp V).mono (by decide)) (bp.mono (by decide))
        have W := wayAdd_pb bp c.ba c.bb
        have hF' : PBs 2200 F := fun x hx => (hF x hx).mono (by decide)
        have T1 := T.1
        have q : Q (dO (match r.side with | .both => some F | .left => cutOff F p (wayAdd p a b) | .right => cutOff F (wayAdd p a b) p)) t := q
        obtain ⟨hf, s, en, j, bd⟩ := r
        cases s with
        | both => exact q
        | left => exact ⟨(p, a, b), rfl, ⟨bp.mono (by decide), c.ba, c.bb⟩, (F, p, wayAdd p a b), rfl, ⟨by show F.length ≤ 150; omega, hF', bp.mono (by decide), W.mono (by decide)⟩, q⟩
        | right => exact ⟨(p, a, b), rfl, ⟨bp.mono (by decide), c.ba, c.bb⟩, (F, wayAdd p a b, p), rfl, ⟨by show F.length ≤ 150; omega, hF', W.mono (by decide), bp.mono (by decide)⟩, q⟩
def dLine (l : Ln) : D := .tup [.bl l.closed, .tup (l.pts.map dP)]
def C_pieces : Con := Con.of (fun l : Ln => [dLine l]) (fun l => 2 ≤ l.pts.length ∧ l.pts.length ≤ 9) (fun l => .tup (l.pieces.map dE))
theorem pairsD_map : ∀ (xs ys : List Pt), pairsD (xs.map dP) (ys.map dP) = (xs.zip ys).map dE
  | [], ys => by cases ys <;> rfl
  | x :: xs, [] => rfl
  | x :: xs, y :: ys => by
    show D.tup [dP x, dP y] :: pairsD (xs.map dP) (ys.map dP) = _
    rw [pairsD_map xs ys]
    rfl
theorem cutD_tail (x : D) (r : List D) : cutD (x :: r) (some 1) none = r := by
  have e : HT.sIx (x :: r).length 0 (some 1) = 1 := by
    have := HT.sIx_nat (x :: r).length 0 1
    rw [List.length_cons] at *
    have h : ((1 : Nat) : Int) = 1 := rfl
    rw [h] at this
    rw [this]
    omega
  unfold cutD
  rw [e, HT.sIx_none, List.length_cons, Nat.add_sub_cancel, List.drop_succ_cons, List.drop_zero, List.take_length]
abbrev s_pieces : Stmt := topS 21
abbrev N_pieces : List Str := ["line", "found", "closed", "places_here"]
theorem sc_pieces : FnScope ["line", "found", "closed", "places_here"] ["line"] (defScope s_pieces) := ⟨rfl, rfl, rfl, by decide +kernel, rfl, by decide +kernel, by decide +kernel⟩
theorem ok_pieces (N : Dn K mg "pieces" s_pieces ["line"]) (B : Bt mg) : Cal P w K mg base 1 "pieces" (LSp K C_pieces) [] := by
  refine N.ok sc_pieces ?_ (fun f cdv A outer s H E hr => (pss_cons (ps_asg (pv 0) (pg_tup rfl (pgs_cons (pg_name (i := 2) sc_pieces.nd rfl (.inl rfl)) (pgs_cons (pg_name (i := 3) sc_pieces.nd rfl (.inl rfl)) pgs_nil))))
      (pss_cons (ps_set (i := 1) sc_pieces.nd rfl (.inl rfl) (pe_listZip rfl (by rfl) B.list (by rfl) B.zip (pa_cons (pv 3) (pa_cons (pe_slice sl_A (pv 3) (po_some pe_int) po_none) pa_nil))))
      (pss_cons (ps_if (pt_val (pv 2)) (pss_one (ps_expr (pe_bm PySem.F.plainAttrs_list PySem.F.slot_list_append PySem.F.type_list_append mt_append (pv 1) (pa_cons (pe_tup (pa_cons (pe_ix ix_A (pv 3) (pe_un un_neg pe_int) (fun _ _ => rfl)) (pa_cons (pe_ix ix_A (pv 3) pe_int (fun _ _ => rfl)) pa_nil))) pa_nil)))) pss_nil)
      (pss_one (ps_ret (pe_callTy call_tuple_of (by rfl) B.tuple (by decide +kernel) (pa_cons (pv 1) pa_nil))))))))
    (sns_seq (sns_asg (sn_var (i := 0)) (sng_tup (n := 2) (sngs_cons (sng_name (i := 2)) (sngs_cons (sng_name (i := 3)) sngs_nil))))
      (sns_seq (sns_ownN (i := 1) (snn_listZip (sna_cons (sn_var (i := 3)) (sna_cons (sn_sl (sn_var (i := 3)) (sno_some sn_int) sno_none) sna_nil))))
      (sns_seq (sns_if (snt_B (sn_var (i := 2))) (sns_app (i := 1) (sn_tup (sna_cons (sn_op snr_ix (sn_var (i := 3)) (sn_un snu_neg sn_int)) (sna_cons (sn_op snr_ix (sn_var (i := 3)) sn_int) sna_nil)))) sns_nil)
      (sns_frz (i := 1) (sns_ret (sn_cb snc_tuple (sna_cons (sn_var (i := 1)) sna_nil))))))) ?_
  · exact Con.len fun _ => rfl
  · rintro ds t Q ⟨⟨cl, pts⟩, rfl, ⟨h2, h9⟩, q⟩
    have h2 : 2 ≤ pts.length := h2
    have h9 : pts.length ≤ 9 := h9
    have q : Q (.tup ((Ln.pieces ⟨cl, pts⟩).map dE)) t := q
    have hc : cutD (pts.map dP) (some 1) none = pts.tail.map dP := by
      cases pts with
      | nil => exact absurd h2 (by decide)
      | cons x r => exact cutD_tail _ _
    have hl : (pts.map dP).length = (pts.tail.map dP).length + 1 := by
      rw [List.length_map, List.length_map, List.length_tail]
      omega
    refine ⟨pts.map dP, pts.tail.map dP, (pts.zip pts.tail).map dE, by show [D.tup (pts.map dP), D.tup (cutD (pts.map dP) (some 1) none)] = _; rw [hc], (pairsD_map _ _).symm, hl, by rw [List.length_map, List.length_tail]; omega, ?_⟩
    have z : (pts.zip pts.tail).length ≤ 9 := by rw [List.length_zip, List.length_tail]; omega
    unfold Ln.pieces at q
    have last : atD (pts.map dP) (-1) = some (dP (pts.getLastD ⟨0, 0⟩)) := by
      rcases List.eq_nil_or_concat pts with rfl | ⟨i, x, rfl⟩
      · exact absurd h2 (by decide)
      · rw [List.map_concat]
        have := atD_neg1 (xs := i.map dP) (x := dP x)
        simp only [List.concat_eq_append] at *
        rw [this]
        simp
    have first : atD (pts.map dP) 0 = some (dP (pts.headD ⟨0, 0⟩)) := by
      cases pts with
      | nil => exact absurd h2 (by decide)
      | cons x r => rfl
    cases cl with
    | false =>
      have q : Q (.tup ((pts.zip pts.tail ++ []).map dE)) t := q
      rw [List.append_nil] at q
      exact q
    | true =>
      have q : Q (.tup ((pts.zip pts.tail ++ [(pts.getLastD ⟨0, 0⟩, pts.headD ⟨0, 0⟩)]).map dE)) t := q
      rw [List.map_append] at q
      refine opD_mk last (opD_mk first ⟨by rw [List.length_map]; omega, ?_⟩)
      exact q
end
end DL


/-! ## W9 -/
set_option maxRecDepth 100000
/-! widening: the whole line -/
namespace DL
open PySem PySem.Spec PyProof.Rows L2
open C8 (Cal pe_c pe_gc)
open W15
section
variable {P : Program} {w : World} {K : PySem.W.Frag} {mg : Str → Option Value} {base : Heap}
def dT (e : (Pt × Pt) × (Pt × Pt)) : D := .tup [dE e.1, dE e.2]
theorem atE (F : List (Pt × Pt)) {k : Nat} (h : k < F.length) : atD (F.map dE) (k : Int) = some (dE (F.getD k (⟨0, 0⟩, ⟨0, 0⟩))) := by
  unfold atD
  have h1 : ¬ ((k : Int) < 0) := by omega
  rw [List.getD_eq_getElem?_getD, List.getElem?_eq_getElem h]
  first
    | (rw [if_neg h1, Int.toNat_natCast, List.getElem?_map, List.getElem?_eq_getElem h]; rfl)
    | (simp only [h1, if_false, Int.toNat_natCast, List.getElem?_map, List.getElem?_eq_getElem h]; rfl)
def C_turns_of : Con := Con.of (fun l : Ln => [dLine l]) (fun l => 2 ≤ l.pts.length ∧ l.pts.length ≤ 9) (fun l => .lst (l.turns.map dT))
abbrev s_turns_of : Stmt := topS 20
abbrev N_turns_of : List Str := ["line", "found", "k"]
theorem sc_turns_of : FnScope ["line", "found", "k"] ["line"] (defScope s_turns_of) := ⟨rfl, rfl, rfl, by decide +kernel, rfl, by decide +kernel, by decide +kernel⟩
theorem ok_turns_of (N : Dn K mg "turns_of" s_turns_of ["line"]) (B : Bt mg) (c_pieces : Cal P w K mg base 1 "pieces" (LSp K C_pieces) []) : Cal P w K mg base 2 "turns_of" (LSp K C_turns_of) [] := by
  refine N.ok sc_turns_of ?_ (fun f cdv A outer s H E hr => (pss_cons (ps_set (i := 1) sc_turns_of.nd rfl (.inr rfl) (pe_c c_pieces hr (by decide) (by rfl) (pa_cons (pv 0) pa_nil)))
      (pss_cons (ps_if (pt_val (pe_ix ix_A (pv 0) pe_int (fun _ _ => rfl))) (pss_one (ps_ret (pe_lc (own := [("k", 2)]) rfl sc_turns_of.nd (pi_range1 (by rfl) B.range (pa_cons (pe_callB call_len_seq (by rfl) B.len (by decide +kernel) (pa_cons (pv 1) pa_nil)) pa_nil)) (blkOk_by (own := [("k", 2)]) (N := N_turns_of) (sc := defScope s_turns_of) (by decide +kernel)) (fun _ _ _ _ _ => (pg_name (i := 2) sc_turns_of.nd rfl (.inl rfl))) (fun _ _ _ _ _ => pts_nil) (fun _ _ _ _ _ => (pe_tup (pa_cons (pe_ix ix_A (pv 1) (pv 2) (fun _ _ => rfl)) (pa_cons (pe_ix ix_A (pv 1) (pe_op op_modN (pe_op op_addA (pv 2) pe_int) (pe_callB call_len_seq (by rfl) B.len (by decide +kernel) (pa_cons (pv 1) pa_nil))) (fun _ _ => rfl)) pa_nil))))))) pss_nil)
      (pss_one (ps_ret (pe_lc (own := [("k", 2)]) rfl sc_turns_of.nd (pi_range1 (by rfl) B.range (pa_cons (pe_op op_sub (pe_callB call_len_seq (by rfl) B.len (by decide +kernel) (pa_cons (pv 1) pa_nil)) pe_int) pa_nil)) (blkOk_by (own := [("k", 2)]) (N := N_turns_of) (sc := defScope s_turns_of) (by decide +kernel)) (fun _ _ _ _ _ => (pg_name (i := 2) sc_turns_of.nd rfl (.inl rfl))) (fun _ _ _ _ _ => pts_nil) (fun _ _ _ _ _ => (pe_tup (pa_cons (pe_ix ix_A (pv 1) (pv 2) (fun _ _ => rfl)) (pa_cons (pe_ix ix_A (pv 1) (pe_op op_addA (pv 2) pe_int) (fun _ _ => rfl)) pa_nil))))))))))
    (sns_seq (sns_asg (sn_call (C := C_pieces) (sna_cons (sn_var (i := 0)) sna_nil)) (sng_name (i := 1)))
      (sns_seq (sns_if (snt_B (sn_op snr_ix (sn_var (i := 0)) sn_int)) (sns_ret (sn_lc (sni_rng (sna_cons (sn_cb snc_len (sna_cons (sn_var (i := 1)) sna_nil)) sna_nil)).c (sng_name (i := 2)) snt_yes (sn_tup (sna_cons (sn_op snr_ix (sn_var (i := 1)) (sn_var (i := 2))) (sna_cons (sn_op snr_ix (sn_var (i := 1)) (sn_op snr_IC (sn_op snr_add (sn_var (i := 2)) sn_int) (sn_cb snc_len (sna_cons (sn_var (i := 1)) sna_nil)))) sna_nil))) (by decide))) sns_nil)
      (sns_ret (sn_lc (sni_rng (sna_cons (sn_op snr_I (sn_cb snc_len (sna_cons (sn_var (i := 1)) sna_nil)) sn_int) sna_nil)).c (sng_name (i := 2)) snt_yes (sn_tup (sna_cons (sn_op snr_ix (sn_var (i := 1)) (sn_var (i := 2))) (sna_cons (sn_op snr_ix (sn_var (i := 1)) (sn_op snr_add (sn_var (i := 2)) sn_int)) sna_nil))) (by decide))))) ?_
  · exact Con.len fun _ => rfl
  · rintro ds t Q ⟨l, rfl, ⟨h2, h9⟩, q⟩
    have h2 : 2 ≤ l.pts.length := h2
    have h9 : l.pts.length ≤ 9 := h9
    have hl := pieces_len h2
    have q : Q (.lst (l.turns.map dT)) t := q
    refine ⟨l, rfl, ⟨h2, h9⟩, ?_⟩
    unfold Ln.turns at q
    refine (?_ : ∀ F : List (Pt × Pt), F = l.pieces → wgName 1 (.tup (F.map dE)) _ _) _ rfl
    intro F eF
    rw [← eF] at hl q
    clear eF
    obtain ⟨cl, pts⟩ := l
    have hF : F.length ≤ 9 := by
      rw [hl]
      split
      · exact h9
      · exact Nat.le_trans (Nat.sub_le _ _) h9
    have hF1 : 1 ≤ F.length := by
      rw [hl]
      have : 2 ≤ pts.length := h2
      split <;> omega
    cases cl with
    | true =>
      refine ⟨⟨by show (-1000 : Int) ≤ ((_ : Nat) : Int); omega, by show ((List.map dE F).length : Int) ≤ 1000; rw [List.length_map]; omega⟩, by
        show ((List.range ((F.map dE).length : Int).toNat).map fun (k : Nat) => D.int (k : Int)).length ≤ 1000
        rw [List.length_map, List.length_range, List.length_map]
        omega, ?_⟩
      show lcW _ _ _ _ ((List.range ((F.map dE).length : Int).toNat).map fun (k : Nat) => D.int (k : Int)) [] t Q
      rw [List.length_map, Int.toNat_natCast]
      refine lcW_all (g := fun k => dT (F.getD k (⟨0, 0⟩, ⟨0, 0⟩), F.getD ((k + 1) % F.length) (⟨0, 0⟩, ⟨0, 0⟩))) (fun k hk t P hp => ?_) ?_
      · have hk : k < F.length := List.mem_range.mp hk
        have hm : (k + 1) % F.length < F.length := Nat.mod_lt _ (by omega)
        refine opD_mk (atE F hk) ?_
        refine ⟨by show ((List.map dE F).length : Int) ≠ 0; rw [List.length_map]; omega, ?_⟩
        refine opD_mk (d := dE (F.getD ((k + 1) % F.length) (⟨0, 0⟩, ⟨0, 0⟩))) ?_ hp
        have e : ((k : Int) + 1).fmod ((F.map dE).length : Int) = (((k + 1) % F.length : Nat) : Int) := by
          rw [List.length_map, Int.fmod_eq_emod_of_nonneg _ (by omega)]
          rfl
        rw [e]
        exact atE F hm
      · simp only [if_true] at q
        rw [List.map_map] at q
        exact q
    | false =>
      have hn : (((F.map dE).length : Int) - 1) = ((F.length - 1 : Nat) : Int) := by rw [List.length_map]; omega
      refine ⟨⟨by show (-1000 : Int) ≤ ((F.map dE).length : Int) - 1; rw [hn]; omega, by show ((List.map dE F).length : Int) - 1 ≤ 1000; rw [hn]; omega⟩, by
        show ((List.range (((F.map dE).length : Int) - 1).toNat).map fun (k : Nat) => D.int (k : Int)).length ≤ 1000
        rw [hn, List.length_map, List.length_range]
        omega, ?_⟩
      show lcW _ _ _ _ ((List.range (((F.map dE).length : Int) - 1).toNat).map fun (k : Nat) => D.int (k : Int)) [] t Q
      rw [hn, Int.toNat_natCast]
      refine lcW_all (g := fun k => dT (F.getD k (⟨0, 0⟩, ⟨0, 0⟩), F.getD (k + 1) (⟨0, 0⟩, ⟨0, 0⟩))) (fun k hk t P hp => ?_) ?_
      · have hk : k < F.length - 1 := List.mem_range.mp hk
        refine opD_mk (atE F (show k < F.length by omega)) ?_
        exact opD_mk (d := dE (F.getD (k + 1) (⟨0, 0⟩, ⟨0, 0⟩))) (atE F (show k + 1 < F.length by omega)) hp
      · simp only [Bool.false_eq_true, if_false] at q
        rw [List.map_map] at q
        exact q
theorem pc_rev {a b u : Pt} {L : Rat} (c : Pc a b u L) : Pc b a (negP u) L :=
  ⟨c.pos, by have := c.ex; unfold negP; grind, by have := c.ey; unfold negP; grind, by have := c.one; unfold negP; grind, ⟨c.bu.1.neg, c.bu.2.neg⟩, c.bL, c.bb, c.ba⟩
noncomputable def C_ends_of : Con := Con.of (fun p : Ln × Rl => [dLine p.1, dRule p.2]) (fun p => p.1.Ok ∧ p.2.Ok) (fun p => .lst ((endsP p.1 p.2).map dO))
abbrev s_ends_of : Stmt := topS 48
abbrev N_ends_of : List Str := ["line", "rule", "turned", "first", "last"]
theorem sc_ends_of : FnScope ["line", "rule", "turned", "first", "last"] ["line", "rule"] (defScope s_ends_of) := ⟨rfl, rfl, rfl, by decide +kernel, rfl, by decide +kernel, by decide +kernel⟩
theorem ok_ends_of (N : Dn K mg "ends_of" s_ends_of ["line", "rule"]) (c_end_of : Cal P w K mg base 7 "end_of" (LSp K C_end_of) []) (c_pieces : Cal P w K mg base 1 "pieces" (LSp K C_pieces) []) : Cal P w K mg base 8 "ends_of" (LSp K C_ends_of) [] := by
  refine N.ok sc_ends_of ?_ (fun f cdv A outer s H E hr => (pss_cons (ps_if (PW.pt (pw_or (pt_val (pe_ix ix_A (pv 0) pe_int (fun _ _ => rfl))) (pw_or1 (pt_cmpR (op_eqA hr.units) (pe_ix ix_A (pv 1) pe_int (fun _ _ => rfl)) pe_str (nomark _))))) (pss_one (ps_ret (pe_lst pa_nil))) pss_nil)
      (pss_cons (ps_par (i := 3) (j := 4) rfl sc_ends_of.nd rfl rfl (by decide) rfl rfl (pa_cons (pe_ix ix_A (pe_c c_pieces hr (by decide) (by rfl) (pa_cons (pv 0) pa_nil)) pe_int (fun _ _ => rfl)) (pa_cons (pe_ix ix_A (pe_c c_pieces hr (by decide) (by rfl) (pa_cons (pv 0) pa_nil)) (pe_un un_neg pe_int) (fun _ _ => rfl)) pa_nil)) (by rfl))
      (pss_cons (ps_set (i := 2) sc_ends_of.nd rfl (.inl rfl) (pv 1))
      (pss_cons (ps_if (pt_cmpR (op_neA hr.units) (pe_ix ix_A (pv 1) pe_int (fun _ _ => rfl)) pe_str (nomark _)) (pss_one (ps_set (i := 2) sc_ends_of.nd rfl (.inl rfl) (pe_op op_addA (pe_tup (pa_cons (pe_ix ix_A (pv 1) pe_int (fun _ _ => rfl)) (pa_cons (pe_ifExp (pt_cmpR (op_eqA hr.units) (pe_ix ix_A (pv 1) pe_int (fun _ _ => rfl)) pe_str (nomark _)) pe_str pe_str) pa_nil))) (pe_slice sl_A (pv 1) (po_some pe_int) po_none)))) pss_nil)
      (pss_one (ps_ret (pe_lst (pa_cons (pe_c c_end_of hr (by decide) (by rfl) (pa_cons (pe_ix ix_A (pv 3) pe_int (fun _ _ => rfl)) (pa_cons (pe_ix ix_A (pv 3) pe_int (fun _ _ => rfl)) (pa_cons (pe_ix ix_A (pv 3) pe_int (fun _ _ => rfl)) (pa_cons (pv 2) pa_nil))))) (pa_cons (pe_c c_end_of hr (by decide) (by rfl) (pa_cons (pe_ix ix_A (pv 4) pe_int (fun _ _ => rfl)) (pa_cons (pe_ix ix_A (pv 4) pe_int (fun _ _ => rfl)) (pa_cons (pe_ix ix_A (pv 4) pe_int (fun _ _ => rfl)) (pa_cons (pv 1) pa_nil))))) pa_nil))))))))))
    (sns_seq (sns_if (snt_or (snt_B (sn_op snr_ix (sn_var (i := 0)) sn_int)) (snt_test (sn_op snr_eq (sn_op snr_ix (sn_var (i := 1)) sn_int) sn_str))) (sns_ret (sn_lst sna_nil)) sns_nil)
      (sns_seq (sns_par (i := 3) (j := 4) (sna_cons (sn_op snr_ix (sn_call (C := C_pieces) (sna_cons (sn_var (i := 0)) sna_nil)) sn_int) (sna_cons (sn_op snr_ix (sn_call (C := C_pieces) (sna_cons (sn_var (i := 0)) sna_nil)) (sn_un snu_neg sn_int)) sna_nil)))
      (sns_seq (sns_asg (sn_var (i := 1)) (sng_name (i := 2)))
      (sns_seq (sns_if (snt_test (sn_op snr_ne (sn_op snr_ix (sn_var (i := 1)) sn_int) sn_str)) (sns_asg (sn_op snr_add (sn_tup (sna_cons (sn_op snr_ix (sn_var (i := 1)) sn_int) (sna_cons (sn_if (snt_test (sn_op snr_eq (sn_op snr_ix (sn_var (i := 1)) sn_int) sn_str)) sn_str sn_str) sna_nil))) (sn_sl (sn_var (i := 1)) (sno_some sn_int) sno_none)) (sng_name (i := 2))) sns_nil)
      (sns_ret (sn_lst (sna_cons (sn_call (C := C_end_of) (sna_cons (sn_op snr_ix (sn_var (i := 3)) sn_int) (sna_cons (sn_op snr_ix (sn_var (i := 3)) sn_int) (sna_cons (sn_op snr_ix (sn_var (i := 3)) sn_int) (sna_cons (sn_var (i := 2)) sna_nil))))) (sna_cons (sn_call (C := C_end_of) (sna_cons (sn_op snr_ix (sn_var (i := 4)) sn_int) (sna_cons (sn_op snr_ix (sn_var (i := 4)) sn_int) (sna_cons (sn_op snr_ix (sn_var (i := 4)) sn_int) (sna_cons (sn_var (i := 1)) sna_nil))))) sna_nil)))))))) ?_
  · exact Con.len fun _ => rfl
  · rintro ds t Q ⟨⟨l, r⟩, rfl, ⟨hl, hr⟩, q⟩
    have hl : l.Ok := hl
    have hr : r.Ok := hr
    have q : Q (.lst ((endsP l r).map dO)) t := q
    have hs : decide (endS r.ending = "cut") = decide (r.ending = .cut) := by cases r.ending <;> decide
    have hL := pieces_len hl.two
    have hex := hl.ex
    have two := hl.two
    have nine := hl.nine
    unfold endsP at q
    by_cases hc : l.closed = true
    · rw [if_pos (.inl hc)] at q
      show if l.closed = true then _ else _
      rw [if_pos hc]
      exact q
    · show if l.closed = true then _ else _
      rw [if_neg hc]
      have hf : l.closed = false := by simpa using hc
      show if decide (endS r.ending = "cut") = true then _ else _
      rw [hs]
      refine ite2 (fun z => ?_) (fun z => ?_)
      · rw [if_pos (.inr (of_decide_eq_true z))] at q
        exact q
      · rw [if_neg (fun y => y.elim hc fun y => z (decide_eq_true y))] at q
        refine ⟨l, rfl, ⟨two, nine⟩, ?_⟩
        have hn : l.pieces ≠ [] := fun e => by
          rw [e, hf] at hL
          have hL : 0 = l.pts.length - 1 := hL
          omega
        have m1 : l.pieces.headD (⟨0, 0⟩, ⟨0, 0⟩) ∈ l.pieces := by
          cases h : l.pieces with
          | nil => exact absurd h hn
          | cons x xs => exact List.mem_cons_self
        have m2 : l.pieces.getLastD (⟨0, 0⟩, ⟨0, 0⟩) ∈ l.pieces := by
          rw [List.getLastD_eq_getLast?, List.getLast?_eq_some_getLast hn]
          exact List.getLast_mem hn
        have c1 := pc_of (hex _ m1)
        have c2 := pc_of (hex _ m2)
        have first : atD (l.pieces.map dE) 0 = some (dE (l.pieces.headD (⟨0, 0⟩, ⟨0, 0⟩))) := by
          cases h : l.pieces with
          | nil => exact absurd h hn
          | cons x r => rfl
        have last : atD (l.pieces.map dE) (-1) = some (dE (l.pieces.getLastD (⟨0, 0⟩, ⟨0, 0⟩))) := by
          rcases List.eq_nil_or_concat l.pieces with e | ⟨i, x, e⟩
          · exact absurd e hn
          · rw [e, List.map_concat]
            have := atD_neg1 (xs := i.map dE) (x := dE x)
            simp only [List.concat_eq_append] at *
            rw [this]
            simp
        refine opD_mk first ⟨l, rfl, ⟨two, nine⟩, opD_mk last ?_⟩
        generalize l.pieces.headD (⟨0, 0⟩, ⟨0, 0⟩) = e at *
        generalize l.pieces.getLastD (⟨0, 0⟩, ⟨0, 0⟩) = f at *
        have h' : ({ r with side := flipS r.side } : Rl).Ok := ⟨hr.pos, hr.bh, hr.bb, hr.one⟩
        have fin : C_end_of.c [dP e.1, dP e.2, dP e.1, dRule { r with side := flipS r.side }] t fun d1 t1 => C_end_of.c [dP f.2, dP f.1, dP f.2, dRule r] t1 fun d2 t2 => Q (.lst [d1, d2]) t2 :=
          ⟨(e.1, e.2, e.1, negP (uOf e), LOf e, { r with side := flipS r.side }), rfl, ⟨pc_rev c1, c1.ba, h'⟩, (f.2, f.1, f.2, uOf f, LOf f, r), rfl, ⟨c2, c2.bb, hr⟩, q⟩
        obtain ⟨hf, s, en, j, bd⟩ := r
        cases s with
        | both => exact fin
        | left => exact fin
        | right => exact fin
end
end DL


/-! ## W10 -/
set_option maxRecDepth 100000
/-! widened -/
namespace DL
open PySem PySem.Spec PyProof.Rows L2
open C8 (Cal pe_c pe_gc)
open W15
section
variable {P : Program} {w : World} {K : PySem.W.Frag} {mg : Str → Option Value} {base : Heap}
/-- few corners, of so many bits -/
def Few (o : Option (List Pt)) : Prop := ∀ S, o = some S → S.length ≤ 400 ∧ PBs 100000 S
theorem few_shape {S : List Pt} (h : S.length ≤ 200) (k : PBs 100000 S) : Few (shapeOf S) := fun F e => ⟨by have := shapeOf_len e; omega, fun x hx => k x (shapeOf_mem e hx)⟩
theorem few_cut {S : List Pt} {a b : Pt} (h : S.length ≤ 100) {n : Nat} (l : 6 * n + 5 ≤ 100000) (k : PBs n S) (ha : PB n a) (hb : PB n b) : Few (cutOff S a b) := fun F e => ⟨by have := cutOff_len e; omega, fun x hx => (cutOff_pb e k ha hb x hx).mono l⟩
theorem few_none : Few none := fun S e => by cases e
theorem few_ahead {p u : Pt} {h : Rat} (hh : 0 < h) (hp : PB 90 p) (hu : RB 6 u.x ∧ RB 6 u.y) (hB : RB 20 h) : ∀ F, aheadP (T12 p h) p (offP u h) = some F → F.length ≤ 96 ∧ PBs 965 F := fun F e => by
  unfold aheadP at e
  have T := T12_ok hh (hp.mono (show 90 ≤ 100 by decide)) hB
  have hl : F.length ≤ 4 * (T12 p h).length := cutOff_len e
  exact ⟨by have := T.1; omega, cutOff_pb (n := 160) e T.2 ((toL_pb hp (off_vb hu hB)).mono (by decide)) (hp.mono (by decide))⟩
theorem few_wedge {p f l : Pt} {h : Rat} (hh : 0 < h) (hp : PB 90 p) (hf : PB 143 f) (hl : PB 143 l) (hB : RB 20 h) : Few (wedgeP (T12 p h) p f l) := by
  have T := T12_ok hh (hp.mono (show 90 ≤ 100 by decide)) hB
  unfold wedgeP
  cases e : cutOff (T12 p h) p f with
  | none => exact few_none
  | some F =>
    have k1 := cutOff_len e
    have k2 := cutOff_pb (n := 160) e T.2 (hp.mono (by decide)) (hf.mono (by decide))
    exact few_cut (n := 965) (by have := T.1; omega) (by decide) k2 (hl.mono (by decide)) (hp.mono (by decide))
theorem few_strip {a b u : Pt} {L : Rat} {r : Rl} (c : Pc a b u L) (h : r.Ok) : Few (stripP a b u r) := by
  unfold stripP
  exact few_shape (by show 4 ≤ 200; decide) fun x hx => (strip_pb c h x hx).mono (by decide)
theorem few_join {a p b u v : Pt} {L M : Rat} {r : Rl} (h : JPre a p b u v L M r) : Few (joinP a p b u v r) := by
  have O := outer_pb (h := r.half) h.c1.bb h.c1.bu h.c2.bu h.ok.bh
  unfold joinP
  by_cases hn : crU u v = 0
  · rw [if_pos hn]
    unfold foldedP
    split
    · intro F e
      obtain ⟨k1, k2⟩ := few_ahead h.ok.pos h.c1.bb h.c1.bu h.ok.bh F e
      exact ⟨by omega, fun x hx => (k2 x hx).mono (by decide)⟩
    · exact few_none
  · rw [if_neg hn]
    by_cases hs : r.side = (if 0 < crU u v then Side.left else Side.right)
    · rw [if_pos hs]
      exact few_none
    · rw [if_neg hs]
      by_cases hj : r.joining = .round
      · rw [if_pos hj]
        split
        · exact few_wedge h.ok.pos h.c1.bb O.1 O.2 h.ok.bh
        · exact few_wedge h.ok.pos h.c1.bb O.2 O.1 h.ok.bh
      · rw [if_neg hj]
        have tp := tipP_ok h hn
        refine few_shape (S := p :: (outerP p u v r.half).1 :: (outerP p u v r.half).2 :: tipP a p b u v r) (by show (tipP a p b u v r).length + 1 + 1 + 1 ≤ 200; have := tp.2; omega) ?_
        exact pbs_join (h.c1.bb.mono (by decide)) O.1 O.2 (by decide) fun x hx => (tp.1 x hx).mono (by decide)
theorem few_end {p a b u : Pt} {L : Rat} {r : Rl} (c : Pc a b u L) (bp : PB 90 p) (h : r.Ok) : Few (endP p a b u r) := by
  have V := ok_bh h c.bu
  have R := rims_pb (s := r.side) bp V
  unfold endP
  split
  · have A1 := addP_pb R.1 V.2 V.1.neg
    have A2 := addP_pb R.2 V.2 V.1.neg
    exact few_shape (by show 4 ≤ 200; decide) (pbs4 (R.1.mono (by decide)) (R.2.mono (by decide)) (A1.mono (by decide)) (A2.mono (by decide)))
  · cases e : aheadP (T12 p r.half) p (offP u r.half) with
    | none => exact few_none
    | some F =>
      obtain ⟨k1, k2⟩ := few_ahead h.pos bp c.bu h.bh F e
      have W := wayAdd_pb bp c.ba c.bb
      show Few (match r.side with | .both => some F | .left => cutOff F p (wayAdd p a b) | .right => cutOff F (wayAdd p a b) p)
      cases r.side with
      | both =>
        intro S e
        have e : some F = some S := e
        injection e with e
        subst e
        exact ⟨by omega, fun x hx => (k2 x hx).mono (by decide)⟩
      | left => exact few_cut (n := 965) (by omega) (by decide) k2 (bp.mono (by decide)) (W.mono (by decide))
      | right => exact few_cut (n := 965) (by omega) (by decide) k2 (W.mono (by decide)) (bp.mono (by decide))
theorem turn_pre {l : Ln} {r : Rl} (hl : l.Ok) (hr : r.Ok) {e : (Pt × Pt) × (Pt × Pt)} (he : e ∈ l.turns) : JPre e.1.1 e.2.1 e.2.2 (uOf e.1) (uOf e.2) (LOf e.1) (LOf e.2) r := by
  obtain ⟨m1, m2, lk⟩ := turns_at hl.two he
  have c1 := pc_of (hl.ex e.1 m1)
  rw [lk] at c1
  exact ⟨c1, pc_of (hl.ex e.2 m2), hr⟩
theorem turns_len {l : Ln} (h : 2 ≤ l.pts.length) : l.turns.length ≤ l.pts.length := by
  have L := pieces_len h
  unfold Ln.turns
  split
  · rename_i hc
    rw [List.length_map, List.length_range, L, if_pos hc]
    exact Nat.le_refl _
  · rename_i hc
    rw [List.length_map, List.length_range, L, if_neg hc]
    omega
theorem pieces_len9 {l : Ln} (h : 2 ≤ l.pts.length) : l.pieces.length ≤ l.pts.length := by
  rw [pieces_len h]
  split
  · exact Nat.le_refl _
  · omega
theorem few_parts {l : Ln} {r : Rl} (hl : l.Ok) (hr : r.Ok) : (∀ o ∈ partsP l r, Few o) ∧ (partsP l r).length ≤ 20 := by
  have L1 := pieces_len9 hl.two
  have L2 := turns_len hl.two
  have nine := hl.nine
  unfold partsP endsP
  refine ⟨fun o ho => ?_, ?_⟩
  · rcases List.mem_append.mp ho with ho | ho
    · rcases List.mem_append.mp ho with ho | ho
      · obtain ⟨e, he, rfl⟩ := List.mem_map.mp ho
        exact few_strip (pc_of (hl.ex e he)) hr
      · obtain ⟨e, he, rfl⟩ := List.mem_map.mp ho
        have J := turn_pre hl hr he
        have k := few_join J
        have lk := (turns_at hl.two he).2.2
        exact k
    · split at ho
      · cases ho
      · rename_i hc
        have hn : l.pieces ≠ [] := fun z => by
          have := pieces_len hl.two
          rw [z, if_neg (fun y => hc (.inl y))] at this
          have t := hl.two
          have this : 0 = l.pts.length - 1 := this
          omega
        have m1 : l.pieces.headD (⟨0, 0⟩, ⟨0, 0⟩) ∈ l.pieces := by
          cases h : l.pieces with
          | nil => exact absurd h hn
          | cons x xs => exact List.mem_cons_self
        have m2 : l.pieces.getLastD (⟨0, 0⟩, ⟨0, 0⟩) ∈ l.pieces := by
          rw [List.getLastD_eq_getLast?, List.getLast?_eq_some_getLast hn]
          exact List.getLast_mem hn
        have c1 := pc_of (hl.ex _ m1)
        have c2 := pc_of (hl.ex _ m2)
        have h' : ({ r with side := flipS r.side } : Rl).Ok := ⟨hr.pos, hr.bh, hr.bb, hr.one⟩
        simp only [List.mem_cons, List.not_mem_nil, or_false] at ho
        rcases ho with rfl | rfl
        · exact few_end (pc_rev c1) c1.ba h'
        · exact few_end c2 c2.bb hr
  · rw [List.length_append, List.length_append, List.length_map, List.length_map]
    split
    · rw [List.length_nil]; omega
    · show l.pieces.length + l.turns.length + 2 ≤ 20
      omega
theorem few_widened {l : Ln} {r : Rl} (hl : l.Ok) (hr : r.Ok) : (widenedP l r).length ≤ 400 ∧ ∀ S ∈ widenedP l r, S.length ≤ 400 ∧ PBs 100000 S := by
  obtain ⟨k1, k2⟩ := few_parts hl hr
  unfold widenedP
  refine ⟨Nat.le_trans (List.length_filterMap_le _ _) (by omega), fun S hS => ?_⟩
  obtain ⟨o, ho, e⟩ := List.mem_filterMap.mp hS
  exact k1 o ho S e
theorem filter_dO : ∀ ps : List (Option (List Pt)), .tup ((ps.filter fun o => o.isSome).map dO) = dLs (ps.filterMap id)
  | [] => rfl
  | none :: ps => filter_dO ps
  | some S :: ps => by
    have := filter_dO ps
    unfold dLs at *
    injection this with this
    show D.tup (D.tup (S.map dP) :: _) = D.tup (D.tup (S.map dP) :: _)
    rw [this]
noncomputable def C_widened : Con := Con.of (fun p : Ln × Rl => [dLine p.1, dRule p.2]) (fun p => p.1.Ok ∧ p.2.Ok) (fun p => dLs (widenedP p.1 p.2))
abbrev s_widened : Stmt := topS 49
abbrev N_widened : List Str := ["line", "rule", "found", "a", "b", "shape", "one", "other"]
theorem sc_widened : FnScope ["line", "rule", "found", "a", "b", "shape", "one", "other"] ["line", "rule"] (defScope s_widened) := ⟨rfl, rfl, rfl, by decide +kernel, rfl, by decide +kernel, by decide +kernel⟩
theorem ok_widened (N : Dn K mg "widened" s_widened ["line", "rule"]) (B : Bt mg) (c_strip : Cal P w K mg base 7 "strip" (LSp K C_strip) []) (c_ends_of : Cal P w K mg base 8 "ends_of" (LSp K C_ends_of) []) (c_pieces : Cal P w K mg base 1 "pieces" (LSp K C_pieces) []) (c_join : Cal P w K mg base 8 "join" (LSp K C_join) []) (c_turns_of : Cal P w K mg base 2 "turns_of" (LSp K C_turns_of) []) : Cal P w K mg base 9 "widened" (LSp K C_widened) [] := by
  refine N.ok sc_widened ?_ (fun f cdv A outer s H E hr => (pss_cons (ps_setLc (i := 2) (own := [("a", 3), ("b", 4)]) rfl sc_widened.nd rfl rfl (sw_true rfl rfl rfl (by decide +kernel)) (pi_seq (pe_c c_pieces hr (by decide) (by rfl) (pa_cons (pv 0) pa_nil))) (blkOk_by (own := [("a", 3), ("b", 4)]) (N := N_widened) (sc := defScope s_widened) (by decide +kernel)) (fun _ _ _ _ _ => (pg_tup rfl (pgs_cons (pg_name (i := 3) sc_widened.nd rfl (.inl rfl)) (pgs_cons (pg_name (i := 4) sc_widened.nd rfl (.inl rfl)) pgs_nil)))) (fun _ _ _ _ _ => pts_nil) (fun _ _ _ _ _ => (pe_c c_strip hr (by decide) (by rfl) (pa_cons (pv 3) (pa_cons (pv 4) (pa_cons (pv 1) pa_nil))))))
      (pss_cons (ps_set (i := 2) sc_widened.nd rfl (.inl rfl) (pe_op op_addA (pe_op op_addA (pv 2) (pe_lc (own := [("one", 6), ("other", 7)]) rfl sc_widened.nd (pi_seq (pe_c c_turns_of hr (by decide) (by rfl) (pa_cons (pv 0) pa_nil))) (blkOk_by (own := [("one", 6), ("other", 7)]) (N := N_widened) (sc := defScope s_widened) (by decide +kernel)) (fun _ _ _ _ _ => (pg_tup rfl (pgs_cons (pg_name (i := 6) sc_widened.nd rfl (.inl rfl)) (pgs_cons (pg_name (i := 7) sc_widened.nd rfl (.inl rfl)) pgs_nil)))) (fun _ _ _ _ _ => pts_nil) (fun _ _ _ _ _ => (pe_c c_join hr (by decide) (by rfl) (pa_cons (pv 6) (pa_cons (pv 7) (pa_cons (pv 1) pa_nil))))))) (pe_c c_ends_of hr (by decide) (by rfl) (pa_cons (pv 0) (pa_cons (pv 1) pa_nil)))))
      (pss_one (ps_ret (pe_callTy call_tuple_of (by rfl) B.tuple (by decide +kernel) (pa_cons (pe_lc (own := [("shape", 5)]) rfl sc_widened.nd (pi_seq (pv 2)) (blkOk_by (own := [("shape", 5)]) (N := N_widened) (sc := defScope s_widened) (by decide +kernel)) (fun _ _ _ _ _ => (pg_name (i := 5) sc_widened.nd rfl (.inl rfl))) (fun _ _ _ _ _ => (pts_one (pt_cmpR op_notN (pv 5) pe_non (nomark _)))) (fun _ _ _ _ _ => (pv 5))) pa_nil)))))))
    (sns_seq (sns_asg (sn_lc (sni_seq (sn_call (C := C_pieces) (sna_cons (sn_var (i := 0)) sna_nil))).c (sng_tup (n := 2) (sngs_cons (sng_name (i := 3)) (sngs_cons (sng_name (i := 4)) sngs_nil))) snt_yes (sn_call (C := C_strip) (sna_cons (sn_var (i := 3)) (sna_cons (sn_var (i := 4)) (sna_cons (sn_var (i := 1)) sna_nil)))) (by decide)) (sng_name (i := 2)))
      (sns_seq (sns_asg (sn_op snr_add (sn_op snr_add (sn_var (i := 2)) (sn_lc (sni_seq (sn_call (C := C_turns_of) (sna_cons (sn_var (i := 0)) sna_nil))).c (sng_tup (n := 2) (sngs_cons (sng_name (i := 6)) (sngs_cons (sng_name (i := 7)) sngs_nil))) snt_yes (sn_call (C := C_join) (sna_cons (sn_var (i := 6)) (sna_cons (sn_var (i := 7)) (sna_cons (sn_var (i := 1)) sna_nil)))) (by decide))) (sn_call (C := C_ends_of) (sna_cons (sn_var (i := 0)) (sna_cons (sn_var (i := 1)) sna_nil)))) (sng_name (i := 2)))
      (sns_ret (sn_cb snc_tuple (sna_cons (sn_lc (sni_seq (sn_var (i := 2))).c (sng_name (i := 5)) (snt_test (sn_op snr_isNot (sn_var (i := 5)) sn_non)) (sn_var (i := 5)) (by decide)) sna_nil))))) ?_
  · exact Con.len fun _ => rfl
  · rintro ds t Q ⟨⟨l, r⟩, rfl, ⟨hl, hr⟩, q⟩
    have hl : l.Ok := hl
    have hr : r.Ok := hr
    have q : Q (dLs (widenedP l r)) t := q
    have L1 := pieces_len9 hl.two
    have L2 := turns_len hl.two
    have nine := hl.nine
    have two := hl.two
    have LE : (endsP l r).length ≤ 2 := by
      unfold endsP
      split
      · exact Nat.zero_le _
      · exact Nat.le_refl _
    have LE' : (endsP (l, r).1 (l, r).2).length ≤ 2 := LE
    unfold widenedP partsP at q
    rw [← filter_dO] at q
    refine ⟨l, rfl, ⟨two, nine⟩, by rw [List.length_map]; omega, ?_⟩
    refine lcW_all (f := dE) (g := fun e => dO (stripE e r)) (fun e he t P hp => ?_) ?_
    · exact ⟨(e.1, e.2, uOf e, LOf e, r), rfl, ⟨pc_of (hl.ex e he), hr⟩, hp⟩
    · rw [List.nil_append]
      refine ⟨l, rfl, ⟨two, nine⟩, by rw [List.length_map]; omega, ?_⟩
      refine lcW_all (f := dT) (g := fun e => dO (joinE e.1 e.2 r)) (fun e he t P hp => ?_) ?_
      · have J := turn_pre hl hr he
        have lk := (turns_at two he).2.2
        refine ⟨((e.1.1, e.2.1, e.2.2), (uOf e.1, uOf e.2), (LOf e.1, LOf e.2), r), ?_, J, hp⟩
        show [D.tup [dP e.1.1, dP e.1.2], dE e.2, dRule r] = [D.tup [dP e.1.1, dP e.2.1], dE e.2, dRule r]
        rw [lk]
      · rw [List.nil_append]
        refine szOk_mk (by rw [List.length_map, List.length_map]; omega) ?_
        refine ⟨(l, r), rfl, ⟨hl, hr⟩, ?_⟩
        refine szOk_mk (by rw [List.length_append, List.length_map, List.length_map, List.length_map]; omega) ?_
        refine ⟨by rw [List.length_append, List.length_append, List.length_map, List.length_map, List.length_map]; omega, ?_⟩
        have e : (l.pieces.map fun e => dO (stripE e r)) ++ (l.turns.map fun e => dO (joinE e.1 e.2 r)) ++ (endsP l r).map dO = ((l.pieces.map fun e => stripE e r) ++ (l.turns.map fun e => joinE e.1 e.2 r) ++ endsP l r).map dO := by
          rw [List.map_append, List.map_append, List.map_map, List.map_map]
          rfl
        rw [e]
        refine lcW_filter (f := dO) (g := dO) (k := fun o => o.isSome) (fun o ho t P1 P2 h1 h2 => ?_) ?_
        · cases o with
          | none => exact h2 rfl
          | some S => exact h1 rfl
        · exact q
end
end DL


/-! ## V1 -/
set_option maxRecDepth 100000
/-! numbers and places of the law -/
namespace DL
open PySem PySem.Spec PyProof.Rows L2
open C8 (Cal pe_c pe_gc)
open W15
section
variable {P : Program} {w : World} {K : PySem.W.Frag} {mg : Str → Option Value} {base : Heap}
def RN (k : Nat) (p : Rat × Rat) : Prop := ∃ n m, RB n p.1 ∧ RB m p.2 ∧ n + m ≤ k
def C_law_fraction : Con := Con.of (fun p : Int × Int => [.int p.1, .int p.2]) (fun p => p.2 ≠ 0 ∧ Bd 13500 p.1 ∧ Bd 13500 p.2) (fun p => dR ((p.1 : Rat) / (p.2 : Rat)))
abbrev s_law_fraction : Stmt := topS 53
abbrev N_law_fraction : List Str := ["_law_top", "_law_bottom", "_law_one", "_law_other"]
theorem sc_law_fraction : FnScope ["_law_top", "_law_bottom", "_law_one", "_law_other"] ["_law_top", "_law_bottom"] (defScope s_law_fraction) := ⟨rfl, rfl, rfl, by decide +kernel, rfl, by decide +kernel, by decide +kernel⟩
theorem ok_law_fraction (N : Dn K mg "_law_fraction" s_law_fraction ["_law_top", "_law_bottom"]) (B : Bt mg) : Cal P w K mg base 1 "_law_fraction" (LSp K C_law_fraction) [] := by
  refine N.ok sc_law_fraction ?_ (fun f cdv A outer s H E hr => (pss_cons (ps_set (i := 2) sc_law_fraction.nd rfl (.inl rfl) (pe_callB call_abs (by rfl) B.abs (by decide +kernel) (pa_cons (pv 0) pa_nil)))
      (pss_cons (ps_set (i := 3) sc_law_fraction.nd rfl (.inl rfl) (pe_callB call_abs (by rfl) B.abs (by decide +kernel) (pa_cons (pv 1) pa_nil)))
      (pss_cons (ps_while PassesOwn.never (pt_cmpR op_gt (pv 3) pe_int (nomark _)) (pss_one (ps_par (i := 2) (j := 3) rfl sc_law_fraction.nd rfl rfl (by decide) rfl rfl (pa_cons (pv 3) (pa_cons (pe_op op_modN (pv 2) (pv 3)) pa_nil)) (by rfl))))
      (pss_cons (ps_if (pt_cmpR op_lt (pv 1) pe_int (nomark _)) (pss_one (ps_set (i := 2) sc_law_fraction.nd rfl (.inl rfl) (pe_op op_sub pe_int (pv 2)))) pss_nil)
      (pss_one (ps_ret (pe_tup (pa_cons (pe_op op_fdivB (pv 0) (pv 2)) (pa_cons (pe_op op_fdivB (pv 1) (pv 2)) pa_nil))))))))))
    (sns_seq (sns_asg (sn_cb snc_abs (sna_cons (sn_var (i := 0)) sna_nil)) (sng_name (i := 2)))
      (sns_seq (sns_asg (sn_cb snc_abs (sna_cons (sn_var (i := 1)) sna_nil)) (sng_name (i := 3)))
      (sns_seq (sns_while (snt_test (sn_op snr_B (sn_var (i := 3)) sn_int)) (sns_par (i := 2) (j := 3) (sna_cons (sn_var (i := 3)) (sna_cons (sn_op snr_IC (sn_var (i := 2)) (sn_var (i := 3))) sna_nil))))
      (sns_seq (sns_if (snt_test (sn_op snr_B (sn_var (i := 1)) sn_int)) (sns_asg (sn_op snr_I sn_int (sn_var (i := 2))) (sng_name (i := 2))) sns_nil)
      (sns_ret (sn_tup (sna_cons (sn_op snr_IC (sn_var (i := 0)) (sn_var (i := 2))) (sna_cons (sn_op snr_IC (sn_var (i := 1)) (sn_var (i := 2))) sna_nil)))))))) ?_
  · exact Con.len fun _ => rfl
  · rintro ds t Q ⟨⟨a, b⟩, rfl, ⟨hb, h1, h2⟩, q⟩
    have hb : b ≠ 0 := hb
    have q : Q (dR ((a : Rat) / (b : Rat))) t := q
    refine ⟨(if b < 0 then -b else b).toNat + 1, ?_⟩
    refine (?_ : ∀ (n : Nat) (x y : Int), 0 ≤ x → 0 ≤ y → y.toNat < n → Int.gcd x y = Int.gcd a b → whW _ _ _ n [Sl.dat (.int a), Sl.dat (.int b), Sl.dat (.int x), Sl.dat (.int y)] t) _ _ _ ?_ ?_ (Nat.lt_succ_self _) (gcd_abs a b)
    · intro n
      induction n with
      | zero => intro x y _ _ h; exact absurd h (Nat.not_lt_zero _)
      | succ n ih =>
        intro x y hx hy hn hq
        show if decide (0 < y) = true then _ else _
        refine ite2 (fun h => ?_) (fun h => ?_)
        · have hy' : 0 < y := of_decide_eq_true h
          refine ⟨(by omega : y ≠ 0), ih y (x.fmod y) hy (fmod_lt hy').1 ?_ ?_⟩
          · have := fmod_lt (x := x) hy'
            omega
          · rw [gcd_step hx hy']; exact hq
        · have e : y = 0 := by
            have : ¬ 0 < y := fun z => h (decide_eq_true z)
            omega
          subst e
          have ex : (x : Int) = Int.gcd a b := by
            rw [← hq, Int.gcd_zero_right]
            omega
          show if decide (b < 0) = true then _ else _
          rw [ex]
          refine ite2 (fun h => ?_) (fun h => ?_)
          · have hb' : b < 0 := of_decide_eq_true h
            have hg : (0 - (Int.gcd a b : Int)) ≠ 0 := by have := gcd_pos (a := a) hb; omega
            refine ⟨⟨hg, .inr ⟨_, h1, Nat.le_refl _⟩⟩, ⟨hg, .inr ⟨_, h2, Nat.le_refl _⟩⟩, ?_⟩
            obtain ⟨e1, e2⟩ := divInt_num_neg (t := a) hb'
            show Q (.tup [.int (a.fdiv (0 - (Int.gcd a b : Int))), .int (b.fdiv (0 - (Int.gcd a b : Int)))]) t
            rw [e1, e2]
            exact q
          · have hb' : 0 < b := by
              have : ¬ b < 0 := fun z => h (decide_eq_true z)
              omega
            have hg := gcd_ne (t := a) hb
            refine ⟨⟨hg, .inr ⟨_, h1, Nat.le_refl _⟩⟩, ⟨hg, .inr ⟨_, h2, Nat.le_refl _⟩⟩, ?_⟩
            obtain ⟨e1, e2⟩ := divInt_num_pos (t := a) hb'
            show Q (.tup [.int (a.fdiv (Int.gcd a b : Int)), .int (b.fdiv (Int.gcd a b : Int))]) t
            rw [e1, e2]
            exact q
    · show 0 ≤ if a < 0 then -a else a
      split <;> omega
    · show 0 ≤ if b < 0 then -b else b
      split <;> omega
def C_law_sum : Con := Con.of rr (RN 13499) (fun p => dR (p.1 + p.2))
abbrev s_law_sum : Stmt := topS 54
abbrev N_law_sum : List Str := ["_law_one", "_law_other", "_law_top"]
theorem sc_law_sum : FnScope ["_law_one", "_law_other", "_law_top"] ["_law_one", "_law_other"] (defScope s_law_sum) := ⟨rfl, rfl, rfl, by decide +kernel, rfl, by decide +kernel, by decide +kernel⟩
theorem ok_law_sum (N : Dn K mg "_law_sum" s_law_sum ["_law_one", "_law_other"]) (c_law_fraction : Cal P w K mg base 1 "_law_fraction" (LSp K C_law_fraction) []) : Cal P w K mg base 2 "_law_sum" (LSp K C_law_sum) [] := by
  refine N.ok sc_law_sum ?_ (fun f cdv A outer s H E hr => (pss_cons (ps_set (i := 2) sc_law_sum.nd rfl (.inl rfl) (pe_op op_addA (pe_op op_mulB (pe_ix ix_A (pv 0) pe_int (fun _ _ => rfl)) (pe_ix ix_A (pv 1) pe_int (fun _ _ => rfl))) (pe_op op_mulB (pe_ix ix_A (pv 1) pe_int (fun _ _ => rfl)) (pe_ix ix_A (pv 0) pe_int (fun _ _ => rfl)))))
      (pss_one (ps_ret (pe_c c_law_fraction hr (by decide) (by rfl) (pa_cons (pv 2) (pa_cons (pe_op op_mulB (pe_ix ix_A (pv 0) pe_int (fun _ _ => rfl)) (pe_ix ix_A (pv 1) pe_int (fun _ _ => rfl))) pa_nil)))))))
    (sns_seq (sns_asg (sn_op snr_add (sn_op snr_IC (sn_op snr_ix (sn_var (i := 0)) sn_int) (sn_op snr_ix (sn_var (i := 1)) sn_int)) (sn_op snr_IC (sn_op snr_ix (sn_var (i := 1)) sn_int) (sn_op snr_ix (sn_var (i := 0)) sn_int))) (sng_name (i := 2)))
      (sns_ret (sn_call (C := C_law_fraction) (sna_cons (sn_var (i := 2)) (sna_cons (sn_op snr_IC (sn_op snr_ix (sn_var (i := 0)) sn_int) (sn_op snr_ix (sn_var (i := 1)) sn_int)) sna_nil))))) ?_
  · exact Con.len fun _ => rfl
  · rintro ds t Q ⟨⟨x, y⟩, rfl, ⟨n, m, hx, hy, l⟩, q⟩
    have hx : RB n x := hx
    have hy : RB m y := hy
    refine ⟨mulB hx.num hy.den (by omega), mulB hy.num hx.den (by omega), mulB hx.den hy.den (by omega), (_, _), rfl, ⟨den_mul_ne x y, ?_, ?_⟩, ?_⟩
    · exact ((hx.num.mul hy.den).addS ((hy.num.mul hx.den).mono (by omega))).mono (by omega)
    · exact (hx.den.mul hy.den).mono (by omega)
    · show Q (dR (((x.num * y.den + y.num * x.den : Int) : Rat) / ((x.den * y.den : Int) : Rat))) t
      rw [add_frac]
      exact q
def C_law_product : Con := Con.of rr (RN 13500) (fun p => dR (p.1 * p.2))
abbrev s_law_product : Stmt := topS 55
abbrev N_law_product : List Str := ["_law_one", "_law_other"]
theorem sc_law_product : FnScope ["_law_one", "_law_other"] ["_law_one", "_law_other"] (defScope s_law_product) := ⟨rfl, rfl, rfl, by decide +kernel, rfl, by decide +kernel, by decide +kernel⟩
theorem ok_law_product (N : Dn K mg "_law_product" s_law_product ["_law_one", "_law_other"]) (c_law_fraction : Cal P w K mg base 1 "_law_fraction" (LSp K C_law_fraction) []) : Cal P w K mg base 2 "_law_product" (LSp K C_law_product) [] := by
  refine N.ok sc_law_product ?_ (fun f cdv A outer s H E hr => (pss_one (ps_ret (pe_c c_law_fraction hr (by decide) (by rfl) (pa_cons (pe_op op_mulB (pe_ix ix_A (pv 0) pe_int (fun _ _ => rfl)) (pe_ix ix_A (pv 1) pe_int (fun _ _ => rfl))) (pa_cons (pe_op op_mulB (pe_ix ix_A (pv 0) pe_int (fun _ _ => rfl)) (pe_ix ix_A (pv 1) pe_int (fun _ _ => rfl))) pa_nil))))))
    (sns_ret (sn_call (C := C_law_fraction) (sna_cons (sn_op snr_IC (sn_op snr_ix (sn_var (i := 0)) sn_int) (sn_op snr_ix (sn_var (i := 1)) sn_int)) (sna_cons (sn_op snr_IC (sn_op snr_ix (sn_var (i := 0)) sn_int) (sn_op snr_ix (sn_var (i := 1)) sn_int)) sna_nil)))) ?_
  · exact Con.len fun _ => rfl
  · rintro ds t Q ⟨⟨x, y⟩, rfl, ⟨n, m, hx, hy, l⟩, q⟩
    have hx : RB n x := hx
    have hy : RB m y := hy
    refine ⟨mulB hx.num hy.num (by omega), mulB hx.den hy.den (by omega), (_, _), rfl, ⟨den_mul_ne x y, ?_, ?_⟩, ?_⟩
    · exact (hx.num.mul hy.num).mono (by omega)
    · exact (hx.den.mul hy.den).mono (by omega)
    · show Q (dR (((x.num * y.num : Int) : Rat) / ((x.den * y.den : Int) : Rat))) t
      rw [mul_frac]
      exact q
def C_law_over : Con := Con.of rr (fun p => p.2 ≠ 0 ∧ RN 13500 p) (fun p => dR (p.1 / p.2))
abbrev s_law_over : Stmt := topS 76
abbrev N_law_over : List Str := ["_law_one", "_law_other"]
theorem sc_law_over : FnScope ["_law_one", "_law_other"] ["_law_one", "_law_other"] (defScope s_law_over) := ⟨rfl, rfl, rfl, by decide +kernel, rfl, by decide +kernel, by decide +kernel⟩
theorem ok_law_over (N : Dn K mg "_law_over" s_law_over ["_law_one", "_law_other"]) (c_law_fraction : Cal P w K mg base 1 "_law_fraction" (LSp K C_law_fraction) []) : Cal P w K mg base 2 "_law_over" (LSp K C_law_over) [] := by
  refine N.ok sc_law_over ?_ (fun f cdv A outer s H E hr => (pss_one (ps_ret (pe_c c_law_fraction hr (by decide) (by rfl) (pa_cons (pe_op op_mulB (pe_ix ix_A (pv 0) pe_int (fun _ _ => rfl)) (pe_ix ix_A (pv 1) pe_int (fun _ _ => rfl))) (pa_cons (pe_op op_mulB (pe_ix ix_A (pv 0) pe_int (fun _ _ => rfl)) (pe_ix ix_A (pv 1) pe_int (fun _ _ => rfl))) pa_nil))))))
    (sns_ret (sn_call (C := C_law_fraction) (sna_cons (sn_op snr_IC (sn_op snr_ix (sn_var (i := 0)) sn_int) (sn_op snr_ix (sn_var (i := 1)) sn_int)) (sna_cons (sn_op snr_IC (sn_op snr_ix (sn_var (i := 0)) sn_int) (sn_op snr_ix (sn_var (i := 1)) sn_int)) sna_nil)))) ?_
  · exact Con.len fun _ => rfl
  · rintro ds t Q ⟨⟨x, y⟩, rfl, ⟨h0, n, m, hx, hy, l⟩, q⟩
    have h0 : y ≠ 0 := h0
    have hx : RB n x := hx
    have hy : RB m y := hy
    refine ⟨mulB hx.num hy.den (by omega), mulB hx.den hy.num (by omega), (_, _), rfl, ⟨Int.mul_ne_zero (den_ne0 x) (num_ne h0), ?_, ?_⟩, ?_⟩
    · exact (hx.num.mul hy.den).mono (by omega)
    · exact (hx.den.mul hy.num).mono (by omega)
    · show Q (dR (((x.num * y.den : Int) : Rat) / ((x.den * y.num : Int) : Rat))) t
      rw [div_frac x y h0]
      exact q
def C_law_minus : Con := Con.of (fun q : Rat => [dR q]) (fun _ => True) (fun q => dR (-q))
abbrev s_law_minus : Stmt := topS 56
abbrev N_law_minus : List Str := ["_law_one"]
theorem sc_law_minus : FnScope ["_law_one"] ["_law_one"] (defScope s_law_minus) := ⟨rfl, rfl, rfl, by decide +kernel, rfl, by decide +kernel, by decide +kernel⟩
theorem ok_law_minus (N : Dn K mg "_law_minus" s_law_minus ["_law_one"]) : Cal P w K mg base 1 "_law_minus" (LSp K C_law_minus) [] := by
  refine N.ok sc_law_minus ?_ (fun f cdv A outer s H E hr => (pss_one (ps_ret (pe_tup (pa_cons (pe_op op_sub pe_int (pe_ix ix_A (pv 0) pe_int (fun _ _ => rfl))) (pa_cons (pe_ix ix_A (pv 0) pe_int (fun _ _ => rfl)) pa_nil))))))
    (sns_ret (sn_tup (sna_cons (sn_op snr_I sn_int (sn_op snr_ix (sn_var (i := 0)) sn_int)) (sna_cons (sn_op snr_ix (sn_var (i := 0)) sn_int) sna_nil)))) ?_
  · exact Con.len fun _ => rfl
  · rintro ds t Q ⟨q, rfl, _, hq⟩
    show Q (.tup [.int (0 - q.num), .int (q.den : Int)]) t
    rw [Int.zero_sub]
    exact hq
def C_law_most : Con := Con.of rr (RR 100000) (fun p => .bl (decide (p.1 ≤ p.2)))
abbrev s_law_most : Stmt := topS 83
abbrev N_law_most : List Str := ["_law_one", "_law_other"]
theorem sc_law_most : FnScope ["_law_one", "_law_other"] ["_law_one", "_law_other"] (defScope s_law_most) := ⟨rfl, rfl, rfl, by decide +kernel, rfl, by decide +kernel, by decide +kernel⟩
theorem ok_law_most (N : Dn K mg "_law_most" s_law_most ["_law_one", "_law_other"]) : Cal P w K mg base 1 "_law_most" (LSp K C_law_most) [] := by
  refine N.ok sc_law_most ?_ (fun f cdv A outer s H E hr => (pss_one (ps_ret (pe_cmpR op_le (pe_op op_mulB (pe_ix ix_A (pv 0) pe_int (fun _ _ => rfl)) (pe_ix ix_A (pv 1) pe_int (fun _ _ => rfl))) (pe_op op_mulB (pe_ix ix_A (pv 1) pe_int (fun _ _ => rfl)) (pe_ix ix_A (pv 0) pe_int (fun _ _ => rfl))) (nomark _)))))
    (sns_ret (sn_op snr_B (sn_op snr_IC (sn_op snr_ix (sn_var (i := 0)) sn_int) (sn_op snr_ix (sn_var (i := 1)) sn_int)) (sn_op snr_IC (sn_op snr_ix (sn_var (i := 1)) sn_int) (sn_op snr_ix (sn_var (i := 0)) sn_int)))) ?_
  · exact Con.len fun _ => rfl
  · rintro ds t Q ⟨⟨x, y⟩, rfl, ⟨hx, hy⟩, q⟩
    refine ⟨mulB hx.num hy.den (by decide), mulB hy.num hx.den (by decide), ?_⟩
    show Q (.bl (decide (x.num * y.den ≤ y.num * x.den))) t
    rw [le_frac]
    exact q
def C_law_between : Con := Con.of (fun p : Rat × Rat × Rat => [dR p.1, dR p.2.1, dR p.2.2]) (fun p => RB 100000 p.1 ∧ RB 100000 p.2.1 ∧ RB 100000 p.2.2) (fun p => .bl (decide (p.1 ≤ p.2.1) && decide (p.2.1 ≤ p.2.2)))
abbrev s_law_between : Stmt := topS 84
abbrev N_law_between : List Str := ["_law_low", "_law_one", "_law_high"]
theorem sc_law_between : FnScope ["_law_low", "_law_one", "_law_high"] ["_law_low", "_law_one", "_law_high"] (defScope s_law_between) := ⟨rfl, rfl, rfl, by decide +kernel, rfl, by decide +kernel, by decide +kernel⟩
theorem ok_law_between (N : Dn K mg "_law_between" s_law_between ["_law_low", "_law_one", "_law_high"]) (c_law_most : Cal P w K mg base 1 "_law_most" (LSp K C_law_most) []) : Cal P w K mg base 2 "_law_between" (LSp K C_law_between) [] := by
  refine N.ok sc_law_between ?_ (fun f cdv A outer s H E hr => (pss_one (ps_ret (pe_and (pe_c c_law_most hr (by decide) (by rfl) (pa_cons (pv 0) (pa_cons (pv 1) pa_nil))) (pe_one (pe_c c_law_most hr (by decide) (by rfl) (pa_cons (pv 1) (pa_cons (pv 2) pa_nil))))))))
    (sns_ret (sn_andV (sn_call (C := C_law_most) (sna_cons (sn_var (i := 0)) (sna_cons (sn_var (i := 1)) sna_nil))) (sn_call (C := C_law_most) (sna_cons (sn_var (i := 1)) (sna_cons (sn_var (i := 2)) sna_nil))))) ?_
  · exact Con.len fun _ => rfl
  · rintro ds t Q ⟨⟨x, y, z⟩, rfl, ⟨hx, hy, hz⟩, q⟩
    have q : Q (.bl (decide (x ≤ y) && decide (y ≤ z))) t := q
    refine ⟨(x, y), rfl, ⟨hx, hy⟩, ?_⟩
    show if decide (x ≤ y) = true then _ else Q (.bl false) t
    refine ite2 (fun h => ?_) (fun h => ?_)
    · rw [h, Bool.true_and] at q
      exact ⟨(y, z), rfl, ⟨hy, hz⟩, q⟩
    · have h : decide (x ≤ y) = false := by simpa using h
      rw [h, Bool.false_and] at q
      exact q
def C_law_at : Con := Con.of rr (RN 13500) (fun p => dP ⟨p.1, p.2⟩)
abbrev s_law_at : Stmt := topS 57
abbrev N_law_at : List Str := ["_law_x", "_law_y", "_law_bottom", "_law_top", "_law_other", "_law_part_of_both"]
theorem sc_law_at : FnScope ["_law_x", "_law_y", "_law_bottom", "_law_top", "_law_other", "_law_part_of_both"] ["_law_x", "_law_y"] (defScope s_law_at) := ⟨rfl, rfl, rfl, by decide +kernel, rfl, by decide +kernel, by decide +kernel⟩
theorem ok_law_at (N : Dn K mg "_law_at" s_law_at ["_law_x", "_law_y"]) (c_law_fraction : Cal P w K mg base 1 "_law_fraction" (LSp K C_law_fraction) []) : Cal P w K mg base 2 "_law_at" (LSp K C_law_at) [] := by
  refine N.ok sc_law_at ?_ (fun f cdv A outer s H E hr => (pss_cons (ps_set (i := 2) sc_law_at.nd rfl (.inl rfl) (pe_op op_mulB (pe_ix ix_A (pv 0) pe_int (fun _ _ => rfl)) (pe_ix ix_A (pv 1) pe_int (fun _ _ => rfl))))
      (pss_cons (ps_set (i := 3) sc_law_at.nd rfl (.inl rfl) (pe_c c_law_fraction hr (by decide) (by rfl) (pa_cons (pe_op op_mulB (pe_ix ix_A (pv 0) pe_int (fun _ _ => rfl)) (pe_ix ix_A (pv 1) pe_int (fun _ _ => rfl))) (pa_cons (pv 2) pa_nil))))
      (pss_cons (ps_set (i := 4) sc_law_at.nd rfl (.inl rfl) (pe_c c_law_fraction hr (by decide) (by rfl) (pa_cons (pe_op op_mulB (pe_ix ix_A (pv 1) pe_int (fun _ _ => rfl)) (pe_ix ix_A (pv 0) pe_int (fun _ _ => rfl))) (pa_cons (pv 2) pa_nil))))
      (pss_cons (ps_set (i := 5) sc_law_at.nd rfl (.inl rfl) (pe_c c_law_fraction hr (by decide) (by rfl) (pa_cons (pe_ix ix_A (pv 3) pe_int (fun _ _ => rfl)) (pa_cons (pe_ix ix_A (pv 4) pe_int (fun _ _ => rfl)) pa_nil))))
      (pss_cons (ps_set (i := 2) sc_law_at.nd rfl (.inl rfl) (pe_op op_mulB (pe_ix ix_A (pv 3) pe_int (fun _ _ => rfl)) (pe_ix ix_A (pv 5) pe_int (fun _ _ => rfl))))
      (pss_one (ps_ret (pe_tup (pa_cons (pe_op op_mulB (pe_ix ix_A (pv 3) pe_int (fun _ _ => rfl)) (pe_op op_fdivB (pv 2) (pe_ix ix_A (pv 3) pe_int (fun _ _ => rfl)))) (pa_cons (pe_op op_mulB (pe_ix ix_A (pv 4) pe_int (fun _ _ => rfl)) (pe_op op_fdivB (pv 2) (pe_ix ix_A (pv 4) pe_int (fun _ _ => rfl)))) (pa_cons (pv 2) pa_nil))))))))))))
    (sns_seq (sns_asg (sn_op snr_IC (sn_op snr_ix (sn_var (i := 0)) sn_int) (sn_op snr_ix (sn_var (i := 1)) sn_int)) (sng_name (i := 2)))
      (sns_seq (sns_asg (sn_call (C := C_law_fraction) (sna_cons (sn_op snr_IC (sn_op snr_ix (sn_var (i := 0)) sn_int) (sn_op snr_ix (sn_var (i := 1)) sn_int)) (sna_cons (sn_var (i := 2)) sna_nil))) (sng_name (i := 3)))
      (sns_seq (sns_asg (sn_call (C := C_law_fraction) (sna_cons (sn_op snr_IC (sn_op snr_ix (sn_var (i := 1)) sn_int) (sn_op snr_ix (sn_var (i := 0)) sn_int)) (sna_cons (sn_var (i := 2)) sna_nil))) (sng_name (i := 4)))
      (sns_seq (sns_asg (sn_call (C := C_law_fraction) (sna_cons (sn_op snr_ix (sn_var (i := 3)) sn_int) (sna_cons (sn_op snr_ix (sn_var (i := 4)) sn_int) sna_nil))) (sng_name (i := 5)))
      (sns_seq (sns_asg (sn_op snr_IC (sn_op snr_ix (sn_var (i := 3)) sn_int) (sn_op snr_ix (sn_var (i := 5)) sn_int)) (sng_name (i := 2)))
      (sns_ret (sn_tup (sna_cons (sn_op snr_IC (sn_op snr_ix (sn_var (i := 3)) sn_int) (sn_op snr_IC (sn_var (i := 2)) (sn_op snr_ix (sn_var (i := 3)) sn_int))) (sna_cons (sn_op snr_IC (sn_op snr_ix (sn_var (i := 4)) sn_int) (sn_op snr_IC (sn_var (i := 2)) (sn_op snr_ix (sn_var (i := 4)) sn_int))) (sna_cons (sn_var (i := 2)) sna_nil)))))))))) ?_
  · exact Con.len fun _ => rfl
  · rintro ds t Q ⟨⟨x, y⟩, rfl, ⟨n, m, hx, hy, l⟩, q⟩
    have hx : RB n x := hx
    have hy : RB m y := hy
    have q : Q (dP ⟨x, y⟩) t := q
    have bB := (hx.den.mul hy.den).mono (show n + m ≤ 13500 by omega)
    have e1 : ((x.num * y.den : Int) : Rat) / ((x.den * y.den : Int) : Rat) = x := by
      have h1 := num_eq x
      have h2 := den_ne x
      have h3 := den_ne y
      rw [Rat.intCast_mul, Rat.intCast_mul, h1, Rat.intCast_natCast, Rat.intCast_natCast]
      grind
    have e2 : ((y.num * x.den : Int) : Rat) / ((x.den * y.den : Int) : Rat) = y := by
      have h1 := num_eq y
      have h2 := den_ne x
      have h3 := den_ne y
      rw [Rat.intCast_mul, Rat.intCast_mul, h1, Rat.intCast_natCast, Rat.intCast_natCast]
      grind
    have px := den_pos x
    have py := den_pos y
    refine ⟨mulB hx.den hy.den (by omega), mulB hx.num hy.den (by omega), (_, _), rfl, ⟨den_mul_ne x y, (hx.num.mul hy.den).mono (by omega), bB⟩, ?_⟩
    refine (?_ : ∀ d : D, d = dR x → wgName 3 d _ _) _ (by show dR (((x.num * y.den : Int) : Rat) / ((x.den * y.den : Int) : Rat)) = dR x; rw [e1])
    rintro _ rfl
    refine ⟨mulB hy.num hx.den (by omega), (_, _), rfl, ⟨den_mul_ne x y, (hy.num.mul hx.den).mono (by omega), bB⟩, ?_⟩
    refine (?_ : ∀ d : D, d = dR y → wgName 4 d _ _) _ (by show dR (((y.num * x.den : Int) : Rat) / ((x.den * y.den : Int) : Rat)) = dR y; rw [e2])
    rintro _ rfl
    refine ⟨((x.den : Int), (y.den : Int)), rfl, ⟨by show (y.den : Int) ≠ 0; omega, hx.den.mono (by omega), hy.den.mono (by omega)⟩, ?_⟩
    obtain ⟨f1, f2⟩ := divInt_num_pos (t := (x.den : Int)) py
    have hg : 0 < Nat.gcd x.den y.den := Nat.gcd_pos_of_pos_left _ x.den_pos
    have gg : Int.gcd (x.den : Int) (y.den : Int) = Nat.gcd x.den y.den := Int.gcd_natCast_natCast ..
    rw [gg] at f1 f2
    have g1 : (x.den : Int).fdiv ((Nat.gcd x.den y.den : Nat) : Int) = ((x.den / Nat.gcd x.den y.den : Nat) : Int) := by
      rw [Int.fdiv_eq_ediv_of_nonneg _ (by omega), Int.natCast_ediv]
    have g2 : (y.den : Int).fdiv ((Nat.gcd x.den y.den : Nat) : Int) = ((y.den / Nat.gcd x.den y.den : Nat) : Int) := by
      rw [Int.fdiv_eq_ediv_of_nonneg _ (by omega), Int.natCast_ediv]
    rw [g1] at f1
    rw [g2] at f2
    refine (?_ : ∀ d : D, d = .tup [.int ((x.den / Nat.gcd x.den y.den : Nat) : Int), .int ((y.den / Nat.gcd x.den y.den : Nat) : Int)] → wgName 5 d _ _) _ (by
      show dR (((x.den : Int) : Rat) / ((y.den : Int) : Rat)) = _
      unfold dR
      rw [← f1, ← f2])
    rintro _ rfl
    have hcd : x.den * (y.den / Nat.gcd x.den y.den) = y.den * (x.den / Nat.gcd x.den y.den) := by
      rw [← Nat.mul_div_assoc _ (Nat.gcd_dvd_right ..), ← Nat.mul_div_assoc _ (Nat.gcd_dvd_left ..), Nat.mul_comm]
    have T := Pt.of_tri (law_tri ⟨x, y⟩ (f := y.den / Nat.gcd x.den y.den) hcd rfl)
    have bE : Bd n ((x.den / Nat.gcd x.den y.den : Nat) : Int) := hx.den.le (by rw [Int.natAbs_natCast, Int.natAbs_natCast]; exact Nat.div_le_self _ _)
    have bF : Bd m ((y.den / Nat.gcd x.den y.den : Nat) : Int) := hy.den.le (by rw [Int.natAbs_natCast, Int.natAbs_natCast]; exact Nat.div_le_self _ _)
    have T1 : x.num * ((y.den / Nat.gcd x.den y.den : Nat) : Int) = (⟨x, y⟩ : Pt).X := T.1
    have T2 : y.num * ((x.den / Nat.gcd x.den y.den : Nat) : Int) = (⟨x, y⟩ : Pt).Y := T.2.1
    have T3 : ((x.den * (y.den / Nat.gcd x.den y.den) : Nat) : Int) = (⟨x, y⟩ : Pt).Z := T.2.2
    generalize x.den / Nat.gcd x.den y.den = E at *
    generalize y.den / Nat.gcd x.den y.den = F at *
    have d1 : ((x.den : Int) * (F : Int)).fdiv (x.den : Int) = F := Int.mul_fdiv_cancel_left _ (by omega)
    have d2 : ((x.den : Int) * (F : Int)).fdiv (y.den : Int) = E := by
      rw [← Int.natCast_mul, hcd, Int.natCast_mul]
      exact Int.mul_fdiv_cancel_left _ (by omega)
    have B3 := (hx.den.mul bF).mono (show n + m ≤ 13500 by omega)
    refine ⟨mulB hx.den bF (by omega), ⟨by show (x.den : Int) ≠ 0; omega, .inr ⟨13500, B3, by decide⟩⟩, ⟨n, m, hx.num, ?_, by omega⟩, ⟨by show (y.den : Int) ≠ 0; omega, .inr ⟨13500, B3, by decide⟩⟩, ⟨m, n, hy.num, ?_, by omega⟩, ?_⟩
    · show Bd m (((x.den : Int) * (F : Int)).fdiv (x.den : Int))
      rw [d1]
      exact bF
    · show Bd n (((x.den : Int) * (F : Int)).fdiv (y.den : Int))
      rw [d2]
      exact bE
    · show Q (.tup [.int (x.num * (((x.den : Int) * (F : Int)).fdiv (x.den : Int))), .int (y.num * (((x.den : Int) * (F : Int)).fdiv (y.den : Int))), .int ((x.den : Int) * (F : Int))]) t
      rw [d1, d2, T1, T2, ← Int.natCast_mul, T3]
      exact q
end
end DL


/-! ## V2 -/
set_option maxRecDepth 100000
/-! places of the law -/
namespace DL
open PySem PySem.Spec PyProof.Rows L2
open C8 (Cal pe_c pe_gc)
open W15
section
variable {P : Program} {w : World} {K : PySem.W.Frag} {mg : Str → Option Value} {base : Heap}
def C_law_xy : Con := Con.of (fun p : Pt => [dP p]) (fun p => PB 13500 p) (fun p => .tup [dR p.x, dR p.y])
abbrev s_law_xy : Stmt := topS 58
abbrev N_law_xy : List Str := ["_law_one"]
theorem sc_law_xy : FnScope ["_law_one"] ["_law_one"] (defScope s_law_xy) := ⟨rfl, rfl, rfl, by decide +kernel, rfl, by decide +kernel, by decide +kernel⟩
theorem ok_law_xy (N : Dn K mg "_law_xy" s_law_xy ["_law_one"]) (c_law_fraction : Cal P w K mg base 1 "_law_fraction" (LSp K C_law_fraction) []) : Cal P w K mg base 2 "_law_xy" (LSp K C_law_xy) [] := by
  refine N.ok sc_law_xy ?_ (fun f cdv A outer s H E hr => (pss_one (ps_ret (pe_tup (pa_cons (pe_c c_law_fraction hr (by decide) (by rfl) (pa_cons (pe_ix ix_A (pv 0) pe_int (fun _ _ => rfl)) (pa_cons (pe_ix ix_A (pv 0) pe_int (fun _ _ => rfl)) pa_nil))) (pa_cons (pe_c c_law_fraction hr (by decide) (by rfl) (pa_cons (pe_ix ix_A (pv 0) pe_int (fun _ _ => rfl)) (pa_cons (pe_ix ix_A (pv 0) pe_int (fun _ _ => rfl)) pa_nil))) pa_nil))))))
    (sns_ret (sn_tup (sna_cons (sn_call (C := C_law_fraction) (sna_cons (sn_op snr_ix (sn_var (i := 0)) sn_int) (sna_cons (sn_op snr_ix (sn_var (i := 0)) sn_int) sna_nil))) (sna_cons (sn_call (C := C_law_fraction) (sna_cons (sn_op snr_ix (sn_var (i := 0)) sn_int) (sna_cons (sn_op snr_ix (sn_var (i := 0)) sn_int) sna_nil))) sna_nil)))) ?_
  · exact Con.len fun _ => rfl
  · rintro ds t Q ⟨p, rfl, h, q⟩
    refine ⟨(p.X, p.Z), rfl, ⟨Z_ne p, h.X, h.Z⟩, (p.Y, p.Z), rfl, ⟨Z_ne p, h.Y, h.Z⟩, ?_⟩
    show Q (.tup [dR ((p.X : Rat) / (p.Z : Rat)), dR ((p.Y : Rat) / (p.Z : Rat))]) t
    rw [x_of, y_of]
    exact q
/-- so many bits for a place and two numbers -/
def GB (k : Nat) (p : Pt × Rat × Rat) : Prop := ∃ n m l, PB n p.1 ∧ RB m p.2.1 ∧ RB l p.2.2 ∧ n + m + (n + l) + 2 ≤ k
def C_law_gone : Con := Con.of (fun p : Pt × Rat × Rat => [dP p.1, dR p.2.1, dR p.2.2]) (GB 13500) (fun p => dP (addP p.1 p.2.1 p.2.2))
abbrev s_law_gone : Stmt := topS 59
abbrev N_law_gone : List Str := ["_law_one", "_law_x", "_law_y", "_law_first", "_law_second"]
theorem sc_law_gone : FnScope ["_law_one", "_law_x", "_law_y", "_law_first", "_law_second"] ["_law_one", "_law_x", "_law_y"] (defScope s_law_gone) := ⟨rfl, rfl, rfl, by decide +kernel, rfl, by decide +kernel, by decide +kernel⟩
theorem ok_law_gone (N : Dn K mg "_law_gone" s_law_gone ["_law_one", "_law_x", "_law_y"]) (c_law_xy : Cal P w K mg base 2 "_law_xy" (LSp K C_law_xy) []) (c_law_at : Cal P w K mg base 2 "_law_at" (LSp K C_law_at) []) (c_law_sum : Cal P w K mg base 2 "_law_sum" (LSp K C_law_sum) []) : Cal P w K mg base 3 "_law_gone" (LSp K C_law_gone) [] := by
  refine N.ok sc_law_gone ?_ (fun f cdv A outer s H E hr => (pss_cons (ps_asg (pe_c c_law_xy hr (by decide) (by rfl) (pa_cons (pv 0) pa_nil)) (pg_tup rfl (pgs_cons (pg_name (i := 3) sc_law_gone.nd rfl (.inl rfl)) (pgs_cons (pg_name (i := 4) sc_law_gone.nd rfl (.inl rfl)) pgs_nil))))
      (pss_one (ps_ret (pe_c c_law_at hr (by decide) (by rfl) (pa_cons (pe_c c_law_sum hr (by decide) (by rfl) (pa_cons (pv 3) (pa_cons (pv 1) pa_nil))) (pa_cons (pe_c c_law_sum hr (by decide) (by rfl) (pa_cons (pv 4) (pa_cons (pv 2) pa_nil))) pa_nil)))))))
    (sns_seq (sns_asg (sn_call (C := C_law_xy) (sna_cons (sn_var (i := 0)) sna_nil)) (sng_tup (n := 2) (sngs_cons (sng_name (i := 3)) (sngs_cons (sng_name (i := 4)) sngs_nil))))
      (sns_ret (sn_call (C := C_law_at) (sna_cons (sn_call (C := C_law_sum) (sna_cons (sn_var (i := 3)) (sna_cons (sn_var (i := 1)) sna_nil))) (sna_cons (sn_call (C := C_law_sum) (sna_cons (sn_var (i := 4)) (sna_cons (sn_var (i := 2)) sna_nil))) sna_nil))))) ?_
  · exact Con.len fun _ => rfl
  · rintro ds t Q ⟨⟨p, x, y⟩, rfl, ⟨n, m, k, hp, hx, hy, l⟩, q⟩
    have hp : PB n p := hp
    have hx : RB m x := hx
    have hy : RB k y := hy
    refine ⟨p, rfl, hp.mono (by omega), (p.x, x), rfl, ⟨n, m, hp.rx, hx, by omega⟩, (p.y, y), rfl, ⟨n, k, hp.ry, hy, by omega⟩, (p.x + x, p.y + y), rfl, ⟨n + m + 1, n + k + 1, hp.rx.add hx, hp.ry.add hy, by omega⟩, q⟩
theorem gb {n m l k : Nat} {p : Pt} {x y : Rat} (hp : PB n p) (hx : RB m x) (hy : RB l y) (h : n + m + (n + l) + 2 ≤ k) : GB k (p, x, y) := ⟨n, m, l, hp, hx, hy, h⟩
def C_law_turn : Con := Con.of (fun p : Pt × Pt × Pt => [dP p.1, dP p.2.1, dP p.2.2]) (fun p => PB 100000 p.1 ∧ PB 100000 p.2.1 ∧ PB 100000 p.2.2) (fun p => .int (sgn (crossP p.1 p.2.1 p.2.2)))
abbrev s_law_turn : Stmt := topS 60
abbrev N_law_turn : List Str := ["_law_a", "_law_b", "_law_c", "_law_first", "_law_second"]
theorem sc_law_turn : FnScope ["_law_a", "_law_b", "_law_c", "_law_first", "_law_second"] ["_law_a", "_law_b", "_law_c"] (defScope s_law_turn) := ⟨rfl, rfl, rfl, by decide +kernel, rfl, by decide +kernel, by decide +kernel⟩
theorem ok_law_turn (N : Dn K mg "_law_turn" s_law_turn ["_law_a", "_law_b", "_law_c"]) (B : Bt mg) : Cal P w K mg base 1 "_law_turn" (LSp K C_law_turn) [] := by
  refine N.ok sc_law_turn ?_ (fun f cdv A outer s H E hr => (pss_cons (ps_set (i := 3) sc_law_turn.nd rfl (.inl rfl) (pe_op op_mulB (pe_op op_sub (pe_op op_mulB (pe_ix ix_A (pv 1) pe_int (fun _ _ => rfl)) (pe_ix ix_A (pv 0) pe_int (fun _ _ => rfl))) (pe_op op_mulB (pe_ix ix_A (pv 0) pe_int (fun _ _ => rfl)) (pe_ix ix_A (pv 1) pe_int (fun _ _ => rfl)))) (pe_op op_sub (pe_op op_mulB (pe_ix ix_A (pv 2) pe_int (fun _ _ => rfl)) (pe_ix ix_A (pv 0) pe_int (fun _ _ => rfl))) (pe_op op_mulB (pe_ix ix_A (pv 0) pe_int (fun _ _ => rfl)) (pe_ix ix_A (pv 2) pe_int (fun _ _ => rfl))))))
      (pss_cons (ps_set (i := 4) sc_law_turn.nd rfl (.inl rfl) (pe_op op_mulB (pe_op op_sub (pe_op op_mulB (pe_ix ix_A (pv 1) pe_int (fun _ _ => rfl)) (pe_ix ix_A (pv 0) pe_int (fun _ _ => rfl))) (pe_op op_mulB (pe_ix ix_A (pv 0) pe_int (fun _ _ => rfl)) (pe_ix ix_A (pv 1) pe_int (fun _ _ => rfl)))) (pe_op op_sub (pe_op op_mulB (pe_ix ix_A (pv 2) pe_int (fun _ _ => rfl)) (pe_ix ix_A (pv 0) pe_int (fun _ _ => rfl))) (pe_op op_mulB (pe_ix ix_A (pv 0) pe_int (fun _ _ => rfl)) (pe_ix ix_A (pv 2) pe_int (fun _ _ => rfl))))))
      (pss_one (ps_ret (pe_op op_sub (pe_callTy call_int1 (by rfl) B.int (by decide +kernel) (pa_cons (pe_cmpR op_gt (pv 3) (pv 4) (nomark _)) pa_nil)) (pe_callTy call_int1 (by rfl) B.int (by decide +kernel) (pa_cons (pe_cmpR op_lt (pv 3) (pv 4) (nomark _)) pa_nil))))))))
    (sns_seq (sns_asg (sn_op snr_IC (sn_op snr_I (sn_op snr_IC (sn_op snr_ix (sn_var (i := 1)) sn_int) (sn_op snr_ix (sn_var (i := 0)) sn_int)) (sn_op snr_IC (sn_op snr_ix (sn_var (i := 0)) sn_int) (sn_op snr_ix (sn_var (i := 1)) sn_int))) (sn_op snr_I (sn_op snr_IC (sn_op snr_ix (sn_var (i := 2)) sn_int) (sn_op snr_ix (sn_var (i := 0)) sn_int)) (sn_op snr_IC (sn_op snr_ix (sn_var (i := 0)) sn_int) (sn_op snr_ix (sn_var (i := 2)) sn_int)))) (sng_name (i := 3)))
      (sns_seq (sns_asg (sn_op snr_IC (sn_op snr_I (sn_op snr_IC (sn_op snr_ix (sn_var (i := 1)) sn_int) (sn_op snr_ix (sn_var (i := 0)) sn_int)) (sn_op snr_IC (sn_op snr_ix (sn_var (i := 0)) sn_int) (sn_op snr_ix (sn_var (i := 1)) sn_int))) (sn_op snr_I (sn_op snr_IC (sn_op snr_ix (sn_var (i := 2)) sn_int) (sn_op snr_ix (sn_var (i := 0)) sn_int)) (sn_op snr_IC (sn_op snr_ix (sn_var (i := 0)) sn_int) (sn_op snr_ix (sn_var (i := 2)) sn_int)))) (sng_name (i := 4)))
      (sns_ret (sn_op snr_I (sn_cb snc_int (sna_cons (sn_op snr_B (sn_var (i := 3)) (sn_var (i := 4))) sna_nil)) (sn_cb snc_int (sna_cons (sn_op snr_B (sn_var (i := 3)) (sn_var (i := 4))) sna_nil)))))) ?_
  · exact Con.len fun _ => rfl
  · rintro ds t Q ⟨⟨a, b, c⟩, rfl, ⟨h1, h2, h3⟩, q⟩
    have h1 : PB 100000 a := h1
    have h2 : PB 100000 b := h2
    have h3 : PB 100000 c := h3
    have q : Q (.int (sgn (crossP a b c))) t := q
    have w1 := wayB h1 h2
    have w2 := wayB h1 h3
    refine ⟨mulB h2.X h1.Z (by decide), mulB h1.X h2.Z (by decide), mulB h3.Y h1.Z (by decide), mulB h1.Y h3.Z (by decide), mulB w1.1 w2.2 (by decide), mulB h2.Y h1.Z (by decide), mulB h1.Y h2.Z (by decide), mulB h3.X h1.Z (by decide), mulB h1.X h3.Z (by decide), mulB w1.2 w2.1 (by decide), ?_⟩
    show Q (.int ((if decide ((wayI a b).2 * (wayI a c).1 < (wayI a b).1 * (wayI a c).2) = true then (1 : Int) else 0) - (if decide ((wayI a b).1 * (wayI a c).2 < (wayI a b).2 * (wayI a c).1) = true then 1 else 0))) t
    have e := sgn_int (crossI a b a c) (pos4 a b a c)
    have d1 : decide (0 < (wayI a b).1 * (wayI a c).2 - (wayI a b).2 * (wayI a c).1) = decide ((wayI a b).2 * (wayI a c).1 < (wayI a b).1 * (wayI a c).2) := by rw [decide_eq_decide]; omega
    have d2 : decide ((wayI a b).1 * (wayI a c).2 - (wayI a b).2 * (wayI a c).1 < 0) = decide ((wayI a b).1 * (wayI a c).2 < (wayI a b).2 * (wayI a c).1) := by rw [decide_eq_decide]; omega
    rw [d1, d2] at e
    rw [e]
    exact q
def C_law_apart : Con := Con.of pp2 (fun p => ∃ n m, PB n p.1 ∧ PB m p.2 ∧ n + m ≤ 13499) (fun p => .tup [dR (p.2.x - p.1.x), dR (p.2.y - p.1.y)])
abbrev s_law_apart : Stmt := topS 72
abbrev N_law_apart : List Str := ["_law_a", "_law_b", "_law_x", "_law_y", "_law_far_x", "_law_far_y"]
theorem sc_law_apart : FnScope ["_law_a", "_law_b", "_law_x", "_law_y", "_law_far_x", "_law_far_y"] ["_law_a", "_law_b"] (defScope s_law_apart) := ⟨rfl, rfl, rfl, by decide +kernel, rfl, by decide +kernel, by decide +kernel⟩
theorem ok_law_apart (N : Dn K mg "_law_apart" s_law_apart ["_law_a", "_law_b"]) (c_law_xy : Cal P w K mg base 2 "_law_xy" (LSp K C_law_xy) []) (c_law_sum : Cal P w K mg base 2 "_law_sum" (LSp K C_law_sum) []) (c_law_minus : Cal P w K mg base 1 "_law_minus" (LSp K C_law_minus) []) : Cal P w K mg base 3 "_law_apart" (LSp K C_law_apart) [] := by
  refine N.ok sc_law_apart ?_ (fun f cdv A outer s H E hr => (pss_cons (ps_asg (pe_c c_law_xy hr (by decide) (by rfl) (pa_cons (pv 0) pa_nil)) (pg_tup rfl (pgs_cons (pg_name (i := 2) sc_law_apart.nd rfl (.inl rfl)) (pgs_cons (pg_name (i := 3) sc_law_apart.nd rfl (.inl rfl)) pgs_nil))))
      (pss_cons (ps_asg (pe_c c_law_xy hr (by decide) (by rfl) (pa_cons (pv 1) pa_nil)) (pg_tup rfl (pgs_cons (pg_name (i := 4) sc_law_apart.nd rfl (.inl rfl)) (pgs_cons (pg_name (i := 5) sc_law_apart.nd rfl (.inl rfl)) pgs_nil))))
      (pss_one (ps_ret (pe_tup (pa_cons (pe_c c_law_sum hr (by decide) (by rfl) (pa_cons (pv 4) (pa_cons (pe_c c_law_minus hr (by decide) (by rfl) (pa_cons (pv 2) pa_nil)) pa_nil))) (pa_cons (pe_c c_law_sum hr (by decide) (by rfl) (pa_cons (pv 5) (pa_cons (pe_c c_law_minus hr (by decide) (by rfl) (pa_cons (pv 3) pa_nil)) pa_nil))) pa_nil))))))))
    (sns_seq (sns_asg (sn_call (C := C_law_xy) (sna_cons (sn_var (i := 0)) sna_nil)) (sng_tup (n := 2) (sngs_cons (sng_name (i := 2)) (sngs_cons (sng_name (i := 3)) sngs_nil))))
      (sns_seq (sns_asg (sn_call (C := C_law_xy) (sna_cons (sn_var (i := 1)) sna_nil)) (sng_tup (n := 2) (sngs_cons (sng_name (i := 4)) (sngs_cons (sng_name (i := 5)) sngs_nil))))
      (sns_ret (sn_tup (sna_cons (sn_call (C := C_law_sum) (sna_cons (sn_var (i := 4)) (sna_cons (sn_call (C := C_law_minus) (sna_cons (sn_var (i := 2)) sna_nil)) sna_nil))) (sna_cons (sn_call (C := C_law_sum) (sna_cons (sn_var (i := 5)) (sna_cons (sn_call (C := C_law_minus) (sna_cons (sn_var (i := 3)) sna_nil)) sna_nil))) sna_nil)))))) ?_
  · exact Con.len fun _ => rfl
  · rintro ds t Q ⟨⟨a, b⟩, rfl, ⟨n, m, ha, hb, l⟩, q⟩
    have ha : PB n a := ha
    have hb : PB m b := hb
    have q : Q (.tup [dR (b.x - a.x), dR (b.y - a.y)]) t := q
    refine ⟨a, rfl, ha.mono (by omega), b, rfl, hb.mono (by omega), a.x, rfl, trivial, (b.x, -a.x), rfl, ⟨m, n, hb.rx, ha.rx.neg, by omega⟩, a.y, rfl, trivial, (b.y, -a.y), rfl, ⟨m, n, hb.ry, ha.ry.neg, by omega⟩, ?_⟩
    show Q (.tup [dR (b.x + -a.x), dR (b.y + -a.y)]) t
    rw [← Rat.sub_eq_add_neg, ← Rat.sub_eq_add_neg]
    exact q
def dV2 (p : V2 × V2) : List D := [dV p.1, dV p.2]
def C_law_athwart : Con := Con.of dV2 (fun p => ∃ n m, VB n p.1 ∧ VB m p.2 ∧ n + m + (n + m) ≤ 13499) (fun p => dR (p.1.1 * p.2.2 - p.1.2 * p.2.1))
abbrev s_law_athwart : Stmt := topS 73
abbrev N_law_athwart : List Str := ["_law_one", "_law_other"]
theorem sc_law_athwart : FnScope ["_law_one", "_law_other"] ["_law_one", "_law_other"] (defScope s_law_athwart) := ⟨rfl, rfl, rfl, by decide +kernel, rfl, by decide +kernel, by decide +kernel⟩
theorem ok_law_athwart (N : Dn K mg "_law_athwart" s_law_athwart ["_law_one", "_law_other"]) (c_law_sum : Cal P w K mg base 2 "_law_sum" (LSp K C_law_sum) []) (c_law_product : Cal P w K mg base 2 "_law_product" (LSp K C_law_product) []) (c_law_minus : Cal P w K mg base 1 "_law_minus" (LSp K C_law_minus) []) : Cal P w K mg base 3 "_law_athwart" (LSp K C_law_athwart) [] := by
  refine N.ok sc_law_athwart ?_ (fun f cdv A outer s H E hr => (pss_one (ps_ret (pe_c c_law_sum hr (by decide) (by rfl) (pa_cons (pe_c c_law_product hr (by decide) (by rfl) (pa_cons (pe_ix ix_A (pv 0) pe_int (fun _ _ => rfl)) (pa_cons (pe_ix ix_A (pv 1) pe_int (fun _ _ => rfl)) pa_nil))) (pa_cons (pe_c c_law_minus hr (by decide) (by rfl) (pa_cons (pe_c c_law_product hr (by decide) (by rfl) (pa_cons (pe_ix ix_A (pv 0) pe_int (fun _ _ => rfl)) (pa_cons (pe_ix ix_A (pv 1) pe_int (fun _ _ => rfl)) pa_nil))) pa_nil)) pa_nil))))))
    (sns_ret (sn_call (C := C_law_sum) (sna_cons (sn_call (C := C_law_product) (sna_cons (sn_op snr_ix (sn_var (i := 0)) sn_int) (sna_cons (sn_op snr_ix (sn_var (i := 1)) sn_int) sna_nil))) (sna_cons (sn_call (C := C_law_minus) (sna_cons (sn_call (C := C_law_product) (sna_cons (sn_op snr_ix (sn_var (i := 0)) sn_int) (sna_cons (sn_op snr_ix (sn_var (i := 1)) sn_int) sna_nil))) sna_nil)) sna_nil)))) ?_
  · exact Con.len fun _ => rfl
  · rintro ds t Q ⟨⟨⟨a, b⟩, c, d⟩, rfl, ⟨n, m, h1, h2, l⟩, q⟩
    have h1 : VB n (a, b) := h1
    have h2 : VB m (c, d) := h2
    have q : Q (dR (a * d - b * c)) t := q
    refine ⟨(a, d), rfl, ⟨n, m, h1.1, h2.2, by omega⟩, (b, c), rfl, ⟨n, m, h1.2, h2.1, by omega⟩, b * c, rfl, trivial, (a * d, -(b * c)), rfl, ⟨n + m, n + m, h1.1.mul h2.2, (h1.2.mul h2.1).neg, by omega⟩, ?_⟩
    show Q (dR (a * d + -(b * c))) t
    rw [← Rat.sub_eq_add_neg]
    exact q
def C_law_squared : Con := Con.of pp2 (fun p => ∃ n m, PB n p.1 ∧ PB m p.2 ∧ 4 * (n + m + 1) ≤ 13499) (fun p => dR (sqd p.1 p.2))
abbrev s_law_squared : Stmt := topS 70
abbrev N_law_squared : List Str := ["_law_a", "_law_b", "_law_x", "_law_y"]
theorem sc_law_squared : FnScope ["_law_a", "_law_b", "_law_x", "_law_y"] ["_law_a", "_law_b"] (defScope s_law_squared) := ⟨rfl, rfl, rfl, by decide +kernel, rfl, by decide +kernel, by decide +kernel⟩
theorem ok_law_squared (N : Dn K mg "_law_squared" s_law_squared ["_law_a", "_law_b"]) (c_law_sum : Cal P w K mg base 2 "_law_sum" (LSp K C_law_sum) []) (c_law_minus : Cal P w K mg base 1 "_law_minus" (LSp K C_law_minus) []) (c_law_product : Cal P w K mg base 2 "_law_product" (LSp K C_law_product) []) (c_law_xy : Cal P w K mg base 2 "_law_xy" (LSp K C_law_xy) []) : Cal P w K mg base 3 "_law_squared" (LSp K C_law_squared) [] := by
  refine N.ok sc_law_squared ?_ (fun f cdv A outer s H E hr => (pss_cons (ps_set (i := 2) sc_law_squared.nd rfl (.inl rfl) (pe_c c_law_sum hr (by decide) (by rfl) (pa_cons (pe_ix ix_A (pe_c c_law_xy hr (by decide) (by rfl) (pa_cons (pv 1) pa_nil)) pe_int (fun _ _ => rfl)) (pa_cons (pe_c c_law_minus hr (by decide) (by rfl) (pa_cons (pe_ix ix_A (pe_c c_law_xy hr (by decide) (by rfl) (pa_cons (pv 0) pa_nil)) pe_int (fun _ _ => rfl)) pa_nil)) pa_nil))))
      (pss_cons (ps_set (i := 3) sc_law_squared.nd rfl (.inl rfl) (pe_c c_law_sum hr (by decide) (by rfl) (pa_cons (pe_ix ix_A (pe_c c_law_xy hr (by decide) (by rfl) (pa_cons (pv 1) pa_nil)) pe_int (fun _ _ => rfl)) (pa_cons (pe_c c_law_minus hr (by decide) (by rfl) (pa_cons (pe_ix ix_A (pe_c c_law_xy hr (by decide) (by rfl) (pa_cons (pv 0) pa_nil)) pe_int (fun _ _ => rfl)) pa_nil)) pa_nil))))
      (pss_one (ps_ret (pe_c c_law_sum hr (by decide) (by rfl) (pa_cons (pe_c c_law_product hr (by decide) (by rfl) (pa_cons (pv 2) (pa_cons (pv 2) pa_nil))) (pa_cons (pe_c c_law_product hr (by decide) (by rfl) (pa_cons (pv 3) (pa_cons (pv 3) pa_nil))) pa_nil))))))))
    (sns_seq (sns_asg (sn_call (C := C_law_sum) (sna_cons (sn_op snr_ix (sn_call (C := C_law_xy) (sna_cons (sn_var (i := 1)) sna_nil)) sn_int) (sna_cons (sn_call (C := C_law_minus) (sna_cons (sn_op snr_ix (sn_call (C := C_law_xy) (sna_cons (sn_var (i := 0)) sna_nil)) sn_int) sna_nil)) sna_nil))) (sng_name (i := 2)))
      (sns_seq (sns_asg (sn_call (C := C_law_sum) (sna_cons (sn_op snr_ix (sn_call (C := C_law_xy) (sna_cons (sn_var (i := 1)) sna_nil)) sn_int) (sna_cons (sn_call (C := C_law_minus) (sna_cons (sn_op snr_ix (sn_call (C := C_law_xy) (sna_cons (sn_var (i := 0)) sna_nil)) sn_int) sna_nil)) sna_nil))) (sng_name (i := 3)))
      (sns_ret (sn_call (C := C_law_sum) (sna_cons (sn_call (C := C_law_product) (sna_cons (sn_var (i := 2)) (sna_cons (sn_var (i := 2)) sna_nil))) (sna_cons (sn_call (C := C_law_product) (sna_cons (sn_var (i := 3)) (sna_cons (sn_var (i := 3)) sna_nil))) sna_nil)))))) ?_
  · exact Con.len fun _ => rfl
  · rintro ds t Q ⟨⟨a, b⟩, rfl, ⟨n, m, ha, hb, l⟩, q⟩
    have ha : PB n a := ha
    have hb : PB m b := hb
    have q : Q (dR (sqd a b)) t := q
    unfold sqd at q
    have x := hb.rx.add ha.rx.neg
    have y := hb.ry.add ha.ry.neg
    refine ⟨b, rfl, hb.mono (by omega), a, rfl, ha.mono (by omega), a.x, rfl, trivial, (b.x, -a.x), rfl, ⟨m, n, hb.rx, ha.rx.neg, by omega⟩,
      b, rfl, hb.mono (by omega), a, rfl, ha.mono (by omega), a.y, rfl, trivial, (b.y, -a.y), rfl, ⟨m, n, hb.ry, ha.ry.neg, by omega⟩,
      (b.x + -a.x, b.x + -a.x), rfl, ⟨_, _, x, x, by omega⟩, (b.y + -a.y, b.y + -a.y), rfl, ⟨_, _, y, y, by omega⟩, ((b.x + -a.x) * (b.x + -a.x), (b.y + -a.y) * (b.y + -a.y)), rfl, ⟨_, _, x.mul x, y.mul y, by omega⟩, ?_⟩
    show Q (dR ((b.x + -a.x) * (b.x + -a.x) + (b.y + -a.y) * (b.y + -a.y))) t
    rw [← Rat.sub_eq_add_neg, ← Rat.sub_eq_add_neg]
    exact q
def C_law_lies : Con := Con.of (fun p : Pt × Pt × Pt => [dP p.1, dP p.2.1, dP p.2.2]) (fun p => ∃ n m, PB n p.1 ∧ PB n p.2.1 ∧ PB m p.2.2 ∧ 2 * (n + n + 1 + (n + m + 1)) ≤ 13499) (fun p => .tup [dR (lies p.1 p.2.1 p.2.2).1, dR (lies p.1 p.2.1 p.2.2).2])
abbrev s_law_lies : Stmt := topS 82
abbrev N_law_lies : List Str := ["_law_a", "_law_b", "_law_one", "_law_along_it", "_law_x", "_law_y", "_law_far_x", "_law_far_y"]
theorem sc_law_lies : FnScope ["_law_a", "_law_b", "_law_one", "_law_along_it", "_law_x", "_law_y", "_law_far_x", "_law_far_y"] ["_law_a", "_law_b", "_law_one"] (defScope s_law_lies) := ⟨rfl, rfl, rfl, by decide +kernel, rfl, by decide +kernel, by decide +kernel⟩
theorem ok_law_lies (N : Dn K mg "_law_lies" s_law_lies ["_law_a", "_law_b", "_law_one"]) (c_law_apart : Cal P w K mg base 3 "_law_apart" (LSp K C_law_apart) []) (c_law_sum : Cal P w K mg base 2 "_law_sum" (LSp K C_law_sum) []) (c_law_product : Cal P w K mg base 2 "_law_product" (LSp K C_law_product) []) (c_law_minus : Cal P w K mg base 1 "_law_minus" (LSp K C_law_minus) []) : Cal P w K mg base 4 "_law_lies" (LSp K C_law_lies) [] := by
  refine N.ok sc_law_lies ?_ (fun f cdv A outer s H E hr => (pss_cons (ps_asg (pe_c c_law_apart hr (by decide) (by rfl) (pa_cons (pv 0) (pa_cons (pv 1) pa_nil))) (pg_tup rfl (pgs_cons (pg_name (i := 4) sc_law_lies.nd rfl (.inl rfl)) (pgs_cons (pg_name (i := 5) sc_law_lies.nd rfl (.inl rfl)) pgs_nil))))
      (pss_cons (ps_asg (pe_c c_law_apart hr (by decide) (by rfl) (pa_cons (pv 0) (pa_cons (pv 2) pa_nil))) (pg_tup rfl (pgs_cons (pg_name (i := 6) sc_law_lies.nd rfl (.inl rfl)) (pgs_cons (pg_name (i := 7) sc_law_lies.nd rfl (.inl rfl)) pgs_nil))))
      (pss_cons (ps_set (i := 3) sc_law_lies.nd rfl (.inl rfl) (pe_c c_law_sum hr (by decide) (by rfl) (pa_cons (pe_c c_law_product hr (by decide) (by rfl) (pa_cons (pv 4) (pa_cons (pv 6) pa_nil))) (pa_cons (pe_c c_law_product hr (by decide) (by rfl) (pa_cons (pv 5) (pa_cons (pv 7) pa_nil))) pa_nil))))
      (pss_one (ps_ret (pe_tup (pa_cons (pv 3) (pa_cons (pe_c c_law_sum hr (by decide) (by rfl) (pa_cons (pe_c c_law_product hr (by decide) (by rfl) (pa_cons (pv 4) (pa_cons (pv 7) pa_nil))) (pa_cons (pe_c c_law_minus hr (by decide) (by rfl) (pa_cons (pe_c c_law_product hr (by decide) (by rfl) (pa_cons (pv 5) (pa_cons (pv 6) pa_nil))) pa_nil)) pa_nil))) pa_nil)))))))))
    (sns_seq (sns_asg (sn_call (C := C_law_apart) (sna_cons (sn_var (i := 0)) (sna_cons (sn_var (i := 1)) sna_nil))) (sng_tup (n := 2) (sngs_cons (sng_name (i := 4)) (sngs_cons (sng_name (i := 5)) sngs_nil))))
      (sns_seq (sns_asg (sn_call (C := C_law_apart) (sna_cons (sn_var (i := 0)) (sna_cons (sn_var (i := 2)) sna_nil))) (sng_tup (n := 2) (sngs_cons (sng_name (i := 6)) (sngs_cons (sng_name (i := 7)) sngs_nil))))
      (sns_seq (sns_asg (sn_call (C := C_law_sum) (sna_cons (sn_call (C := C_law_product) (sna_cons (sn_var (i := 4)) (sna_cons (sn_var (i := 6)) sna_nil))) (sna_cons (sn_call (C := C_law_product) (sna_cons (sn_var (i := 5)) (sna_cons (sn_var (i := 7)) sna_nil))) sna_nil))) (sng_name (i := 3)))
      (sns_ret (sn_tup (sna_cons (sn_var (i := 3)) (sna_cons (sn_call (C := C_law_sum) (sna_cons (sn_call (C := C_law_product) (sna_cons (sn_var (i := 4)) (sna_cons (sn_var (i := 7)) sna_nil))) (sna_cons (sn_call (C := C_law_minus) (sna_cons (sn_call (C := C_law_product) (sna_cons (sn_var (i := 5)) (sna_cons (sn_var (i := 6)) sna_nil))) sna_nil)) sna_nil))) sna_nil))))))) ?_
  · exact Con.len fun _ => rfl
  · rintro ds t Q ⟨⟨a, b, r⟩, rfl, ⟨n, m, ha, hb, hr, l⟩, q⟩
    have ha : PB n a := ha
    have hb : PB n b := hb
    have hr : PB m r := hr
    have q : Q (.tup [dR ((b.x - a.x) * (r.x - a.x) + (b.y - a.y) * (r.y - a.y)), dR ((b.x - a.x) * (r.y - a.y) - (b.y - a.y) * (r.x - a.x))]) t := q
    have x1 := hb.rx.sub ha.rx
    have y1 := hb.ry.sub ha.ry
    have x2 := hr.rx.sub ha.rx
    have y2 := hr.ry.sub ha.ry
    refine ⟨(a, b), rfl, ⟨n, n, ha, hb, by omega⟩, (a, r), rfl, ⟨n, m, ha, hr, by omega⟩, (b.x - a.x, r.x - a.x), rfl, ⟨_, _, x1, x2, by omega⟩, (b.y - a.y, r.y - a.y), rfl, ⟨_, _, y1, y2, by omega⟩,
      ((b.x - a.x) * (r.x - a.x), (b.y - a.y) * (r.y - a.y)), rfl, ⟨_, _, x1.mul x2, y1.mul y2, by omega⟩, (b.x - a.x, r.y - a.y), rfl, ⟨_, _, x1, y2, by omega⟩, (b.y - a.y, r.x - a.x), rfl, ⟨_, _, y1, x2, by omega⟩,
      (b.y - a.y) * (r.x - a.x), rfl, trivial, ((b.x - a.x) * (r.y - a.y), -((b.y - a.y) * (r.x - a.x))), rfl, ⟨_, _, x1.mul y2, (y1.mul x2).neg, by omega⟩, ?_⟩
    show Q (.tup [dR ((b.x - a.x) * (r.x - a.x) + (b.y - a.y) * (r.y - a.y)), dR ((b.x - a.x) * (r.y - a.y) + -((b.y - a.y) * (r.x - a.x)))]) t
    rw [← Rat.sub_eq_add_neg ((b.x - a.x) * (r.y - a.y))]
    exact q
theorem dR0 : dR 0 = .tup [.int 0, .int 1] := rfl
def C_law_ends_of_strip : Con := Con.of (fun r : Rl => [dRule r]) (fun _ => True) (fun r => .tup [dR (loR r), dR (hiR r)])
abbrev s_law_ends_of_strip : Stmt := topS 79
abbrev N_law_ends_of_strip : List Str := ["_law_rule_here", "_law_right"]
theorem sc_law_ends_of_strip : FnScope ["_law_rule_here", "_law_right"] ["_law_rule_here"] (defScope s_law_ends_of_strip) := ⟨rfl, rfl, rfl, by decide +kernel, rfl, by decide +kernel, by decide +kernel⟩
theorem ok_law_ends_of_strip (N : Dn K mg "_law_ends_of_strip" s_law_ends_of_strip ["_law_rule_here"]) (c_law_minus : Cal P w K mg base 1 "_law_minus" (LSp K C_law_minus) []) : Cal P w K mg base 2 "_law_ends_of_strip" (LSp K C_law_ends_of_strip) [] := by
  refine N.ok sc_law_ends_of_strip ?_ (fun f cdv A outer s H E hr => (pss_cons (ps_set (i := 1) sc_law_ends_of_strip.nd rfl (.inl rfl) (pe_ifExp (pt_cmpR (op_eqA hr.units) (pe_ix ix_A (pv 0) pe_int (fun _ _ => rfl)) pe_str (nomark _)) (pe_tup (pa_cons pe_int (pa_cons pe_int pa_nil))) (pe_c c_law_minus hr (by decide) (by rfl) (pa_cons (pe_ix ix_A (pv 0) pe_int (fun _ _ => rfl)) pa_nil))))
      (pss_one (ps_ret (pe_tup (pa_cons (pv 1) (pa_cons (pe_ifExp (pt_cmpR (op_eqA hr.units) (pe_ix ix_A (pv 0) pe_int (fun _ _ => rfl)) pe_str (nomark _)) (pe_tup (pa_cons pe_int (pa_cons pe_int pa_nil))) (pe_ix ix_A (pv 0) pe_int (fun _ _ => rfl))) pa_nil)))))))
    (sns_seq (sns_asg (sn_if (snt_test (sn_op snr_eq (sn_op snr_ix (sn_var (i := 0)) sn_int) sn_str)) (sn_tup (sna_cons sn_int (sna_cons sn_int sna_nil))) (sn_call (C := C_law_minus) (sna_cons (sn_op snr_ix (sn_var (i := 0)) sn_int) sna_nil))) (sng_name (i := 1)))
      (sns_ret (sn_tup (sna_cons (sn_var (i := 1)) (sna_cons (sn_if (snt_test (sn_op snr_eq (sn_op snr_ix (sn_var (i := 0)) sn_int) sn_str)) (sn_tup (sna_cons sn_int (sna_cons sn_int sna_nil))) (sn_op snr_ix (sn_var (i := 0)) sn_int)) sna_nil))))) ?_
  · exact Con.len fun _ => rfl
  · rintro ds t Q ⟨⟨h, s, e, j, b⟩, rfl, _, q⟩
    cases s with
    | both => exact ⟨h, rfl, trivial, q⟩
    | left => exact q
    | right => exact ⟨h, rfl, trivial, q⟩
end
end DL


/-! ## V3 -/
set_option maxRecDepth 100000
/-! roots, ways of the law -/
namespace DL
open PySem PySem.Spec PyProof.Rows L2
open C8 (Cal pe_c pe_gc)
open W15
section
variable {P : Program} {w : World} {K : PySem.W.Frag} {mg : Str → Option Value} {base : Heap}
def C_law_root : Con := Con.of (fun k : Int => [.int (k * k)]) (fun k => 0 ≤ k ∧ Bd 13000 (k * k)) (fun k => .int k)
abbrev s_law_root : Stmt := topS 75
abbrev N_law_root : List Str := ["_law_number_here", "_law_low", "_law_high", "_law_half"]
theorem sc_law_root : FnScope ["_law_number_here", "_law_low", "_law_high", "_law_half"] ["_law_number_here"] (defScope s_law_root) := ⟨rfl, rfl, rfl, by decide +kernel, rfl, by decide +kernel, by decide +kernel⟩
theorem ok_law_root (N : Dn K mg "_law_root" s_law_root ["_law_number_here"]) : Cal P w K mg base 1 "_law_root" (LSp K C_law_root) [] := by
  refine N.ok sc_law_root ?_ (fun f cdv A outer s H E hr => (pss_cons (ps_asg (pe_tup (pa_cons pe_int (pa_cons pe_int pa_nil))) (pg_tup rfl (pgs_cons (pg_name (i := 1) sc_law_root.nd rfl (.inl rfl)) (pgs_cons (pg_name (i := 2) sc_law_root.nd rfl (.inl rfl)) pgs_nil))))
      (pss_cons (ps_while PassesOwn.never (pt_cmpR op_le (pe_op op_mulB (pv 2) (pv 2)) (pv 0) (nomark _)) (pss_one (ps_set (i := 2) sc_law_root.nd rfl (.inl rfl) (pe_op op_mulB (pv 2) pe_int))))
      (pss_cons (ps_while PassesOwn.never (pt_cmpR op_gt (pe_op op_sub (pv 2) (pv 1)) pe_int (nomark _)) (pss_cons (ps_set (i := 3) sc_law_root.nd rfl (.inl rfl) (pe_op op_fdivB (pe_op op_addA (pv 1) (pv 2)) pe_int))
      (pss_one (ps_asg (pe_ifExp (pt_cmpR op_le (pe_op op_mulB (pv 3) (pv 3)) (pv 0) (nomark _)) (pe_tup (pa_cons (pv 3) (pa_cons (pv 2) pa_nil))) (pe_tup (pa_cons (pv 1) (pa_cons (pv 3) pa_nil)))) (pg_tup rfl (pgs_cons (pg_name (i := 1) sc_law_root.nd rfl (.inl rfl)) (pgs_cons (pg_name (i := 2) sc_law_root.nd rfl (.inl rfl)) pgs_nil)))))))
      (pss_one (ps_ret (pv 1)))))))
    (sns_seq (sns_asg (sn_tup (sna_cons sn_int (sna_cons sn_int sna_nil))) (sng_tup (n := 2) (sngs_cons (sng_name (i := 1)) (sngs_cons (sng_name (i := 2)) sngs_nil))))
      (sns_seq (sns_while (snt_test (sn_op snr_B (sn_op snr_IC (sn_var (i := 2)) (sn_var (i := 2))) (sn_var (i := 0)))) (sns_asg (sn_op snr_IC (sn_var (i := 2)) sn_int) (sng_name (i := 2))))
      (sns_seq (sns_while (snt_test (sn_op snr_B (sn_op snr_I (sn_var (i := 2)) (sn_var (i := 1))) sn_int)) (sns_seq (sns_asg (sn_op snr_IC (sn_op snr_add (sn_var (i := 1)) (sn_var (i := 2))) sn_int) (sng_name (i := 3)))
      (sns_asg (sn_if (snt_test (sn_op snr_B (sn_op snr_IC (sn_var (i := 3)) (sn_var (i := 3))) (sn_var (i := 0)))) (sn_tup (sna_cons (sn_var (i := 3)) (sna_cons (sn_var (i := 2)) sna_nil))) (sn_tup (sna_cons (sn_var (i := 1)) (sna_cons (sn_var (i := 3)) sna_nil)))) (sng_tup (n := 2) (sngs_cons (sng_name (i := 1)) (sngs_cons (sng_name (i := 2)) sngs_nil))))))
      (sns_ret (sn_var (i := 1)))))) ?_
  · exact Con.len fun _ => rfl
  · rintro ds t Q ⟨k, rfl, ⟨hk, hB⟩, q⟩
    have hk : 0 ≤ k := hk
    have q : Q (.int k) t := q
    have sq : ∀ {x y : Int}, 0 ≤ x → x ≤ y → x * x ≤ y * y := fun {x y} h0 h1 => Int.mul_le_mul h1 h1 h0 (by omega)
    have lt_of : ∀ {x : Int}, 0 ≤ x → k * k < x * x → k < x := fun {x} h0 h => by
      rcases Int.lt_or_le k x with z | z
      · exact z
      · have := sq h0 z
        omega
    have le_of : ∀ {x : Int}, 0 ≤ x → x * x ≤ k * k → x ≤ k := fun {x} h0 h => by
      rcases Int.lt_or_le k x with z | z
      · have := Int.mul_lt_mul' (Int.le_of_lt z) z hk (by omega : 0 < x)
        omega
      · exact z
    have kB : ∀ {x : Int}, 0 ≤ x → x ≤ 2 * k + 1 → Bd 13002 x := fun {x} h0 h1 => by
      have kk : k ≤ k * k := by
        rcases Int.lt_or_le 0 k with z | z
        · have := Int.mul_le_mul_of_nonneg_right (show (1 : Int) ≤ k by omega) hk
          omega
        · have : k = 0 := by omega
          subst this
          decide
      have b1 : Bd 13000 k := hB.le (by omega)
      have b2 := (b1.addS b1).addS ((show Bd 1 1 by unfold Bd; decide).mono (show 1 ≤ 13000 + 1 by decide))
      exact b2.le (by omega)
    have b2 : Bd 2 2 := by unfold Bd; decide
    refine ⟨(k + 1).toNat + 1, ?_⟩
    refine (?_ : ∀ (n : Nat) (hi : Int), 1 ≤ hi → hi ≤ 2 * k + 1 → (k + 1 - hi).toNat < n → whW _ _ _ n [Sl.dat (.int (k * k)), Sl.dat (.int 0), Sl.dat (.int hi), Sl.no] t) _ 1 (by omega) (by omega) (by omega)
    intro n
    induction n with
    | zero => intro hi _ _ h; exact absurd h (Nat.not_lt_zero _)
    | succ n ih =>
      intro hi h1 h2 h3
      refine ⟨mulB (kB (by omega) h2) (kB (by omega) h2) (by decide), ?_⟩
      show if decide (hi * hi ≤ k * k) = true then _ else _
      refine ite2 (fun h => ?_) (fun h => ?_)
      · have hl := le_of (show 0 ≤ hi by omega) (of_decide_eq_true h)
        refine ⟨mulB (kB (by omega) h2) b2 (by decide), ?_⟩
        exact ih (hi * 2) (by omega) (by omega) (by omega)
      · have hg := lt_of (show 0 ≤ hi by omega) (by have : ¬ hi * hi ≤ k * k := fun z => h (decide_eq_true z); omega)
        refine ⟨hi.toNat + 1, ?_⟩
        refine (?_ : ∀ (n : Nat) (lo hi : Int) (s3 : Sl), 0 ≤ lo → lo ≤ k → k < hi → hi ≤ 2 * k + 1 → (hi - lo).toNat < n → whW _ _ _ n [Sl.dat (.int (k * k)), Sl.dat (.int lo), Sl.dat (.int hi), s3] t) _ 0 hi Sl.no (by omega) (by omega) hg h2 (by omega)
        clear ih h h1 h2 h3 hg
        intro n
        induction n with
        | zero => intro lo hi s3 _ _ _ _ h; exact absurd h (Nat.not_lt_zero _)
        | succ n ih =>
          intro lo hi s3 h0 h1 h2 h3 h4
          show if decide (1 < hi - lo) = true then _ else Q (.int lo) t
          refine ite2 (fun h => ?_) (fun h => ?_)
          · have hl : 1 < hi - lo := of_decide_eq_true h
            have hf : (lo + hi).fdiv 2 = (lo + hi) / 2 := Int.fdiv_eq_ediv_of_nonneg _ (by decide)
            have m1 : lo < (lo + hi) / 2 := by omega
            have m2 : (lo + hi) / 2 < hi := by omega
            refine ⟨⟨by decide, .inl ⟨2, b2, by decide⟩⟩, ?_⟩
            refine (?_ : ∀ m : Int, m = (lo + hi) / 2 → wgName 3 (.int m) _ _) ((lo + hi).fdiv 2) hf
            intro m hm
            refine ⟨mulB (kB (by omega) (by omega)) (kB (by omega) (by omega)) (by decide), ?_⟩
            show if decide (m * m ≤ k * k) = true then _ else _
            refine ite2 (fun z => ?_) (fun z => ?_)
            · have := le_of (show 0 ≤ m by omega) (of_decide_eq_true z)
              exact ih m hi _ (by omega) this h2 h3 (by omega)
            · have := lt_of (show 0 ≤ m by omega) (by have : ¬ m * m ≤ k * k := fun y => z (decide_eq_true y); omega)
              exact ih lo m _ h0 h1 this (by omega) (by omega)
          · have hl : ¬ 1 < hi - lo := fun z => h (decide_eq_true z)
            have : lo = k := by omega
            rw [this]
            exact q
/-- what the law keeps of a piece -/
noncomputable def dWay (e : Pt × Pt) : D := .tup [dP e.1, dP e.2, dR (e.2.x - e.1.x), dR (e.2.y - e.1.y), dR (LOf e)]
def PcE (e : Pt × Pt) : Prop := ∃ u L, Pc e.1 e.2 u L
theorem root_enc {L : Rat} (h0 : 0 < L) : (L * L).num = L.num * L.num ∧ ((L * L).den : Int) = (L.den : Int) * (L.den : Int) := by
  obtain ⟨e1, e2⟩ := sq_num L
  exact ⟨e1, by rw [e2, Int.natCast_mul]⟩
end
end DL


/-! ## V4 -/
set_option maxRecDepth 100000
/-! ways, sides of the law -/
namespace DL
open PySem PySem.Spec PyProof.Rows L2
open C8 (Cal pe_c pe_gc)
open W15
section
variable {P : Program} {w : World} {K : PySem.W.Frag} {mg : Str → Option Value} {base : Heap}
def Ln.pts2 (l : Ln) : List Pt := l.pts ++ (if l.closed then [l.pts.headD ⟨0, 0⟩] else [])
theorem pieces_pts2 {l : Ln} (h : 2 ≤ l.pts.length) : l.pieces = (List.range ((Ln.pts2 l).length - 1)).map fun k => ((Ln.pts2 l).getD k ⟨0, 0⟩, (Ln.pts2 l).getD (k + 1) ⟨0, 0⟩) := by
  rw [pieces_eq h]
  obtain ⟨cl, pts⟩ := l
  have h : 2 ≤ pts.length := h
  cases cl with
  | false =>
    show (List.range (pts.length - 1)).map _ = (List.range ((pts ++ []).length - 1)).map _
    rw [List.append_nil]
    apply List.map_congr_left
    intro k hk
    have hk := List.mem_range.mp hk
    show (pts.getD k _, pts.getD ((k + 1) % pts.length) _) = ((pts ++ []).getD k _, (pts ++ []).getD (k + 1) _)
    rw [List.append_nil, Nat.mod_eq_of_lt (show k + 1 < pts.length by omega)]
  | true =>
    show (List.range pts.length).map _ = (List.range ((pts ++ [pts.headD ⟨0, 0⟩]).length - 1)).map _
    rw [List.length_append, List.length_singleton, Nat.add_sub_cancel]
    apply List.map_congr_left
    intro k hk
    have hk := List.mem_range.mp hk
    show (pts.getD k _, pts.getD ((k + 1) % pts.length) _) = ((pts ++ [pts.headD ⟨0, 0⟩]).getD k _, (pts ++ [pts.headD ⟨0, 0⟩]).getD (k + 1) _)
    rw [Prod.mk.injEq, List.getD_eq_getElem?_getD, List.getD_eq_getElem?_getD, List.getD_eq_getElem?_getD, List.getD_eq_getElem?_getD, List.getElem?_append_left hk]
    refine ⟨rfl, ?_⟩
    rcases Nat.lt_or_ge (k + 1) pts.length with z | z
    · rw [Nat.mod_eq_of_lt z, List.getElem?_append_left z]
    · have : k + 1 = pts.length := by omega
      rw [this, Nat.mod_self, List.getElem?_append_right (Nat.le_refl _), Nat.sub_self]
      cases pts with
      | nil => exact absurd h (by decide)
      | cons x r => rfl
theorem atP (F : List Pt) {k : Nat} (h : k < F.length) : atD (F.map dP) (k : Int) = some (dP (F.getD k ⟨0, 0⟩)) := by
  rw [atD_map, List.getElem?_eq_getElem h, List.getD_eq_getElem?_getD, List.getElem?_eq_getElem h]
  rfl
theorem cutD_int (ds : List D) (k : Nat) : cutD ds none (some (k : Int)) = ds.take k := by
  unfold cutD
  rw [HT.sIx_none, HT.sIx_nat, List.drop_zero, Nat.sub_zero]
  rcases Nat.le_total k ds.length with h | h
  · rw [Nat.min_eq_left h]
  · rw [Nat.min_eq_right h, List.take_length, List.take_of_length_le h]
noncomputable def C_law_ways : Con := Con.of (fun l : Ln => [dLine l]) (fun l => l.Ok) (fun l => .lst (l.pieces.map dWay))
abbrev s_law_ways : Stmt := topS 74
abbrev N_law_ways : List Str := ["_law_line_here", "_law_some", "_law_found", "_law_k", "_law_square", "_law_x", "_law_y", "_law_far_x", "_law_far_y"]
theorem sc_law_ways : FnScope ["_law_line_here", "_law_some", "_law_found", "_law_k", "_law_square", "_law_x", "_law_y", "_law_far_x", "_law_far_y"] ["_law_line_here"] (defScope s_law_ways) := ⟨rfl, rfl, rfl, by decide +kernel, rfl, by decide +kernel, by decide +kernel⟩
theorem ok_law_ways (N : Dn K mg "_law_ways" s_law_ways ["_law_line_here"]) (B : Bt mg) (c_law_xy : Cal P w K mg base 2 "_law_xy" (LSp K C_law_xy) []) (c_law_sum : Cal P w K mg base 2 "_law_sum" (LSp K C_law_sum) []) (c_law_product : Cal P w K mg base 2 "_law_product" (LSp K C_law_product) []) (c_law_minus : Cal P w K mg base 1 "_law_minus" (LSp K C_law_minus) []) (c_law_root : Cal P w K mg base 1 "_law_root" (LSp K C_law_root) []) : Cal P w K mg base 3 "_law_ways" (LSp K C_law_ways) [] := by
  refine N.ok sc_law_ways ?_ (fun f cdv A outer s H E hr => (pss_cons (ps_set (i := 1) sc_law_ways.nd rfl (.inl rfl) (pe_op op_addA (pe_ix ix_A (pv 0) pe_int (fun _ _ => rfl)) (pe_slice sl_A (pe_ix ix_A (pv 0) pe_int (fun _ _ => rfl)) po_none (po_some (pe_callTy call_int1 (by rfl) B.int (by decide +kernel) (pa_cons (pe_ix ix_A (pv 0) pe_int (fun _ _ => rfl)) pa_nil))))))
      (pss_cons (ps_set (i := 2) sc_law_ways.nd rfl (.inl rfl) (pe_lst pa_nil))
      (pss_cons (ps_for PassesOwn.never rfl (pi_range1 (by rfl) B.range (pa_cons (pe_op op_sub (pe_callB call_len_seq (by rfl) B.len (by decide +kernel) (pa_cons (pv 1) pa_nil)) pe_int) pa_nil)) (pg_name (i := 3) sc_law_ways.nd rfl (.inl rfl)) (pss_cons (ps_asg (pe_c c_law_xy hr (by decide) (by rfl) (pa_cons (pe_ix ix_A (pv 1) (pv 3) (fun _ _ => rfl)) pa_nil)) (pg_tup rfl (pgs_cons (pg_name (i := 5) sc_law_ways.nd rfl (.inl rfl)) (pgs_cons (pg_name (i := 6) sc_law_ways.nd rfl (.inl rfl)) pgs_nil))))
      (pss_cons (ps_asg (pe_c c_law_xy hr (by decide) (by rfl) (pa_cons (pe_ix ix_A (pv 1) (pe_op op_addA (pv 3) pe_int) (fun _ _ => rfl)) pa_nil)) (pg_tup rfl (pgs_cons (pg_name (i := 7) sc_law_ways.nd rfl (.inl rfl)) (pgs_cons (pg_name (i := 8) sc_law_ways.nd rfl (.inl rfl)) pgs_nil))))
      (pss_cons (ps_par (i := 5) (j := 6) rfl sc_law_ways.nd rfl rfl (by decide) rfl rfl (pa_cons (pe_c c_law_sum hr (by decide) (by rfl) (pa_cons (pv 7) (pa_cons (pe_c c_law_minus hr (by decide) (by rfl) (pa_cons (pv 5) pa_nil)) pa_nil))) (pa_cons (pe_c c_law_sum hr (by decide) (by rfl) (pa_cons (pv 8) (pa_cons (pe_c c_law_minus hr (by decide) (by rfl) (pa_cons (pv 6) pa_nil)) pa_nil))) pa_nil)) (by rfl))
      (pss_cons (ps_set (i := 4) sc_law_ways.nd rfl (.inl rfl) (pe_c c_law_sum hr (by decide) (by rfl) (pa_cons (pe_c c_law_product hr (by decide) (by rfl) (pa_cons (pv 5) (pa_cons (pv 5) pa_nil))) (pa_cons (pe_c c_law_product hr (by decide) (by rfl) (pa_cons (pv 6) (pa_cons (pv 6) pa_nil))) pa_nil))))
      (pss_one (ps_expr (pe_bm PySem.F.plainAttrs_list PySem.F.slot_list_append PySem.F.type_list_append mt_append (pv 2) (pa_cons (pe_tup (pa_cons (pe_ix ix_A (pv 1) (pv 3) (fun _ _ => rfl)) (pa_cons (pe_ix ix_A (pv 1) (pe_op op_addA (pv 3) pe_int) (fun _ _ => rfl)) (pa_cons (pv 5) (pa_cons (pv 6) (pa_cons (pe_tup (pa_cons (pe_c c_law_root hr (by decide) (by rfl) (pa_cons (pe_ix ix_A (pv 4) pe_int (fun _ _ => rfl)) pa_nil)) (pa_cons (pe_c c_law_root hr (by decide) (by rfl) (pa_cons (pe_ix ix_A (pv 4) pe_int (fun _ _ => rfl)) pa_nil)) pa_nil))) pa_nil)))))) pa_nil)))))))))
      (pss_one (ps_ret (pv 2)))))))
    (sns_seq (sns_asg (sn_op snr_add (sn_op snr_ix (sn_var (i := 0)) sn_int) (sn_sl (sn_op snr_ix (sn_var (i := 0)) sn_int) sno_none (sno_some (sn_cb snc_int (sna_cons (sn_op snr_ix (sn_var (i := 0)) sn_int) sna_nil))))) (sng_name (i := 1)))
      (sns_seq (sns_ownLst (i := 2) sna_nil)
      (sns_seq (sns_for (sni_rng (sna_cons (sn_op snr_I (sn_cb snc_len (sna_cons (sn_var (i := 1)) sna_nil)) sn_int) sna_nil)) (sng_name (i := 3)) (sns_seq (sns_asg (sn_call (C := C_law_xy) (sna_cons (sn_op snr_ix (sn_var (i := 1)) (sn_var (i := 3))) sna_nil)) (sng_tup (n := 2) (sngs_cons (sng_name (i := 5)) (sngs_cons (sng_name (i := 6)) sngs_nil))))
      (sns_seq (sns_asg (sn_call (C := C_law_xy) (sna_cons (sn_op snr_ix (sn_var (i := 1)) (sn_op snr_add (sn_var (i := 3)) sn_int)) sna_nil)) (sng_tup (n := 2) (sngs_cons (sng_name (i := 7)) (sngs_cons (sng_name (i := 8)) sngs_nil))))
      (sns_seq (sns_par (i := 5) (j := 6) (sna_cons (sn_call (C := C_law_sum) (sna_cons (sn_var (i := 7)) (sna_cons (sn_call (C := C_law_minus) (sna_cons (sn_var (i := 5)) sna_nil)) sna_nil))) (sna_cons (sn_call (C := C_law_sum) (sna_cons (sn_var (i := 8)) (sna_cons (sn_call (C := C_law_minus) (sna_cons (sn_var (i := 6)) sna_nil)) sna_nil))) sna_nil)))
      (sns_seq (sns_asg (sn_call (C := C_law_sum) (sna_cons (sn_call (C := C_law_product) (sna_cons (sn_var (i := 5)) (sna_cons (sn_var (i := 5)) sna_nil))) (sna_cons (sn_call (C := C_law_product) (sna_cons (sn_var (i := 6)) (sna_cons (sn_var (i := 6)) sna_nil))) sna_nil))) (sng_name (i := 4)))
      (sns_app (i := 2) (sn_tup (sna_cons (sn_op snr_ix (sn_var (i := 1)) (sn_var (i := 3))) (sna_cons (sn_op snr_ix (sn_var (i := 1)) (sn_op snr_add (sn_var (i := 3)) sn_int)) (sna_cons (sn_var (i := 5)) (sna_cons (sn_var (i := 6)) (sna_cons (sn_tup (sna_cons (sn_call (C := C_law_root) (sna_cons (sn_op snr_ix (sn_var (i := 4)) sn_int) sna_nil)) (sna_cons (sn_call (C := C_law_root) (sna_cons (sn_op snr_ix (sn_var (i := 4)) sn_int) sna_nil)) sna_nil))) sna_nil))))))))))))
      (sns_frz (i := 2) (sns_ret (sn_var (i := 2))))))) ?_
  · exact Con.len fun _ => rfl
  · rintro ds t Q ⟨l, rfl, hl, q⟩
    have hl : l.Ok := hl
    have q : Q (.lst (l.pieces.map dWay)) t := q
    have two := hl.two
    have nine := hl.nine
    have ex := hl.ex
    have hp := pieces_pts2 two
    have hc : ∀ i : Int, i = (if l.closed = true then 1 else 0) → cutD (l.pts.map dP) none (some i) = (if l.closed then [l.pts.headD ⟨0, 0⟩] else []).map dP := fun i hi => by
      cases h : l.closed with
      | true =>
        rw [h] at hi
        have hi : i = ((1 : Nat) : Int) := hi
        rw [hi, cutD_int]
        cases hp : l.pts with
        | nil => rw [hp] at two; exact absurd two (by decide)
        | cons x r => rfl
      | false =>
        rw [h] at hi
        have hi : i = ((0 : Nat) : Int) := hi
        rw [hi, cutD_int]
        rfl
    have e2 : (Ln.pts2 l).length ≤ 10 := by
      unfold Ln.pts2
      rw [List.length_append]
      split
      · rw [List.length_singleton]; omega
      · rw [List.length_nil]; omega
    have e3 : l.pts.map dP ++ cutD (l.pts.map dP) none (some (if l.closed = true then 1 else 0)) = (Ln.pts2 l).map dP := by
      rw [hc _ rfl]
      unfold Ln.pts2
      rw [List.map_append]
    refine szOk_mk (by
      have := congrArg List.length e3
      rw [List.length_append, List.length_map (as := Ln.pts2 l)] at this
      show (l.pts.map dP).length + (cutD (l.pts.map dP) none (some (if l.closed = true then 1 else 0))).length ≤ 1000
      omega) ?_
    refine (?_ : ∀ d : D, d = .tup ((Ln.pts2 l).map dP) → wgName 1 d _ _) _ (by show D.tup (l.pts.map dP ++ cutD (l.pts.map dP) none (some (if l.closed = true then 1 else 0))) = _; rw [e3])
    rintro _ rfl
    rw [hp] at q ex
    have l0 : 2 ≤ (Ln.pts2 l).length := by
      unfold Ln.pts2
      rw [List.length_append]
      omega
    generalize Ln.pts2 l = F at *
    clear hc e3 hp
    have hn : (((F.map dP).length : Int) - 1) = ((F.length - 1 : Nat) : Int) := by rw [List.length_map]; omega
    refine ⟨⟨by show (-1000 : Int) ≤ ((F.map dP).length : Int) - 1; rw [hn]; omega, by show ((List.map dP F).length : Int) - 1 ≤ 1000; rw [hn]; omega⟩, ?_⟩
    show forW _ _ _ ((List.range (((F.map dP).length : Int) - 1).toNat).map fun (k : Nat) => D.int (k : Int)) [Sl.dat (dLine l), Sl.dat (.tup (F.map dP)), Sl.own [], Sl.no, Sl.no, Sl.no, Sl.no, Sl.no, Sl.no] t
    rw [hn, Int.toNat_natCast]
    have hks : ∀ k ∈ List.range (F.length - 1), k + 1 < F.length ∧ PcE (F.getD k ⟨0, 0⟩, F.getD (k + 1) ⟨0, 0⟩) := fun k hk => ⟨by have := List.mem_range.mp hk; omega, ex _ (List.mem_map_of_mem (f := fun k => (F.getD k ⟨0, 0⟩, F.getD (k + 1) ⟨0, 0⟩)) hk)⟩
    have hlen : (List.range (F.length - 1)).length ≤ 10 := by rw [List.length_range]; omega
    have fin : Q (.lst ([] ++ (List.range (F.length - 1)).map fun k => dWay (F.getD k ⟨0, 0⟩, F.getD (k + 1) ⟨0, 0⟩))) t := by
      rw [List.nil_append]
      rw [List.map_map] at q
      exact q
    generalize List.range (F.length - 1) = ks at *
    clear q ex
    refine (?_ : ∀ (ks : List Nat) (acc : List D) (s3 s4 s5 s6 s7 s8 : Sl), acc.length + ks.length ≤ 10 → (∀ k ∈ ks, k + 1 < F.length ∧ PcE (F.getD k ⟨0, 0⟩, F.getD (k + 1) ⟨0, 0⟩)) → Q (.lst (acc ++ ks.map fun k => dWay (F.getD k ⟨0, 0⟩, F.getD (k + 1) ⟨0, 0⟩))) t →
      forW _ _ _ (ks.map fun (k : Nat) => D.int (k : Int)) [Sl.dat (dLine l), Sl.dat (.tup (F.map dP)), Sl.own acc, s3, s4, s5, s6, s7, s8] t) ks [] _ _ _ _ _ _ (by rw [List.length_nil]; omega) hks fin
    intro ks
    induction ks with
    | nil =>
      intro acc s3 s4 s5 s6 s7 s8 _ _ fin
      rw [List.map_nil, List.append_nil] at fin
      exact fin
    | cons k ks ih =>
      intro acc s3 s4 s5 s6 s7 s8 hN hK fin
      have hN : acc.length + (ks.length + 1) ≤ 10 := hN
      obtain ⟨h1, hpc⟩ := hK k List.mem_cons_self
      have hK' := fun j hj => hK j (List.mem_cons_of_mem _ hj)
      have c := pc_of hpc
      have A1 := atP F (show k < F.length by omega)
      have A2 := atP F h1
      rw [List.map_cons] at fin
      generalize F.getD k ⟨0, 0⟩ = a at *
      generalize F.getD (k + 1) ⟨0, 0⟩ = b at *
      have c : Pc a b (uOf (a, b)) (LOf (a, b)) := c
      have ba := c.ba
      have bb := c.bb
      have bx := bb.rx.add ba.rx.neg
      have bY := bb.ry.add ba.ry.neg
      have sq : (b.x + -a.x) * (b.x + -a.x) + (b.y + -a.y) * (b.y + -a.y) = LOf (a, b) * LOf (a, b) := by
        have := pc_sq c
        unfold sqd at this
        rw [← Rat.sub_eq_add_neg, ← Rat.sub_eq_add_neg]
        exact this
      refine opD_mk A1 ⟨a, rfl, ba.mono (by decide), ?_⟩
      refine opD_mk A2 ⟨b, rfl, bb.mono (by decide), ?_⟩
      refine ⟨a.x, rfl, trivial, (b.x, -a.x), rfl, ⟨_, _, bb.rx, ba.rx.neg, by decide⟩, a.y, rfl, trivial, (b.y, -a.y), rfl, ⟨_, _, bb.ry, ba.ry.neg, by decide⟩, ?_⟩
      refine ⟨(b.x + -a.x, b.x + -a.x), rfl, ⟨_, _, bx, bx, by decide⟩, (b.y + -a.y, b.y + -a.y), rfl, ⟨_, _, bY, bY, by decide⟩, (_, _), rfl, ⟨_, _, bx.mul bx, bY.mul bY, by decide⟩, ?_⟩
      refine (?_ : ∀ d : D, d = dR (LOf (a, b) * LOf (a, b)) → wgName 4 d _ _) _ (by show dR ((b.x + -a.x) * (b.x + -a.x) + (b.y + -a.y) * (b.y + -a.y)) = _; rw [sq])
      rintro _ rfl
      obtain ⟨n1, n2⟩ := root_enc c.pos
      have L0 : 0 ≤ (LOf (a, b)).num := Rat.num_nonneg.mpr (Rat.le_of_lt c.pos)
      have LB := c.bL
      refine opD_mk A1 (opD_mk A2 ⟨(LOf (a, b)).num, ?_, ⟨L0, (LB.num.mul LB.num).mono (by decide)⟩, ((LOf (a, b)).den : Int), ?_, ⟨by show 0 ≤ ((LOf (a, b)).den : Int); omega, (LB.den.mul LB.den).mono (by decide)⟩, by omega, ?_⟩)
      · show [D.int (LOf (a, b) * LOf (a, b)).num] = [D.int ((LOf (a, b)).num * (LOf (a, b)).num)]
        rw [n1]
      · show [D.int ((LOf (a, b) * LOf (a, b)).den : Int)] = [D.int (((LOf (a, b)).den : Int) * ((LOf (a, b)).den : Int))]
        rw [n2]
      · have ed : D.tup [dP a, dP b, dR (b.x + -a.x), dR (b.y + -a.y), dR (LOf (a, b))] = dWay (a, b) := by
          rw [← Rat.sub_eq_add_neg, ← Rat.sub_eq_add_neg]
          rfl
        refine (?_ : ∀ d : D, d = dWay (a, b) → forW _ _ _ (ks.map fun (k : Nat) => D.int (k : Int)) [_, _, Sl.own (acc ++ [d]), _, _, _, _, _, _] t) _ ed
        rintro _ rfl
        refine ih (acc ++ [dWay (a, b)]) _ _ _ _ _ _ (by rw [List.length_append, List.length_singleton]; omega) hK' ?_
        rw [List.append_assoc]
        exact fin
end
end DL


/-! ## V5 -/
set_option maxRecDepth 100000
/-! sides, corners of the law -/
namespace DL
open PySem PySem.Spec PyProof.Rows L2
open C8 (Cal pe_c pe_gc)
open W15
section
variable {P : Program} {w : World} {K : PySem.W.Frag} {mg : Str → Option Value} {base : Heap}
theorem pc_x {a b u : Pt} {L : Rat} (c : Pc a b u L) : b.x - a.x = L * u.x ∧ b.y - a.y = L * u.y := by
  have := c.ex
  have := c.ey
  constructor <;> grind
theorem pc_xb {a b u : Pt} {L : Rat} (c : Pc a b u L) : RB 66 (b.x - a.x) ∧ RB 66 (b.y - a.y) := by
  obtain ⟨e1, e2⟩ := pc_x c
  rw [e1, e2]
  exact ⟨(c.bL.mul c.bu.1).mono (by decide), (c.bL.mul c.bu.2).mono (by decide)⟩
theorem far_u {L far x : Rat} (h : 0 < L) : far / L * (L * x) = far * x := by
  have : L ≠ 0 := by grind
  grind
abbrev BArg := Pt × (Pt × Pt) × Rat
noncomputable def dB (p : BArg) : List D := [dP p.1, dWay p.2.1, dR p.2.2]
def BPre (p : BArg) : Prop := PcE p.2.1 ∧ ∃ n m, PB n p.1 ∧ RB m p.2.2 ∧ n + m ≤ 6000
noncomputable def C_law_beside : Con := Con.of dB BPre (fun p => dP (addP p.1 (-(p.2.2 * (uOf p.2.1).y)) (p.2.2 * (uOf p.2.1).x)))
abbrev s_law_beside : Stmt := topS 77
abbrev N_law_beside : List Str := ["_law_one", "_law_piece", "_law_far", "_law_share"]
theorem sc_law_beside : FnScope ["_law_one", "_law_piece", "_law_far", "_law_share"] ["_law_one", "_law_piece", "_law_far"] (defScope s_law_beside) := ⟨rfl, rfl, rfl, by decide +kernel, rfl, by decide +kernel, by decide +kernel⟩
theorem ok_law_beside (N : Dn K mg "_law_beside" s_law_beside ["_law_one", "_law_piece", "_law_far"]) (c_law_over : Cal P w K mg base 2 "_law_over" (LSp K C_law_over) []) (c_law_gone : Cal P w K mg base 3 "_law_gone" (LSp K C_law_gone) []) (c_law_minus : Cal P w K mg base 1 "_law_minus" (LSp K C_law_minus) []) (c_law_product : Cal P w K mg base 2 "_law_product" (LSp K C_law_product) []) : Cal P w K mg base 4 "_law_beside" (LSp K C_law_beside) [] := by
  refine N.ok sc_law_beside ?_ (fun f cdv A outer s H E hr => (pss_cons (ps_set (i := 3) sc_law_beside.nd rfl (.inl rfl) (pe_c c_law_over hr (by decide) (by rfl) (pa_cons (pv 2) (pa_cons (pe_ix ix_A (pv 1) pe_int (fun _ _ => rfl)) pa_nil))))
      (pss_one (ps_ret (pe_c c_law_gone hr (by decide) (by rfl) (pa_cons (pv 0) (pa_cons (pe_c c_law_minus hr (by decide) (by rfl) (pa_cons (pe_c c_law_product hr (by decide) (by rfl) (pa_cons (pv 3) (pa_cons (pe_ix ix_A (pv 1) pe_int (fun _ _ => rfl)) pa_nil))) pa_nil)) (pa_cons (pe_c c_law_product hr (by decide) (by rfl) (pa_cons (pv 3) (pa_cons (pe_ix ix_A (pv 1) pe_int (fun _ _ => rfl)) pa_nil))) pa_nil))))))))
    (sns_seq (sns_asg (sn_call (C := C_law_over) (sna_cons (sn_var (i := 2)) (sna_cons (sn_op snr_ix (sn_var (i := 1)) sn_int) sna_nil))) (sng_name (i := 3)))
      (sns_ret (sn_call (C := C_law_gone) (sna_cons (sn_var (i := 0)) (sna_cons (sn_call (C := C_law_minus) (sna_cons (sn_call (C := C_law_product) (sna_cons (sn_var (i := 3)) (sna_cons (sn_op snr_ix (sn_var (i := 1)) sn_int) sna_nil))) sna_nil)) (sna_cons (sn_call (C := C_law_product) (sna_cons (sn_var (i := 3)) (sna_cons (sn_op snr_ix (sn_var (i := 1)) sn_int) sna_nil))) sna_nil)))))) ?_
  · exact Con.len fun _ => rfl
  · rintro ds t Q ⟨⟨p, e, far⟩, rfl, ⟨hc, n, m, hp, hf, l⟩, q⟩
    have hp : PB n p := hp
    have hf : RB m far := hf
    have c := pc_of (show PcE e from hc)
    have q : Q (dP (addP p (-(far * (uOf e).y)) (far * (uOf e).x))) t := q
    obtain ⟨ex, ey⟩ := pc_x c
    obtain ⟨bx, bY⟩ := pc_xb c
    have L0 := c.pos
    have LB := c.bL
    have hL : LOf e ≠ 0 := by grind
    have sB := hf.div LB hL
    refine ⟨(far, LOf e), rfl, ⟨hL, m, 60, hf, LB, by omega⟩, (far / LOf e, e.2.y - e.1.y), rfl, ⟨_, _, sB, bY, by omega⟩, far / LOf e * (e.2.y - e.1.y), rfl, trivial, (far / LOf e, e.2.x - e.1.x), rfl, ⟨_, _, sB, bx, by omega⟩,
      (p, -(far / LOf e * (e.2.y - e.1.y)), far / LOf e * (e.2.x - e.1.x)), rfl, gb hp (sB.mul bY).neg (sB.mul bx) (by omega), ?_⟩
    show Q (dP (addP p (-(far / LOf e * (e.2.y - e.1.y))) (far / LOf e * (e.2.x - e.1.x)))) t
    rw [ex, ey, far_u L0, far_u L0]
    exact q
noncomputable def C_law_along : Con := Con.of dB BPre (fun p => dP (addP p.1 (p.2.2 * (uOf p.2.1).x) (p.2.2 * (uOf p.2.1).y)))
abbrev s_law_along : Stmt := topS 78
abbrev N_law_along : List Str := ["_law_one", "_law_piece", "_law_far", "_law_share"]
theorem sc_law_along : FnScope ["_law_one", "_law_piece", "_law_far", "_law_share"] ["_law_one", "_law_piece", "_law_far"] (defScope s_law_along) := ⟨rfl, rfl, rfl, by decide +kernel, rfl, by decide +kernel, by decide +kernel⟩
theorem ok_law_along (N : Dn K mg "_law_along" s_law_along ["_law_one", "_law_piece", "_law_far"]) (c_law_over : Cal P w K mg base 2 "_law_over" (LSp K C_law_over) []) (c_law_gone : Cal P w K mg base 3 "_law_gone" (LSp K C_law_gone) []) (c_law_product : Cal P w K mg base 2 "_law_product" (LSp K C_law_product) []) : Cal P w K mg base 4 "_law_along" (LSp K C_law_along) [] := by
  refine N.ok sc_law_along ?_ (fun f cdv A outer s H E hr => (pss_cons (ps_set (i := 3) sc_law_along.nd rfl (.inl rfl) (pe_c c_law_over hr (by decide) (by rfl) (pa_cons (pv 2) (pa_cons (pe_ix ix_A (pv 1) pe_int (fun _ _ => rfl)) pa_nil))))
      (pss_one (ps_ret (pe_c c_law_gone hr (by decide) (by rfl) (pa_cons (pv 0) (pa_cons (pe_c c_law_product hr (by decide) (by rfl) (pa_cons (pv 3) (pa_cons (pe_ix ix_A (pv 1) pe_int (fun _ _ => rfl)) pa_nil))) (pa_cons (pe_c c_law_product hr (by decide) (by rfl) (pa_cons (pv 3) (pa_cons (pe_ix ix_A (pv 1) pe_int (fun _ _ => rfl)) pa_nil))) pa_nil))))))))
    (sns_seq (sns_asg (sn_call (C := C_law_over) (sna_cons (sn_var (i := 2)) (sna_cons (sn_op snr_ix (sn_var (i := 1)) sn_int) sna_nil))) (sng_name (i := 3)))
      (sns_ret (sn_call (C := C_law_gone) (sna_cons (sn_var (i := 0)) (sna_cons (sn_call (C := C_law_product) (sna_cons (sn_var (i := 3)) (sna_cons (sn_op snr_ix (sn_var (i := 1)) sn_int) sna_nil))) (sna_cons (sn_call (C := C_law_product) (sna_cons (sn_var (i := 3)) (sna_cons (sn_op snr_ix (sn_var (i := 1)) sn_int) sna_nil))) sna_nil)))))) ?_
  · exact Con.len fun _ => rfl
  · rintro ds t Q ⟨⟨p, e, far⟩, rfl, ⟨hc, n, m, hp, hf, l⟩, q⟩
    have hp : PB n p := hp
    have hf : RB m far := hf
    have c := pc_of (show PcE e from hc)
    have q : Q (dP (addP p (far * (uOf e).x) (far * (uOf e).y))) t := q
    obtain ⟨ex, ey⟩ := pc_x c
    obtain ⟨bx, bY⟩ := pc_xb c
    have L0 := c.pos
    have LB := c.bL
    have hL : LOf e ≠ 0 := by grind
    have sB := hf.div LB hL
    refine ⟨(far, LOf e), rfl, ⟨hL, m, 60, hf, LB, by omega⟩, (far / LOf e, e.2.x - e.1.x), rfl, ⟨_, _, sB, bx, by omega⟩, (far / LOf e, e.2.y - e.1.y), rfl, ⟨_, _, sB, bY, by omega⟩,
      (p, far / LOf e * (e.2.x - e.1.x), far / LOf e * (e.2.y - e.1.y)), rfl, gb hp (sB.mul bx) (sB.mul bY) (by omega), ?_⟩
    show Q (dP (addP p (far / LOf e * (e.2.x - e.1.x)) (far / LOf e * (e.2.y - e.1.y)))) t
    rw [ex, ey, far_u L0, far_u L0]
    exact q
noncomputable def C_law_in_rims : Con := Con.of (fun p : (Pt × Pt) × Rl × Rat => [dWay p.1, dRule p.2.1, dR p.2.2]) (fun p => PcE p.1 ∧ p.2.1.Ok ∧ RB 100000 p.2.2) (fun p => .bl (inRims (LOf p.1) p.2.1 p.2.2))
theorem lo_hi_b {r : Rl} (h : r.Ok) : RB 20 (loR r) ∧ RB 20 (hiR r) := by
  have z : RB 20 0 := ⟨by unfold Bd; decide, by unfold Bd; decide⟩
  unfold loR hiR
  constructor
  · split
    · exact z
    · exact h.bh.neg
  · split
    · exact z
    · exact h.bh
abbrev s_law_in_rims : Stmt := topS 85
abbrev N_law_in_rims : List Str := ["_law_piece", "_law_rule_here", "_law_left", "_law_low", "_law_high"]
theorem sc_law_in_rims : FnScope ["_law_piece", "_law_rule_here", "_law_left", "_law_low", "_law_high"] ["_law_piece", "_law_rule_here", "_law_left"] (defScope s_law_in_rims) := ⟨rfl, rfl, rfl, by decide +kernel, rfl, by decide +kernel, by decide +kernel⟩
theorem ok_law_in_rims (N : Dn K mg "_law_in_rims" s_law_in_rims ["_law_piece", "_law_rule_here", "_law_left"]) (c_law_ends_of_strip : Cal P w K mg base 2 "_law_ends_of_strip" (LSp K C_law_ends_of_strip) []) (c_law_between : Cal P w K mg base 2 "_law_between" (LSp K C_law_between) []) (c_law_product : Cal P w K mg base 2 "_law_product" (LSp K C_law_product) []) : Cal P w K mg base 3 "_law_in_rims" (LSp K C_law_in_rims) [] := by
  refine N.ok sc_law_in_rims ?_ (fun f cdv A outer s H E hr => (pss_cons (ps_asg (pe_c c_law_ends_of_strip hr (by decide) (by rfl) (pa_cons (pv 1) pa_nil)) (pg_tup rfl (pgs_cons (pg_name (i := 3) sc_law_in_rims.nd rfl (.inl rfl)) (pgs_cons (pg_name (i := 4) sc_law_in_rims.nd rfl (.inl rfl)) pgs_nil))))
      (pss_one (ps_ret (pe_c c_law_between hr (by decide) (by rfl) (pa_cons (pe_c c_law_product hr (by decide) (by rfl) (pa_cons (pv 3) (pa_cons (pe_ix ix_A (pv 0) pe_int (fun _ _ => rfl)) pa_nil))) (pa_cons (pv 2) (pa_cons (pe_c c_law_product hr (by decide) (by rfl) (pa_cons (pv 4) (pa_cons (pe_ix ix_A (pv 0) pe_int (fun _ _ => rfl)) pa_nil))) pa_nil))))))))
    (sns_seq (sns_asg (sn_call (C := C_law_ends_of_strip) (sna_cons (sn_var (i := 1)) sna_nil)) (sng_tup (n := 2) (sngs_cons (sng_name (i := 3)) (sngs_cons (sng_name (i := 4)) sngs_nil))))
      (sns_ret (sn_call (C := C_law_between) (sna_cons (sn_call (C := C_law_product) (sna_cons (sn_var (i := 3)) (sna_cons (sn_op snr_ix (sn_var (i := 0)) sn_int) sna_nil))) (sna_cons (sn_var (i := 2)) (sna_cons (sn_call (C := C_law_product) (sna_cons (sn_var (i := 4)) (sna_cons (sn_op snr_ix (sn_var (i := 0)) sn_int) sna_nil))) sna_nil)))))) ?_
  · exact Con.len fun _ => rfl
  · rintro ds t Q ⟨⟨e, r, x⟩, rfl, ⟨hc, hr, hx⟩, q⟩
    have hr : r.Ok := hr
    have hx : RB 100000 x := hx
    have c := pc_of (show PcE e from hc)
    obtain ⟨b1, b2⟩ := lo_hi_b hr
    have LB := c.bL
    exact ⟨r, rfl, trivial, (loR r, LOf e), rfl, ⟨_, _, b1, LB, by decide⟩, (hiR r, LOf e), rfl, ⟨_, _, b2, LB, by decide⟩, (loR r * LOf e, x, hiR r * LOf e), rfl, ⟨(b1.mul LB).mono (by decide), hx, (b2.mul LB).mono (by decide)⟩, q⟩
def C_law_line_place : Con := Con.of dP4 (fun p => cr4 p.1 p.2.1 p.2.2.1 p.2.2.2 ≠ 0 ∧ PB 200 p.1 ∧ PB 200 p.2.1 ∧ PB 200 p.2.2.1 ∧ PB 200 p.2.2.2) (fun p => dP (meetP p.1 p.2.1 p.2.2.1 p.2.2.2))
abbrev s_law_line_place : Stmt := topS 71
abbrev N_law_line_place : List Str := ["_law_a", "_law_b", "_law_c", "_law_d", "_law_first", "_law_second", "_law_third", "_law_top", "_law_bottom", "_law_share"]
theorem sc_law_line_place : FnScope ["_law_a", "_law_b", "_law_c", "_law_d", "_law_first", "_law_second", "_law_third", "_law_top", "_law_bottom", "_law_share"] ["_law_a", "_law_b", "_law_c", "_law_d"] (defScope s_law_line_place) := ⟨rfl, rfl, rfl, by decide +kernel, rfl, by decide +kernel, by decide +kernel⟩
theorem ok_law_line_place (N : Dn K mg "_law_line_place" s_law_line_place ["_law_a", "_law_b", "_law_c", "_law_d"]) (c_law_apart : Cal P w K mg base 3 "_law_apart" (LSp K C_law_apart) []) (c_law_athwart : Cal P w K mg base 3 "_law_athwart" (LSp K C_law_athwart) []) (c_law_fraction : Cal P w K mg base 1 "_law_fraction" (LSp K C_law_fraction) []) (c_law_gone : Cal P w K mg base 3 "_law_gone" (LSp K C_law_gone) []) (c_law_product : Cal P w K mg base 2 "_law_product" (LSp K C_law_product) []) : Cal P w K mg base 4 "_law_line_place" (LSp K C_law_line_place) [] := by
  refine N.ok sc_law_line_place ?_ (fun f cdv A outer s H E hr => (pss_cons (ps_set (i := 4) sc_law_line_place.nd rfl (.inl rfl) (pe_c c_law_apart hr (by decide) (by rfl) (pa_cons (pv 0) (pa_cons (pv 1) pa_nil))))
      (pss_cons (ps_set (i := 5) sc_law_line_place.nd rfl (.inl rfl) (pe_c c_law_apart hr (by decide) (by rfl) (pa_cons (pv 0) (pa_cons (pv 2) pa_nil))))
      (pss_cons (ps_set (i := 6) sc_law_line_place.nd rfl (.inl rfl) (pe_c c_law_apart hr (by decide) (by rfl) (pa_cons (pv 2) (pa_cons (pv 3) pa_nil))))
      (pss_cons (ps_set (i := 7) sc_law_line_place.nd rfl (.inl rfl) (pe_c c_law_athwart hr (by decide) (by rfl) (pa_cons (pv 5) (pa_cons (pv 6) pa_nil))))
      (pss_cons (ps_set (i := 8) sc_law_line_place.nd rfl (.inl rfl) (pe_c c_law_athwart hr (by decide) (by rfl) (pa_cons (pv 4) (pa_cons (pv 6) pa_nil))))
      (pss_cons (ps_set (i := 9) sc_law_line_place.nd rfl (.inl rfl) (pe_c c_law_fraction hr (by decide) (by rfl) (pa_cons (pe_op op_mulB (pe_ix ix_A (pv 7) pe_int (fun _ _ => rfl)) (pe_ix ix_A (pv 8) pe_int (fun _ _ => rfl))) (pa_cons (pe_op op_mulB (pe_ix ix_A (pv 7) pe_int (fun _ _ => rfl)) (pe_ix ix_A (pv 8) pe_int (fun _ _ => rfl))) pa_nil))))
      (pss_one (ps_ret (pe_c c_law_gone hr (by decide) (by rfl) (pa_cons (pv 0) (pa_cons (pe_c c_law_product hr (by decide) (by rfl) (pa_cons (pv 9) (pa_cons (pe_ix ix_A (pv 4) pe_int (fun _ _ => rfl)) pa_nil))) (pa_cons (pe_c c_law_product hr (by decide) (by rfl) (pa_cons (pv 9) (pa_cons (pe_ix ix_A (pv 4) pe_int (fun _ _ => rfl)) pa_nil))) pa_nil)))))))))))))
    (sns_seq (sns_asg (sn_call (C := C_law_apart) (sna_cons (sn_var (i := 0)) (sna_cons (sn_var (i := 1)) sna_nil))) (sng_name (i := 4)))
      (sns_seq (sns_asg (sn_call (C := C_law_apart) (sna_cons (sn_var (i := 0)) (sna_cons (sn_var (i := 2)) sna_nil))) (sng_name (i := 5)))
      (sns_seq (sns_asg (sn_call (C := C_law_apart) (sna_cons (sn_var (i := 2)) (sna_cons (sn_var (i := 3)) sna_nil))) (sng_name (i := 6)))
      (sns_seq (sns_asg (sn_call (C := C_law_athwart) (sna_cons (sn_var (i := 5)) (sna_cons (sn_var (i := 6)) sna_nil))) (sng_name (i := 7)))
      (sns_seq (sns_asg (sn_call (C := C_law_athwart) (sna_cons (sn_var (i := 4)) (sna_cons (sn_var (i := 6)) sna_nil))) (sng_name (i := 8)))
      (sns_seq (sns_asg (sn_call (C := C_law_fraction) (sna_cons (sn_op snr_IC (sn_op snr_ix (sn_var (i := 7)) sn_int) (sn_op snr_ix (sn_var (i := 8)) sn_int)) (sna_cons (sn_op snr_IC (sn_op snr_ix (sn_var (i := 7)) sn_int) (sn_op snr_ix (sn_var (i := 8)) sn_int)) sna_nil))) (sng_name (i := 9)))
      (sns_ret (sn_call (C := C_law_gone) (sna_cons (sn_var (i := 0)) (sna_cons (sn_call (C := C_law_product) (sna_cons (sn_var (i := 9)) (sna_cons (sn_op snr_ix (sn_var (i := 4)) sn_int) sna_nil))) (sna_cons (sn_call (C := C_law_product) (sna_cons (sn_var (i := 9)) (sna_cons (sn_op snr_ix (sn_var (i := 4)) sn_int) sna_nil))) sna_nil))))))))))) ?_
  · exact Con.len fun _ => rfl
  · rintro ds t Q ⟨⟨a, b, c, d⟩, rfl, ⟨h0, ha, hb, hc, hd⟩, q⟩
    have h0 : cr4 a b c d ≠ 0 := h0
    have ha : PB 200 a := ha
    have hb : PB 200 b := hb
    have hc : PB 200 c := hc
    have hd : PB 200 d := hd
    have v1 : VB 401 (b.x - a.x, b.y - a.y) := ⟨hb.rx.sub ha.rx, hb.ry.sub ha.ry⟩
    have v2 : VB 401 (c.x - a.x, c.y - a.y) := ⟨hc.rx.sub ha.rx, hc.ry.sub ha.ry⟩
    have v3 : VB 401 (d.x - c.x, d.y - c.y) := ⟨hd.rx.sub hc.rx, hd.ry.sub hc.ry⟩
    have tB := (v2.1.mul v3.2).sub (v2.2.mul v3.1)
    have bB := (v1.1.mul v3.2).sub (v1.2.mul v3.1)
    have e : cr4 a b c d = (b.x - a.x) * (d.y - c.y) - (b.y - a.y) * (d.x - c.x) := rfl
    rw [e] at h0
    refine ⟨(a, b), rfl, ⟨_, _, ha, hb, by decide⟩, (a, c), rfl, ⟨_, _, ha, hc, by decide⟩, (c, d), rfl, ⟨_, _, hc, hd, by decide⟩, ((c.x - a.x, c.y - a.y), (d.x - c.x, d.y - c.y)), rfl, ⟨_, _, v2, v3, by decide⟩, ((b.x - a.x, b.y - a.y), (d.x - c.x, d.y - c.y)), rfl, ⟨_, _, v1, v3, by decide⟩, ?_⟩
    have q : Q (dP (addP a (((c.x - a.x) * (d.y - c.y) - (c.y - a.y) * (d.x - c.x)) / ((b.x - a.x) * (d.y - c.y) - (b.y - a.y) * (d.x - c.x)) * (b.x - a.x)) (((c.x - a.x) * (d.y - c.y) - (c.y - a.y) * (d.x - c.x)) / ((b.x - a.x) * (d.y - c.y) - (b.y - a.y) * (d.x - c.x)) * (b.y - a.y)))) t := by with_unfolding_all exact q
    have sB := tB.div bB h0
    refine ⟨mulB tB.num bB.den (by decide), mulB tB.den bB.num (by decide), (_, _), rfl, ⟨Int.mul_ne_zero (den_ne0 _) (num_ne h0), (tB.num.mul bB.den).mono (by decide), (tB.den.mul bB.num).mono (by decide)⟩, ?_⟩
    refine (?_ : ∀ dt : D, dt = dR (((c.x - a.x) * (d.y - c.y) - (c.y - a.y) * (d.x - c.x)) / ((b.x - a.x) * (d.y - c.y) - (b.y - a.y) * (d.x - c.x))) → wgName 9 dt _ _) _ (by show dR (((((c.x - a.x) * (d.y - c.y) - (c.y - a.y) * (d.x - c.x)).num * ((b.x - a.x) * (d.y - c.y) - (b.y - a.y) * (d.x - c.x)).den : Int) : Rat) / ((((c.x - a.x) * (d.y - c.y) - (c.y - a.y) * (d.x - c.x)).den * ((b.x - a.x) * (d.y - c.y) - (b.y - a.y) * (d.x - c.x)).num : Int) : Rat)) = _; rw [div_frac _ _ h0])
    rintro _ rfl
    exact ⟨(((c.x - a.x) * (d.y - c.y) - (c.y - a.y) * (d.x - c.x)) / ((b.x - a.x) * (d.y - c.y) - (b.y - a.y) * (d.x - c.x)), b.x - a.x), rfl, ⟨_, _, sB, v1.1, by decide⟩, (((c.x - a.x) * (d.y - c.y) - (c.y - a.y) * (d.x - c.x)) / ((b.x - a.x) * (d.y - c.y) - (b.y - a.y) * (d.x - c.x)), b.y - a.y), rfl, ⟨_, _, sB, v1.2, by decide⟩, (a, ((c.x - a.x) * (d.y - c.y) - (c.y - a.y) * (d.x - c.x)) / ((b.x - a.x) * (d.y - c.y) - (b.y - a.y) * (d.x - c.x)) * (b.x - a.x), ((c.x - a.x) * (d.y - c.y) - (c.y - a.y) * (d.x - c.x)) / ((b.x - a.x) * (d.y - c.y) - (b.y - a.y) * (d.x - c.x)) * (b.y - a.y)), rfl, gb ha (sB.mul v1.1) (sB.mul v1.2) (by decide), q⟩
/-- the law's tip is the program's -/
theorem tip_law {a p b u v lo hi : Pt} {L M : Rat} (c1 : Pc a p u L) (c2 : Pc p b v M) (hn : crU u v ≠ 0) : meetP lo (addP lo u.x u.y) hi (addP hi v.x v.y) = meetP lo (wayAdd lo a p) hi (wayAdd hi p b) := by
  have L0 := c1.pos
  have M0 := c2.pos
  obtain ⟨x1, y1⟩ := pc_x c1
  obtain ⟨x2, y2⟩ := pc_x c2
  have hL : L ≠ 0 := by grind
  have hM : M ≠ 0 := by grind
  have e1 : ((wayAdd lo a p).x - lo.x) = L * u.x := by simp only [wayAdd, addP]; grind
  have e2 : ((wayAdd lo a p).y - lo.y) = L * u.y := by simp only [wayAdd, addP]; grind
  have e3 : ((wayAdd hi p b).x - hi.x) = M * v.x := by simp only [wayAdd, addP]; grind
  have e4 : ((wayAdd hi p b).y - hi.y) = M * v.y := by simp only [wayAdd, addP]; grind
  have f1 : ((addP lo u.x u.y).x - lo.x) = u.x := by simp only [addP]; grind
  have f2 : ((addP lo u.x u.y).y - lo.y) = u.y := by simp only [addP]; grind
  have f3 : ((addP hi v.x v.y).x - hi.x) = v.x := by simp only [addP]; grind
  have f4 : ((addP hi v.x v.y).y - hi.y) = v.y := by simp only [addP]; grind
  unfold meetP
  rw [e1, e2, e3, e4, f1, f2, f3, f4]
  have d : L * u.x * (M * v.y) - L * u.y * (M * v.x) = L * M * (u.x * v.y - u.y * v.x) := by grind
  have n : (hi.x - lo.x) * (M * v.y) - (hi.y - lo.y) * (M * v.x) = M * ((hi.x - lo.x) * v.y - (hi.y - lo.y) * v.x) := by grind
  rw [d, n]
  have hn' : u.x * v.y - u.y * v.x ≠ 0 := hn
  rw [field1 hL hM hn', field1 hL hM hn']
noncomputable def C_law_outer : Con := Con.of (fun p : (Pt × Pt) × (Pt × Pt) × Rat => [dWay p.1, dWay p.2.1, dR p.2.2]) (fun p => PcE p.1 ∧ PcE p.2.1 ∧ p.1.2 = p.2.1.1 ∧ RB 20 p.2.2)
  (fun p => .tup [dP (outerP p.1.2 (uOf p.1) (uOf p.2.1) p.2.2).1, dP (outerP p.1.2 (uOf p.1) (uOf p.2.1) p.2.2).2, .int (sgn (crU (uOf p.1) (uOf p.2.1)))])
theorem sgn_mul {k x : Rat} (h : 0 < k) : sgn (k * x) = sgn x := by
  unfold sgn
  have h1 : 0 < k * x ↔ 0 < x := by rw [Rat.mul_comm]; exact Rat.mul_pos_iff_of_pos_right h
  have h2 : k * x < 0 ↔ x < 0 := by rw [Rat.mul_comm]; exact Rat.mul_neg_iff_of_pos_right h
  simp only [h1, h2]
theorem side_sgn {a p b u v : Pt} {L M : Rat} (c1 : Pc a p u L) (c2 : Pc p b v M) : sgn (crossP a p b) = sgn (crU u v) := by
  obtain ⟨x1, y1⟩ := pc_x c1
  obtain ⟨x2, y2⟩ := pc_x c2
  have e : crossP a p b = L * M * crU u v := by
    have : crossP a p b = (p.x - a.x) * (b.y - p.y) - (p.y - a.y) * (b.x - p.x) := by unfold crossP; grind
    rw [this, x1, y1, x2, y2]
    unfold crU
    grind
  rw [e, sgn_mul (Rat.mul_pos c1.pos c2.pos)]
abbrev s_law_outer : Stmt := topS 81
abbrev N_law_outer : List Str := ["_law_first", "_law_second", "_law_half", "_law_side", "_law_far"]
theorem sc_law_outer : FnScope ["_law_first", "_law_second", "_law_half", "_law_side", "_law_far"] ["_law_first", "_law_second", "_law_half"] (defScope s_law_outer) := ⟨rfl, rfl, rfl, by decide +kernel, rfl, by decide +kernel, by decide +kernel⟩
theorem ok_law_outer (N : Dn K mg "_law_outer" s_law_outer ["_law_first", "_law_second", "_law_half"]) (c_law_turn : Cal P w K mg base 1 "_law_turn" (LSp K C_law_turn) []) (c_law_minus : Cal P w K mg base 1 "_law_minus" (LSp K C_law_minus) []) (c_law_beside : Cal P w K mg base 4 "_law_beside" (LSp K C_law_beside) []) : Cal P w K mg base 5 "_law_outer" (LSp K C_law_outer) [] := by
  refine N.ok sc_law_outer ?_ (fun f cdv A outer s H E hr => (pss_cons (ps_set (i := 3) sc_law_outer.nd rfl (.inl rfl) (pe_c c_law_turn hr (by decide) (by rfl) (pa_cons (pe_ix ix_A (pv 0) pe_int (fun _ _ => rfl)) (pa_cons (pe_ix ix_A (pv 0) pe_int (fun _ _ => rfl)) (pa_cons (pe_ix ix_A (pv 1) pe_int (fun _ _ => rfl)) pa_nil)))))
      (pss_cons (ps_set (i := 4) sc_law_outer.nd rfl (.inl rfl) (pe_ifExp (pt_cmpR op_gt (pv 3) pe_int (nomark _)) (pe_c c_law_minus hr (by decide) (by rfl) (pa_cons (pv 2) pa_nil)) (pv 2)))
      (pss_one (ps_ret (pe_tup (pa_cons (pe_c c_law_beside hr (by decide) (by rfl) (pa_cons (pe_ix ix_A (pv 0) pe_int (fun _ _ => rfl)) (pa_cons (pv 0) (pa_cons (pv 4) pa_nil)))) (pa_cons (pe_c c_law_beside hr (by decide) (by rfl) (pa_cons (pe_ix ix_A (pv 0) pe_int (fun _ _ => rfl)) (pa_cons (pv 1) (pa_cons (pv 4) pa_nil)))) (pa_cons (pv 3) pa_nil)))))))))
    (sns_seq (sns_asg (sn_call (C := C_law_turn) (sna_cons (sn_op snr_ix (sn_var (i := 0)) sn_int) (sna_cons (sn_op snr_ix (sn_var (i := 0)) sn_int) (sna_cons (sn_op snr_ix (sn_var (i := 1)) sn_int) sna_nil)))) (sng_name (i := 3)))
      (sns_seq (sns_asg (sn_if (snt_test (sn_op snr_B (sn_var (i := 3)) sn_int)) (sn_call (C := C_law_minus) (sna_cons (sn_var (i := 2)) sna_nil)) (sn_var (i := 2))) (sng_name (i := 4)))
      (sns_ret (sn_tup (sna_cons (sn_call (C := C_law_beside) (sna_cons (sn_op snr_ix (sn_var (i := 0)) sn_int) (sna_cons (sn_var (i := 0)) (sna_cons (sn_var (i := 4)) sna_nil)))) (sna_cons (sn_call (C := C_law_beside) (sna_cons (sn_op snr_ix (sn_var (i := 0)) sn_int) (sna_cons (sn_var (i := 1)) (sna_cons (sn_var (i := 4)) sna_nil)))) (sna_cons (sn_var (i := 3)) sna_nil))))))) ?_
  · exact Con.len fun _ => rfl
  · rintro ds t Q ⟨⟨e, f, h⟩, rfl, ⟨hc, hd, lk, hB⟩, q⟩
    have hB : RB 20 h := hB
    have lk : e.2 = f.1 := lk
    have c1 := pc_of (show PcE e from hc)
    have c2 := pc_of (show PcE f from hd)
    have c2' := c2
    rw [← lk] at c2'
    have sg := side_sgn c1 c2'
    have q : Q (.tup [dP (outerP e.2 (uOf e) (uOf f) h).1, dP (outerP e.2 (uOf e) (uOf f) h).2, .int (sgn (crU (uOf e) (uOf f)))]) t := q
    refine ⟨(e.1, e.2, f.2), rfl, ⟨c1.ba.mono (by decide), c1.bb.mono (by decide), c2.bb.mono (by decide)⟩, ?_⟩
    refine (?_ : ∀ i : Int, i = sgn (crU (uOf e) (uOf f)) → wgName 3 (.int i) _ _) _ sg
    rintro _ rfl
    show if decide (0 < sgn (crU (uOf e) (uOf f))) = true then _ else _
    refine ite2 (fun z => ?_) (fun z => ?_)
    · have kp : 0 < crU (uOf e) (uOf f) := by
        have z := of_decide_eq_true z
        rcases sgn_cases (crU (uOf e) (uOf f)) with ⟨k, e⟩ | ⟨k, e⟩ | ⟨k, e⟩
        · exact k
        · rw [e] at z; exact absurd z (by decide)
        · rw [e] at z; exact absurd z (by decide)
      refine ⟨h, rfl, trivial, (e.2, e, -h), rfl, ⟨hc, _, _, c1.bb, hB.neg, by decide⟩, (e.2, f, -h), rfl, ⟨hd, _, _, c1.bb, hB.neg, by decide⟩, ?_⟩
      unfold outerP at q
      rw [if_pos kp] at q
      unfold toR offP at q
      show Q (.tup [dP (addP e.2 (-(-h * (uOf e).y)) (-h * (uOf e).x)), dP (addP e.2 (-(-h * (uOf f).y)) (-h * (uOf f).x)), .int (sgn (crU (uOf e) (uOf f)))]) t
      rw [Rat.neg_mul, Rat.neg_mul, Rat.neg_mul, Rat.neg_mul]
      exact q
    · have kp : ¬ 0 < crU (uOf e) (uOf f) := fun y => z (decide_eq_true (by rw [sgn_pos.mpr y]; decide))
      refine ⟨(e.2, e, h), rfl, ⟨hc, _, _, c1.bb, hB, by decide⟩, (e.2, f, h), rfl, ⟨hd, _, _, c1.bb, hB, by decide⟩, ?_⟩
      unfold outerP at q
      rw [if_neg kp] at q
      exact q
def C_law_twelve : Con := Con.of (fun p : Pt × Rat => [dP p.1, dR p.2]) (fun p => PB 100 p.1 ∧ RB 20 p.2) (fun p => .tup ((lawTwelve p.1 p.2).map dP))
abbrev s_law_twelve : Stmt := topS 80
abbrev N_law_twelve : List Str := ["_law_one", "_law_half", "_law_pairs", "_law_found", "_law_x", "_law_y"]
theorem sc_law_twelve : FnScope ["_law_one", "_law_half", "_law_pairs", "_law_found", "_law_x", "_law_y"] ["_law_one", "_law_half"] (defScope s_law_twelve) := ⟨rfl, rfl, rfl, by decide +kernel, rfl, by decide +kernel, by decide +kernel⟩
theorem ok_law_twelve (N : Dn K mg "_law_twelve" s_law_twelve ["_law_one", "_law_half"]) (B : Bt mg) (c_law_gone : Cal P w K mg base 3 "_law_gone" (LSp K C_law_gone) []) (c_law_product : Cal P w K mg base 2 "_law_product" (LSp K C_law_product) []) (c_law_fraction : Cal P w K mg base 1 "_law_fraction" (LSp K C_law_fraction) []) : Cal P w K mg base 4 "_law_twelve" (LSp K C_law_twelve) [] := by
  refine N.ok sc_law_twelve ?_ (fun f cdv A outer s H E hr => (pss_cons (ps_set (i := 2) sc_law_twelve.nd rfl (.inl rfl) (pe_lst (pa_cons (pe_tup (pa_cons (pe_un un_neg pe_int) (pa_cons pe_int pa_nil))) (pa_cons (pe_tup (pa_cons (pe_un un_neg pe_int) (pa_cons (pe_un un_neg pe_int) pa_nil))) (pa_cons (pe_tup (pa_cons (pe_un un_neg pe_int) (pa_cons (pe_un un_neg pe_int) pa_nil))) (pa_cons (pe_tup (pa_cons pe_int (pa_cons (pe_un un_neg pe_int) pa_nil))) (pa_cons (pe_tup (pa_cons pe_int (pa_cons (pe_un un_neg pe_int) pa_nil))) (pa_cons (pe_tup (pa_cons pe_int (pa_cons (pe_un un_neg pe_int) pa_nil))) (pa_cons (pe_tup (pa_cons pe_int (pa_cons pe_int pa_nil))) (pa_cons (pe_tup (pa_cons pe_int (pa_cons pe_int pa_nil))) (pa_cons (pe_tup (pa_cons pe_int (pa_cons pe_int pa_nil))) (pa_cons (pe_tup (pa_cons pe_int (pa_cons pe_int pa_nil))) (pa_cons (pe_tup (pa_cons (pe_un un_neg pe_int) (pa_cons pe_int pa_nil))) (pa_cons (pe_tup (pa_cons (pe_un un_neg pe_int) (pa_cons pe_int pa_nil))) pa_nil))))))))))))))
      (pss_cons (ps_set (i := 3) sc_law_twelve.nd rfl (.inl rfl) (pe_lst pa_nil))
      (pss_cons (ps_for PassesOwn.never rfl (pi_seq (pv 2)) (pg_tup rfl (pgs_cons (pg_name (i := 4) sc_law_twelve.nd rfl (.inl rfl)) (pgs_cons (pg_name (i := 5) sc_law_twelve.nd rfl (.inl rfl)) pgs_nil))) (pss_one (ps_expr (pe_bm PySem.F.plainAttrs_list PySem.F.slot_list_append PySem.F.type_list_append mt_append (pv 3) (pa_cons (pe_c c_law_gone hr (by decide) (by rfl) (pa_cons (pv 0) (pa_cons (pe_c c_law_product hr (by decide) (by rfl) (pa_cons (pv 1) (pa_cons (pe_c c_law_fraction hr (by decide) (by rfl) (pa_cons (pv 4) (pa_cons pe_int pa_nil))) pa_nil))) (pa_cons (pe_c c_law_product hr (by decide) (by rfl) (pa_cons (pv 1) (pa_cons (pe_c c_law_fraction hr (by decide) (by rfl) (pa_cons (pv 5) (pa_cons pe_int pa_nil))) pa_nil))) pa_nil)))) pa_nil)))))
      (pss_one (ps_ret (pe_callTy call_tuple_of (by rfl) B.tuple (by decide +kernel) (pa_cons (pv 3) pa_nil))))))))
    (sns_seq (sns_asg (sn_lst (sna_cons (sn_tup (sna_cons (sn_un snu_neg sn_int) (sna_cons sn_int sna_nil))) (sna_cons (sn_tup (sna_cons (sn_un snu_neg sn_int) (sna_cons (sn_un snu_neg sn_int) sna_nil))) (sna_cons (sn_tup (sna_cons (sn_un snu_neg sn_int) (sna_cons (sn_un snu_neg sn_int) sna_nil))) (sna_cons (sn_tup (sna_cons sn_int (sna_cons (sn_un snu_neg sn_int) sna_nil))) (sna_cons (sn_tup (sna_cons sn_int (sna_cons (sn_un snu_neg sn_int) sna_nil))) (sna_cons (sn_tup (sna_cons sn_int (sna_cons (sn_un snu_neg sn_int) sna_nil))) (sna_cons (sn_tup (sna_cons sn_int (sna_cons sn_int sna_nil))) (sna_cons (sn_tup (sna_cons sn_int (sna_cons sn_int sna_nil))) (sna_cons (sn_tup (sna_cons sn_int (sna_cons sn_int sna_nil))) (sna_cons (sn_tup (sna_cons sn_int (sna_cons sn_int sna_nil))) (sna_cons (sn_tup (sna_cons (sn_un snu_neg sn_int) (sna_cons sn_int sna_nil))) (sna_cons (sn_tup (sna_cons (sn_un snu_neg sn_int) (sna_cons sn_int sna_nil))) sna_nil))))))))))))) (sng_name (i := 2)))
      (sns_seq (sns_ownLst (i := 3) sna_nil)
      (sns_seq (sns_for (sni_seq (sn_var (i := 2))) (sng_tup (n := 2) (sngs_cons (sng_name (i := 4)) (sngs_cons (sng_name (i := 5)) sngs_nil))) (sns_app (i := 3) (sn_call (C := C_law_gone) (sna_cons (sn_var (i := 0)) (sna_cons (sn_call (C := C_law_product) (sna_cons (sn_var (i := 1)) (sna_cons (sn_call (C := C_law_fraction) (sna_cons (sn_var (i := 4)) (sna_cons sn_int sna_nil))) sna_nil))) (sna_cons (sn_call (C := C_law_product) (sna_cons (sn_var (i := 1)) (sna_cons (sn_call (C := C_law_fraction) (sna_cons (sn_var (i := 5)) (sna_cons sn_int sna_nil))) sna_nil))) sna_nil))))))
      (sns_frz (i := 3) (sns_ret (sn_cb snc_tuple (sna_cons (sn_var (i := 3)) sna_nil))))))) ?_
  · exact Con.len fun _ => rfl
  · rintro ds t Q ⟨⟨p, h⟩, rfl, ⟨hp, hh⟩, q⟩
    have hp : PB 100 p := hp
    have hh : RB 20 h := hh
    have q : Q (.tup ((lawTwelve p h).map dP)) t := q
    have hb : ∀ e ∈ lawPairs, e.1.natAbs < 2 ^ 4 ∧ e.2.natAbs < 2 ^ 4 := by decide
    have hlen : lawPairs.length = 12 := rfl
    unfold lawTwelve at q
    have fin : Q (.tup (([] : List D) ++ (lawPairs.map (w12 p h)).map dP)) t := q
    have loop : ∀ (L : D) (es : List (Int × Int)) (acc : List D) (s3 s4 : Sl), acc.length + es.length ≤ 100 → (∀ e ∈ es, e.1.natAbs < 2 ^ 4 ∧ e.2.natAbs < 2 ^ 4) →
      Q (.tup (acc ++ (es.map (w12 p h)).map dP)) t →
      forW (wgTup 2 (wgCons (wgName 4) (wgCons (wgName 5) wgNil))) (wApp 3 (wCall C_law_gone (wCons (wVar 0) (wCons (wCall C_law_product (wCons (wVar 1) (wCons (wCall C_law_fraction (wCons (wVar 4) (wCons (wC (D.int 5)) wNil))) wNil)))
        (wCons (wCall C_law_product (wCons (wVar 1) (wCons (wCall C_law_fraction (wCons (wVar 5) (wCons (wC (D.int 5)) wNil))) wNil))) wNil)))))
        { nx := wFrz 3 (wRet (wCB rhoTuple (wCons (wVar 3) wNil))) { nx := fun _ t' => Q .non t', rt := Q }, rt := Q } (es.map dI) [Sl.dat (dP p), Sl.dat (dR h), Sl.dat L, Sl.own acc, s3, s4] t := by
      intro L es
      induction es with
      | nil =>
        intro acc s3 s4 _ _ fin
        rw [List.map_nil, List.map_nil, List.append_nil] at fin
        exact fin
      | cons e es ih =>
        intro acc s3 s4 hn hE fin
        have hn : acc.length + (es.length + 1) ≤ 100 := hn
        obtain ⟨h1, h2⟩ := hE e List.mem_cons_self
        have hE' := fun e he => hE e (List.mem_cons_of_mem _ he)
        have k : ∀ x : Int, x.natAbs < 2 ^ 4 → Bd 4 x := fun x hx => hx
        have b5 : Bd 4 5 := by unfold Bd; decide
        have r : ∀ x : Int, x.natAbs < 2 ^ 4 → RB 4 ((x : Rat) / ((5 : Int) : Rat)) := fun x hx => rb_of (b := 5) hx b5 (by decide)
        refine ⟨(e.1, 5), rfl, ⟨by show (5 : Int) ≠ 0; decide, (k _ h1).mono (by decide), b5.mono (by decide)⟩, (h, (e.1 : Rat) / ((5 : Int) : Rat)), rfl, ⟨_, _, hh, r _ h1, by decide⟩, (e.2, 5), rfl, ⟨by show (5 : Int) ≠ 0; decide, (k _ h2).mono (by decide), b5.mono (by decide)⟩, (h, (e.2 : Rat) / ((5 : Int) : Rat)), rfl, ⟨_, _, hh, r _ h2, by decide⟩,
          (p, h * ((e.1 : Rat) / ((5 : Int) : Rat)), h * ((e.2 : Rat) / ((5 : Int) : Rat))), rfl, gb hp (hh.mul (r _ h1)) (hh.mul (r _ h2)) (by decide), by omega, ?_⟩
        refine ih _ _ _ (by simp only [List.length_append, List.length_singleton]; omega) hE' ?_
        rw [List.map_cons, List.map_cons] at fin
        rw [List.append_assoc]
        exact fin
    exact loop (.lst (lawPairs.map dI)) lawPairs [] Sl.no Sl.no (by rw [hlen]; decide) hb fin
end
end DL


/-! ## V6 -/
set_option maxRecDepth 100000
/-! the law's tests -/
namespace DL
open PySem PySem.Spec PyProof.Rows L2
open C8 (Cal pe_c pe_gc)
open W15
section
variable {P : Program} {w : World} {K : PySem.W.Frag} {mg : Str → Option Value} {base : Heap}
def C_law_in_convex : Con := Con.of (fun p : Bool × List Pt × Pt => [dL p.1 p.2.1, dP p.2.2]) (fun p => 1 ≤ p.2.1.length ∧ p.2.1.length ≤ 12 ∧ PBs 100000 p.2.1 ∧ PB 100000 p.2.2) (fun p => .bl (inConvex p.2.1 p.2.2))
theorem at_before (C : List Pt) {k : Nat} (h : k < C.length) : atD (C.map dP) ((k : Int) - 1) = some (dP (C.getD ((k + C.length - 1) % C.length) ⟨0, 0⟩)) := by
  cases k with
  | zero =>
    have e : ((0 : Nat) : Int) - 1 = -1 := rfl
    rw [e, Nat.zero_add, Nat.mod_eq_of_lt (by omega)]
    rcases List.eq_nil_or_concat C with rfl | ⟨i, x, rfl⟩
    · exact absurd h (Nat.not_lt_zero _)
    · rw [List.map_concat, List.concat_eq_append, List.concat_eq_append, atD_neg1]
      congr 2
      rw [List.getD_eq_getElem?_getD, List.length_append, List.length_singleton, Nat.add_sub_cancel, List.getElem?_append_right (Nat.le_refl _), Nat.sub_self]
      rfl
  | succ k =>
    have e : ((k + 1 : Nat) : Int) - 1 = (k : Int) := by omega
    rw [e, show k + 1 + C.length - 1 = k + C.length by omega, Nat.add_mod_right, Nat.mod_eq_of_lt (by omega)]
    exact atP C (by omega)
theorem dL_len (b : Bool) (C : List Pt) : True := trivial
theorem all_min {ns : List Int} {m : Int} (h : m ∈ ns) (k : ∀ y ∈ ns, m ≤ y) : decide (0 ≤ m) = ns.all fun s => decide (0 ≤ s) := by
  apply bool_ext
  rw [List.all_eq_true, decide_eq_true_eq]
  exact ⟨fun z y hy => decide_eq_true (by have := k y hy; omega), fun z => of_decide_eq_true (z m h)⟩
theorem all_max {ns : List Int} {m : Int} (h : m ∈ ns) (k : ∀ y ∈ ns, y ≤ m) : decide (m ≤ 0) = ns.all fun s => decide (s ≤ 0) := by
  apply bool_ext
  rw [List.all_eq_true, decide_eq_true_eq]
  exact ⟨fun z y hy => decide_eq_true (by have := k y hy; omega), fun z => of_decide_eq_true (z m h)⟩
abbrev s_law_in_convex : Stmt := topS 86
abbrev N_law_in_convex : List Str := ["_law_corners", "_law_one", "_law_sides", "_law_k"]
theorem sc_law_in_convex : FnScope ["_law_corners", "_law_one", "_law_sides", "_law_k"] ["_law_corners", "_law_one"] (defScope s_law_in_convex) := ⟨rfl, rfl, rfl, by decide +kernel, rfl, by decide +kernel, by decide +kernel⟩
theorem ok_law_in_convex (N : Dn K mg "_law_in_convex" s_law_in_convex ["_law_corners", "_law_one"]) (B : Bt mg) (c_law_turn : Cal P w K mg base 1 "_law_turn" (LSp K C_law_turn) []) : Cal P w K mg base 2 "_law_in_convex" (LSp K C_law_in_convex) [] := by
  refine N.ok sc_law_in_convex ?_ (fun f cdv A outer s H E hr => (pss_cons (ps_setLc (i := 2) (own := [("_law_k", 3)]) rfl sc_law_in_convex.nd rfl rfl (sw_true rfl rfl rfl (by decide +kernel)) (pi_range1 (by rfl) B.range (pa_cons (pe_callB call_len_seq (by rfl) B.len (by decide +kernel) (pa_cons (pv 0) pa_nil)) pa_nil)) (blkOk_by (own := [("_law_k", 3)]) (N := N_law_in_convex) (sc := defScope s_law_in_convex) (by decide +kernel)) (fun _ _ _ _ _ => (pg_name (i := 3) sc_law_in_convex.nd rfl (.inl rfl))) (fun _ _ _ _ _ => pts_nil) (fun _ _ _ _ _ => (pe_c c_law_turn hr (by decide) (by rfl) (pa_cons (pe_ix ix_A (pv 0) (pe_op op_sub (pv 3) pe_int) (fun _ _ => rfl)) (pa_cons (pe_ix ix_A (pv 0) (pv 3) (fun _ _ => rfl)) (pa_cons (pv 1) pa_nil))))))
      (pss_one (ps_ret (pe_or (pe_cmpR op_ge (pe_callB (cr_min rfl) (by rfl) B.min (by decide +kernel) (pa_cons (pv 2) pa_nil)) pe_int (nomark _)) (pe_one (pe_cmpR op_le (pe_callB (cr_max rfl) (by rfl) B.max (by decide +kernel) (pa_cons (pv 2) pa_nil)) pe_int (nomark _))))))))
    (sns_seq (sns_asg (sn_lc (sni_rng (sna_cons (sn_cb snc_len (sna_cons (sn_var (i := 0)) sna_nil)) sna_nil)).c (sng_name (i := 3)) snt_yes (sn_call (C := C_law_turn) (sna_cons (sn_op snr_ix (sn_var (i := 0)) (sn_op snr_I (sn_var (i := 3)) sn_int)) (sna_cons (sn_op snr_ix (sn_var (i := 0)) (sn_var (i := 3))) (sna_cons (sn_var (i := 1)) sna_nil)))) (by decide)) (sng_name (i := 2)))
      (sns_ret (sn_orV (sn_op snr_B (sn_cb snc_min (sna_cons (sn_var (i := 2)) sna_nil)) sn_int) (sn_op snr_B (sn_cb snc_max (sna_cons (sn_var (i := 2)) sna_nil)) sn_int)))) ?_
  · exact Con.len fun _ => rfl
  · rintro ds t Q ⟨⟨b, C, r⟩, rfl, ⟨h1, h12, hC, hr⟩, q⟩
    have h1 : 1 ≤ C.length := h1
    have h12 : C.length ≤ 12 := h12
    have hC : PBs 100000 C := hC
    have hr : PB 100000 r := hr
    have q : Q (.bl (inConvex C r)) t := q
    unfold inConvex at q
    have hS : (sidesP C r).length = C.length := by unfold sidesP; rw [List.length_map, List.length_range]
    have main : ∀ (b : Bool) (Z : KD), Z (.lst ((sidesP C r).map D.int)) t → lcW (wgName 3) wYes (wCall C_law_turn (wCons (wOp rhoIx (wVar 0) (wOp (rhoI fun i j => D.int (i - j)) (wVar 3) (wC (D.int 1)))) (wCons (wOp rhoIx (wVar 0) (wVar 3)) (wCons (wVar 1) wNil))))
        [Sl.dat (dL b C), Sl.dat (dP r), Sl.no, Sl.no] ((List.range C.length).map fun (k : Nat) => D.int (k : Int)) [] t Z := by
      intro b Z hZ
      refine lcW_all (f := fun (k : Nat) => D.int (k : Int)) (g := fun k => D.int (sgn (crossP (C.getD ((k + C.length - 1) % C.length) ⟨0, 0⟩) (C.getD k ⟨0, 0⟩) r))) (fun k hk t P hp => ?_) ?_
      · have hk : k < C.length := List.mem_range.mp hk
        have hm : (k + C.length - 1) % C.length < C.length := Nat.mod_lt _ (by omega)
        have X : ∀ xs : List D, xs = C.map dP → opD (atD xs ((k : Int) - 1)) (fun d1 => opD (atD xs (k : Int)) (fun d2 => C_law_turn.c [d1, d2, dP r] t P)) := by
          rintro _ rfl
          exact opD_mk (at_before C hk) (opD_mk (atP C hk) ⟨(_, _, r), rfl, ⟨hC _ (getD_mem hm), hC _ (getD_mem hk), hr⟩, hp⟩)
        cases b with
        | true => exact X _ rfl
        | false => exact X _ rfl
      · rw [List.nil_append]
        unfold sidesP at hZ
        rw [List.map_map] at hZ
        exact hZ
    have sz : ((C.length : Nat) : Int).toNat = C.length := Int.toNat_natCast _
    have head : ∀ (xs : List D) (b : Bool), xs = C.map dP → (∀ Z : KD, Z (.lst ((sidesP C r).map D.int)) t → True) → ((-1000 : Int) ≤ (xs.length : Int) ∧ (xs.length : Int) ≤ 1000) ∧ ((List.range (xs.length : Int).toNat).map fun (k : Nat) => D.int (k : Int)).length ≤ 1000 := by
      rintro _ b rfl _
      rw [List.length_map, List.length_map, List.length_range]
      omega
    have tail : ∃ ns : List Int, (sidesP C r).map D.int = ns.map D.int ∧ 0 < ns.length ∧ ∀ m, m ∈ ns → (∀ y ∈ ns, m ≤ y) → if decide (0 ≤ m) = true then Q (.bl true) t else ∃ ns : List Int, (sidesP C r).map D.int = ns.map D.int ∧ 0 < ns.length ∧ ∀ m, m ∈ ns → (∀ y ∈ ns, y ≤ m) → Q (.bl (decide (m ≤ 0))) t := by
      refine ⟨sidesP C r, rfl, by omega, fun m hm k => ?_⟩
      have e := all_min hm k
      refine ite2 (fun z => ?_) (fun z => ?_)
      · rw [← e, z, Bool.true_or] at q
        exact q
      · have z : decide (0 ≤ m) = false := by simpa using z
        rw [← e, z, Bool.false_or] at q
        refine ⟨sidesP C r, rfl, by omega, fun m' hm' k' => ?_⟩
        rw [all_max hm' k']
        exact q
    cases b with
    | true =>
      obtain ⟨g1, g2⟩ := head (C.map dP) true rfl (fun _ _ => trivial)
      refine ⟨g1, g2, ?_⟩
      show lcW _ _ _ _ ((List.range ((C.map dP).length : Int).toNat).map fun (k : Nat) => D.int (k : Int)) [] t _
      rw [List.length_map, sz]
      exact main true _ tail
    | false =>
      obtain ⟨g1, g2⟩ := head (C.map dP) false rfl (fun _ _ => trivial)
      refine ⟨g1, g2, ?_⟩
      show lcW _ _ _ _ ((List.range ((C.map dP).length : Int).toNat).map fun (k : Nat) => D.int (k : Int)) [] t _
      rw [List.length_map, sz]
      exact main false _ tail
end
end DL


/-! ## V7 -/
set_option maxRecDepth 100000
set_option maxHeartbeats 4000000
/-! the law's tests of joins, ends -/
namespace DL
open PySem PySem.Spec PyProof.Rows L2
open C8 (Cal pe_c pe_gc)
open W15
section
variable {P : Program} {w : World} {K : PySem.W.Frag} {mg : Str → Option Value} {base : Heap}
theorem law12_pb {p : Pt} {h : Rat} (hp : PB 100 p) (hh : RB 20 h) : PBs 160 (lawTwelve p h) := fun q hq => twelve_pb hp hh q (twelve_mem.mpr hq)
theorem law12_len (p : Pt) (h : Rat) : (lawTwelve p h).length = 12 := by
  unfold lawTwelve
  rw [List.length_map]
  rfl
noncomputable def dJ (p : (Pt × Pt) × (Pt × Pt) × Rl × Pt) : List D := [dWay p.1, dWay p.2.1, dRule p.2.2.1, dP p.2.2.2]
noncomputable def C_law_in_join : Con := Con.of dJ (fun p => PcE p.1 ∧ PcE p.2.1 ∧ p.1.2 = p.2.1.1 ∧ p.2.2.1.Ok ∧ PB 600 p.2.2.2)
  (fun p => .bl (joinL p.1.1 p.2.1.1 p.2.1.2 (uOf p.1) (uOf p.2.1) (LOf p.1) p.2.2.1 p.2.2.2))
theorem lies_b {a b r : Pt} (ha : PB 90 a) (hb : PB 90 b) (hr : PB 600 r) : RB 2000 (lies a b r).1 ∧ RB 2000 (lies a b r).2 := by
  have x1 := hb.rx.sub ha.rx
  have y1 := hb.ry.sub ha.ry
  have x2 := hr.rx.sub ha.rx
  have y2 := hr.ry.sub ha.ry
  exact ⟨((x1.mul x2).add (y1.mul y2)).mono (by decide), ((x1.mul y2).sub (y1.mul x2)).mono (by decide)⟩
theorem rb1 : RB 1 1 := ⟨by unfold Bd; decide, by unfold Bd; decide⟩
abbrev s_law_in_join : Stmt := topS 87
abbrev N_law_in_join : List Str := ["_law_first", "_law_second", "_law_rule_here", "_law_one", "_law_p", "_law_tip", "_law_most_here", "_law_low", "_law_high", "_law_side", "_law_goes", "_law_far", "_law_rays"]
theorem sc_law_in_join : FnScope ["_law_first", "_law_second", "_law_rule_here", "_law_one", "_law_p", "_law_tip", "_law_most_here", "_law_low", "_law_high", "_law_side", "_law_goes", "_law_far", "_law_rays"] ["_law_first", "_law_second", "_law_rule_here", "_law_one"] (defScope s_law_in_join) := ⟨rfl, rfl, rfl, by decide +kernel, rfl, by decide +kernel, by decide +kernel⟩
theorem ok_law_in_join (N : Dn K mg "_law_in_join" s_law_in_join ["_law_first", "_law_second", "_law_rule_here", "_law_one"]) (c_law_outer : Cal P w K mg base 5 "_law_outer" (LSp K C_law_outer) []) (c_law_line_place : Cal P w K mg base 4 "_law_line_place" (LSp K C_law_line_place) []) (c_law_product : Cal P w K mg base 2 "_law_product" (LSp K C_law_product) []) (c_law_in_convex : Cal P w K mg base 2 "_law_in_convex" (LSp K C_law_in_convex) []) (c_law_along : Cal P w K mg base 4 "_law_along" (LSp K C_law_along) []) (c_law_most : Cal P w K mg base 1 "_law_most" (LSp K C_law_most) []) (c_law_lies : Cal P w K mg base 4 "_law_lies" (LSp K C_law_lies) []) (c_law_squared : Cal P w K mg base 3 "_law_squared" (LSp K C_law_squared) []) (c_law_twelve : Cal P w K mg base 4 "_law_twelve" (LSp K C_law_twelve) []) (c_law_turn : Cal P w K mg base 1 "_law_turn" (LSp K C_law_turn) []) : Cal P w K mg base 6 "_law_in_join" (LSp K C_law_in_join) [] := by
  refine N.ok sc_law_in_join ?_ (fun f cdv A outer s H E hr => (pss_cons (ps_set (i := 4) sc_law_in_join.nd rfl (.inl rfl) (pe_ix ix_A (pv 0) pe_int (fun _ _ => rfl)))
      (pss_cons (ps_asg (pe_c c_law_outer hr (by decide) (by rfl) (pa_cons (pv 0) (pa_cons (pv 1) (pa_cons (pe_ix ix_A (pv 2) pe_int (fun _ _ => rfl)) pa_nil)))) (pg_tup rfl (pgs_cons (pg_name (i := 7) sc_law_in_join.nd rfl (.inl rfl)) (pgs_cons (pg_name (i := 8) sc_law_in_join.nd rfl (.inl rfl)) (pgs_cons (pg_name (i := 9) sc_law_in_join.nd rfl (.inl rfl)) pgs_nil)))))
      (pss_cons (ps_if (pt_cmpR (op_eqA hr.units) (pv 9) pe_int (nomark _)) (pss_cons (ps_set (i := 10) sc_law_in_join.nd rfl (.inl rfl) (pe_ix ix_A (pe_c c_law_lies hr (by decide) (by rfl) (pa_cons (pe_ix ix_A (pv 0) pe_int (fun _ _ => rfl)) (pa_cons (pv 4) (pa_cons (pv 3) pa_nil)))) pe_int (fun _ _ => rfl)))
      (pss_cons (ps_set (i := 11) sc_law_in_join.nd rfl (.inl rfl) (pe_c c_law_product hr (by decide) (by rfl) (pa_cons (pe_ix ix_A (pv 0) pe_int (fun _ _ => rfl)) (pa_cons (pe_ix ix_A (pv 0) pe_int (fun _ _ => rfl)) pa_nil))))
      (pss_one (ps_ret (pe_and (pe_cmpR (op_eqA hr.units) (pe_ix ix_A (pv 2) pe_int (fun _ _ => rfl)) pe_str (nomark _)) (pe_and (pe_c c_law_most hr (by decide) (by rfl) (pa_cons (pv 11) (pa_cons (pv 10) pa_nil))) (pe_one (pe_c c_law_in_convex hr (by decide) (by rfl) (pa_cons (pe_c c_law_twelve hr (by decide) (by rfl) (pa_cons (pv 4) (pa_cons (pe_ix ix_A (pv 2) pe_int (fun _ _ => rfl)) pa_nil))) (pa_cons (pv 3) pa_nil)))))))))) pss_nil)
      (pss_cons (ps_if (pt_cmpR (op_eqA hr.units) (pe_ix ix_A (pv 2) pe_int (fun _ _ => rfl)) (pe_ix ix_A (pe_lst (pa_cons pe_str (pa_cons pe_str (pa_cons pe_str pa_nil)))) (pe_op op_addA pe_int (pv 9)) (fun _ _ => rfl)) (nomark _)) (pss_one (ps_ret pe_bl)) pss_nil)
      (pss_cons (ps_if (pt_cmpR (op_eqA hr.units) (pe_ix ix_A (pv 2) pe_int (fun _ _ => rfl)) pe_str (nomark _)) (pss_cons (ps_set (i := 12) sc_law_in_join.nd rfl (.inl rfl) (pe_and (pe_cmpR op_ge (pe_op op_mulB (pv 9) (pe_c c_law_turn hr (by decide) (by rfl) (pa_cons (pv 4) (pa_cons (pv 7) (pa_cons (pv 3) pa_nil))))) pe_int (nomark _)) (pe_one (pe_cmpR op_le (pe_op op_mulB (pv 9) (pe_c c_law_turn hr (by decide) (by rfl) (pa_cons (pv 4) (pa_cons (pv 8) (pa_cons (pv 3) pa_nil))))) pe_int (nomark _)))))
      (pss_one (ps_ret (pe_and (pv 12) (pe_one (pe_c c_law_in_convex hr (by decide) (by rfl) (pa_cons (pe_c c_law_twelve hr (by decide) (by rfl) (pa_cons (pv 4) (pa_cons (pe_ix ix_A (pv 2) pe_int (fun _ _ => rfl)) pa_nil))) (pa_cons (pv 3) pa_nil)))))))) pss_nil)
      (pss_cons (ps_set (i := 5) sc_law_in_join.nd rfl (.inl rfl) (pe_c c_law_line_place hr (by decide) (by rfl) (pa_cons (pv 7) (pa_cons (pe_c c_law_along hr (by decide) (by rfl) (pa_cons (pv 7) (pa_cons (pv 0) (pa_cons (pe_tup (pa_cons pe_int (pa_cons pe_int pa_nil))) pa_nil)))) (pa_cons (pv 8) (pa_cons (pe_c c_law_along hr (by decide) (by rfl) (pa_cons (pv 8) (pa_cons (pv 1) (pa_cons (pe_tup (pa_cons pe_int (pa_cons pe_int pa_nil))) pa_nil)))) pa_nil))))))
      (pss_cons (ps_set (i := 6) sc_law_in_join.nd rfl (.inl rfl) (pe_c c_law_product hr (by decide) (by rfl) (pa_cons (pe_ix ix_A (pv 2) pe_int (fun _ _ => rfl)) (pa_cons (pe_ix ix_A (pv 2) pe_int (fun _ _ => rfl)) pa_nil))))
      (pss_cons (ps_if (PW.pt (pw_and (pt_cmpR (op_eqA hr.units) (pe_ix ix_A (pv 2) pe_int (fun _ _ => rfl)) pe_str (nomark _)) (pw_and1 (pt_val (pe_c c_law_most hr (by decide) (by rfl) (pa_cons (pe_c c_law_squared hr (by decide) (by rfl) (pa_cons (pv 4) (pa_cons (pv 5) pa_nil))) (pa_cons (pe_c c_law_product hr (by decide) (by rfl) (pa_cons (pv 6) (pa_cons (pv 6) pa_nil))) pa_nil))))))) (pss_one (ps_ret (pe_c c_law_in_convex hr (by decide) (by rfl) (pa_cons (pe_lst (pa_cons (pv 4) (pa_cons (pv 7) (pa_cons (pv 5) (pa_cons (pv 8) pa_nil))))) (pa_cons (pv 3) pa_nil))))) pss_nil)
      (pss_one (ps_ret (pe_c c_law_in_convex hr (by decide) (by rfl) (pa_cons (pe_lst (pa_cons (pv 4) (pa_cons (pv 7) (pa_cons (pv 8) pa_nil)))) (pa_cons (pv 3) pa_nil))))))))))))))
    (sns_seq (sns_asg (sn_op snr_ix (sn_var (i := 0)) sn_int) (sng_name (i := 4)))
      (sns_seq (sns_asg (sn_call (C := C_law_outer) (sna_cons (sn_var (i := 0)) (sna_cons (sn_var (i := 1)) (sna_cons (sn_op snr_ix (sn_var (i := 2)) sn_int) sna_nil)))) (sng_tup (n := 3) (sngs_cons (sng_name (i := 7)) (sngs_cons (sng_name (i := 8)) (sngs_cons (sng_name (i := 9)) sngs_nil)))))
      (sns_seq (sns_if (snt_test (sn_op snr_eq (sn_var (i := 9)) sn_int)) (sns_seq (sns_asg (sn_op snr_ix (sn_call (C := C_law_lies) (sna_cons (sn_op snr_ix (sn_var (i := 0)) sn_int) (sna_cons (sn_var (i := 4)) (sna_cons (sn_var (i := 3)) sna_nil)))) sn_int) (sng_name (i := 10)))
      (sns_seq (sns_asg (sn_call (C := C_law_product) (sna_cons (sn_op snr_ix (sn_var (i := 0)) sn_int) (sna_cons (sn_op snr_ix (sn_var (i := 0)) sn_int) sna_nil))) (sng_name (i := 11)))
      (sns_ret (sn_andV (sn_op snr_eq (sn_op snr_ix (sn_var (i := 2)) sn_int) sn_str) (sn_andV (sn_call (C := C_law_most) (sna_cons (sn_var (i := 11)) (sna_cons (sn_var (i := 10)) sna_nil))) (sn_call (C := C_law_in_convex) (sna_cons (sn_call (C := C_law_twelve) (sna_cons (sn_var (i := 4)) (sna_cons (sn_op snr_ix (sn_var (i := 2)) sn_int) sna_nil))) (sna_cons (sn_var (i := 3)) sna_nil)))))))) sns_nil)
      (sns_seq (sns_if (snt_test (sn_op snr_eq (sn_op snr_ix (sn_var (i := 2)) sn_int) (sn_op snr_ix (sn_lst (sna_cons sn_str (sna_cons sn_str (sna_cons sn_str sna_nil)))) (sn_op snr_add sn_int (sn_var (i := 9)))))) (sns_ret sn_bl) sns_nil)
      (sns_seq (sns_if (snt_test (sn_op snr_eq (sn_op snr_ix (sn_var (i := 2)) sn_int) sn_str)) (sns_seq (sns_asg (sn_andV (sn_op snr_B (sn_op snr_IC (sn_var (i := 9)) (sn_call (C := C_law_turn) (sna_cons (sn_var (i := 4)) (sna_cons (sn_var (i := 7)) (sna_cons (sn_var (i := 3)) sna_nil))))) sn_int) (sn_op snr_B (sn_op snr_IC (sn_var (i := 9)) (sn_call (C := C_law_turn) (sna_cons (sn_var (i := 4)) (sna_cons (sn_var (i := 8)) (sna_cons (sn_var (i := 3)) sna_nil))))) sn_int)) (sng_name (i := 12)))
      (sns_ret (sn_andV (sn_var (i := 12)) (sn_call (C := C_law_in_convex) (sna_cons (sn_call (C := C_law_twelve) (sna_cons (sn_var (i := 4)) (sna_cons (sn_op snr_ix (sn_var (i := 2)) sn_int) sna_nil))) (sna_cons (sn_var (i := 3)) sna_nil)))))) sns_nil)
      (sns_seq (sns_asg (sn_call (C := C_law_line_place) (sna_cons (sn_var (i := 7)) (sna_cons (sn_call (C := C_law_along) (sna_cons (sn_var (i := 7)) (sna_cons (sn_var (i := 0)) (sna_cons (sn_tup (sna_cons sn_int (sna_cons sn_int sna_nil))) sna_nil)))) (sna_cons (sn_var (i := 8)) (sna_cons (sn_call (C := C_law_along) (sna_cons (sn_var (i := 8)) (sna_cons (sn_var (i := 1)) (sna_cons (sn_tup (sna_cons sn_int (sna_cons sn_int sna_nil))) sna_nil)))) sna_nil))))) (sng_name (i := 5)))
      (sns_seq (sns_asg (sn_call (C := C_law_product) (sna_cons (sn_op snr_ix (sn_var (i := 2)) sn_int) (sna_cons (sn_op snr_ix (sn_var (i := 2)) sn_int) sna_nil))) (sng_name (i := 6)))
      (sns_seq (sns_if (snt_and (snt_test (sn_op snr_eq (sn_op snr_ix (sn_var (i := 2)) sn_int) sn_str)) (snt_B (sn_call (C := C_law_most) (sna_cons (sn_call (C := C_law_squared) (sna_cons (sn_var (i := 4)) (sna_cons (sn_var (i := 5)) sna_nil))) (sna_cons (sn_call (C := C_law_product) (sna_cons (sn_var (i := 6)) (sna_cons (sn_var (i := 6)) sna_nil))) sna_nil))))) (sns_ret (sn_call (C := C_law_in_convex) (sna_cons (sn_lst (sna_cons (sn_var (i := 4)) (sna_cons (sn_var (i := 7)) (sna_cons (sn_var (i := 5)) (sna_cons (sn_var (i := 8)) sna_nil))))) (sna_cons (sn_var (i := 3)) sna_nil)))) sns_nil)
      (sns_ret (sn_call (C := C_law_in_convex) (sna_cons (sn_lst (sna_cons (sn_var (i := 4)) (sna_cons (sn_var (i := 7)) (sna_cons (sn_var (i := 8)) sna_nil)))) (sna_cons (sn_var (i := 3)) sna_nil)))))))))))) ?_
  · exact Con.len fun _ => rfl
  · rintro ds t Q ⟨⟨e, f, r, z⟩, rfl, ⟨hc, hd, lk, hr, hz⟩, q⟩
    have hc : PcE e := hc
    have hd : PcE f := hd
    have lk : e.2 = f.1 := lk
    have hr : r.Ok := hr
    have hz : PB 600 z := hz
    have c1 := pc_of hc
    have c2 := pc_of hd
    have q : Q (.bl (joinL e.1 f.1 f.2 (uOf e) (uOf f) (LOf e) r z)) t := q
    rw [← lk] at q
    have c2' : Pc e.2 f.2 (uOf f) (LOf f) := by rw [lk]; exact c2
    have bh := hr.bh
    have bb := hr.bb
    have hj : decide (joinS r.joining = "round") = decide (r.joining = .round) := by cases r.joining <;> decide
    have hjp : decide (joinS r.joining = "pointed") = decide (r.joining = .pointed) := by cases r.joining <;> decide
    have TL := law12_pb (c1.bb.mono (show 90 ≤ 100 by decide)) bh
    have TN := law12_len e.2 r.half
    have hz' : PB 100000 z := hz.mono (by decide)
    have twelve : Q (.bl (inConvex (lawTwelve e.2 r.half) z)) t → C_law_twelve.c [dP e.2, dR r.half] t fun d t1 => C_law_in_convex.c [d, dP z] t1 Q := fun q =>
      ⟨(e.2, r.half), rfl, ⟨c1.bb.mono (by decide), bh⟩, (true, lawTwelve e.2 r.half, z), rfl, ⟨by show 1 ≤ (lawTwelve e.2 r.half).length; omega, by show (lawTwelve e.2 r.half).length ≤ 12; omega, fun x hx => (TL x hx).mono (by decide), hz'⟩, q⟩
    refine ⟨(e, f, r.half), rfl, ⟨hc, hd, lk, bh⟩, ?_⟩
    refine (?_ : ∀ i : Int, i = sgn (crU (uOf e) (uOf f)) → wgTup 3 _ (.tup [dP (outerP e.2 (uOf e) (uOf f) r.half).1, dP (outerP e.2 (uOf e) (uOf f) r.half).2, .int i]) _ _) _ rfl
    intro i hi
    show if decide (i = 0) = true then _ else _
    unfold joinL at q
    have O := outer_pb (h := r.half) c1.bb c1.bu c2.bu bh
    rcases sgn_cases (crU (uOf e) (uOf f)) with ⟨kp, ks⟩ | ⟨kp, ks⟩ | ⟨kp, ks⟩
    · have hn : crU (uOf e) (uOf f) ≠ 0 := fun y => by rw [y] at kp; exact Rat.lt_irrefl kp
      have kp' := kp
      rw [ks] at hi
      subst hi
      refine ite2 (fun y => absurd (of_decide_eq_true y) (by decide)) (fun _ => ?_)
      rw [if_neg hn, if_pos kp'] at q
      have hs : decide (sideS r.side = "left") = decide (r.side = Side.left) := by cases r.side <;> decide
      show if decide (sideS r.side = "left") = true then Q (.bl false) t else _
      rw [hs]
      refine ite2 (fun y => ?_) (fun y => ?_)
      · rw [if_pos (of_decide_eq_true y)] at q
        exact q
      · rw [if_neg (fun x => y (decide_eq_true x))] at q
        have JP : JPre e.1 e.2 f.2 (uOf e) (uOf f) (LOf e) (LOf f) r := ⟨c1, c2', hr⟩
        have tp := tip_pb JP hn
        have tl := tip_law (lo := (outerP e.2 (uOf e) (uOf f) r.half).1) (hi := (outerP e.2 (uOf e) (uOf f) r.half).2) c1 c2' hn
        unfold tipAt at q tp
        rw [ks] at q
        show if decide (joinS r.joining = "round") = true then _ else _
        rw [hj]
        generalize outerP e.2 (uOf e) (uOf f) r.half = O' at *
        obtain ⟨o1, o2⟩ := O'
        have O1 : PB 143 o1 := O.1
        have O2 : PB 143 o2 := O.2
        have pB : PB 100000 e.2 := c1.bb.mono (by decide)
        refine ite2 (fun y => ?_) (fun y => ?_)
        · rw [if_pos (of_decide_eq_true y)] at q
          have q : Q (.bl ((decide (0 ≤ (1 : Int) * sgn (crossP e.2 o1 z)) && decide ((1 : Int) * sgn (crossP e.2 o2 z) ≤ 0)) && inConvex (lawTwelve e.2 r.half) z)) t := q
          refine ⟨(e.2, o1, z), rfl, ⟨pB, O1.mono (by decide), hz'⟩, mulB (n := 2) (by unfold Bd; decide) (sgnB _) (by decide), ?_⟩
          show if decide (0 ≤ (1 : Int) * sgn (crossP e.2 o1 z)) = true then _ else _
          refine ite2 (fun x => ?_) (fun x => ?_)
          · rw [x, Bool.true_and] at q
            refine ⟨(e.2, o2, z), rfl, ⟨pB, O2.mono (by decide), hz'⟩, mulB (n := 2) (by unfold Bd; decide) (sgnB _) (by decide), ?_⟩
            show if decide ((1 : Int) * sgn (crossP e.2 o2 z) ≤ 0) = true then _ else Q (.bl false) t
            refine ite2 (fun x => ?_) (fun x => ?_)
            · rw [x, Bool.true_and] at q
              exact twelve q
            · have x : decide ((1 : Int) * sgn (crossP e.2 o2 z) ≤ 0) = false := by simpa using x
              rw [x, Bool.false_and] at q
              exact q
          · have x : decide (0 ≤ (1 : Int) * sgn (crossP e.2 o1 z)) = false := by simpa using x
            rw [x, Bool.false_and, Bool.false_and] at q
            exact q
        · rw [if_neg (fun x => y (decide_eq_true x))] at q
          have u1 := (rb1.mul c1.bu.1)
          have u2 := (rb1.mul c1.bu.2)
          have v1 := (rb1.mul c2.bu.1)
          have v2 := (rb1.mul c2.bu.2)
          have A1 := addP_pb O1 u1 u2
          have A2 := addP_pb O2 v1 v2
          have nz : cr4 o1 (addP o1 (1 * (uOf e).x) (1 * (uOf e).y)) o2 (addP o2 (1 * (uOf f).x) (1 * (uOf f).y)) ≠ 0 := by
            have ee : cr4 o1 (addP o1 (1 * (uOf e).x) (1 * (uOf e).y)) o2 (addP o2 (1 * (uOf f).x) (1 * (uOf f).y)) = crU (uOf e) (uOf f) := by
              unfold cr4 addP crU
              grind
            rw [ee]
            exact hn
          refine ⟨(o1, e, 1), rfl, ⟨hc, _, _, O1, rb1, by decide⟩, (o2, f, 1), rfl, ⟨hd, _, _, O2, rb1, by decide⟩, (o1, addP o1 (1 * (uOf e).x) (1 * (uOf e).y), o2, addP o2 (1 * (uOf f).x) (1 * (uOf f).y)), rfl, ⟨nz, O1.mono (by decide), A1.mono (by decide), O2.mono (by decide), A2.mono (by decide)⟩, ?_⟩
          refine (?_ : ∀ d : D, d = dP (meetP o1 (wayAdd o1 e.1 e.2) o2 (wayAdd o2 e.2 f.2)) → wgName 5 d _ _) _ (by
            show dP (meetP o1 (addP o1 (1 * (uOf e).x) (1 * (uOf e).y)) o2 (addP o2 (1 * (uOf f).x) (1 * (uOf f).y))) = _
            rw [Rat.one_mul, Rat.one_mul, Rat.one_mul, Rat.one_mul, tl])
          have tp : PB 3041 (meetP o1 (wayAdd o1 e.1 e.2) o2 (wayAdd o2 e.2 f.2)) := tp
          have q : Q (.bl (if r.joining = .pointed ∧ sqd e.2 (meetP o1 (wayAdd o1 e.1 e.2) o2 (wayAdd o2 e.2 f.2)) ≤ r.half * r.bound * (r.half * r.bound) then inConvex [e.2, o1, meetP o1 (wayAdd o1 e.1 e.2) o2 (wayAdd o2 e.2 f.2), o2] z else inConvex [e.2, o1, o2] z)) t := q
          generalize meetP o1 (wayAdd o1 e.1 e.2) o2 (wayAdd o2 e.2 f.2) = tip at *
          rintro _ rfl
          have three : Q (.bl (inConvex [e.2, o1, o2] z)) t → C_law_in_convex.c [.lst [dP e.2, dP o1, dP o2], dP z] t Q := fun q =>
            ⟨(false, [e.2, o1, o2], z), rfl, ⟨by show 1 ≤ 3; decide, by show 3 ≤ 12; decide, pbs_join (n := 100000) (T := []) pB (O1.mono (by decide)) (O2.mono (by decide)) (Nat.le_refl _) (fun x hx => by cases hx), hz'⟩, q⟩
          have mB := bh.mul bb
          have sB := sqd_rb c1.bb tp
          refine ⟨(r.half, r.bound), rfl, ⟨_, _, bh, bb, by decide⟩, ?_⟩
          show if decide (joinS r.joining = "pointed") = true then _ else _
          rw [hjp]
          refine ite2 (fun x => ?_) (fun x => ?_)
          · refine ⟨(e.2, tip), rfl, ⟨90, 3041, c1.bb, tp, by decide⟩, (r.half * r.bound, r.half * r.bound), rfl, ⟨_, _, mB, mB, by decide⟩, (sqd e.2 tip, r.half * r.bound * (r.half * r.bound)), rfl, ⟨sB.mono (by decide), (mB.mul mB).mono (by decide)⟩, ?_⟩
            show if decide (sqd e.2 tip ≤ r.half * r.bound * (r.half * r.bound)) = true then _ else _
            refine ite2 (fun y => ?_) (fun y => ?_)
            · rw [if_pos ⟨of_decide_eq_true x, of_decide_eq_true y⟩] at q
              exact ⟨(false, [e.2, o1, tip, o2], z), rfl, ⟨by show 1 ≤ 4; decide, by show 4 ≤ 12; decide, pbs4 pB (O1.mono (by decide)) (tp.mono (by decide)) (O2.mono (by decide)), hz'⟩, q⟩
            · rw [if_neg (fun k => y (decide_eq_true k.2))] at q
              exact three q
          · rw [if_neg (fun k => x (decide_eq_true k.1))] at q
            exact three q
    · have hn : crU (uOf e) (uOf f) ≠ 0 := fun y => by rw [y] at kp; exact Rat.lt_irrefl kp
      have kp' : ¬ 0 < crU (uOf e) (uOf f) := fun y => by grind
      rw [ks] at hi
      subst hi
      refine ite2 (fun y => absurd (of_decide_eq_true y) (by decide)) (fun _ => ?_)
      rw [if_neg hn, if_neg kp'] at q
      have hs : decide (sideS r.side = "right") = decide (r.side = Side.right) := by cases r.side <;> decide
      show if decide (sideS r.side = "right") = true then Q (.bl false) t else _
      rw [hs]
      refine ite2 (fun y => ?_) (fun y => ?_)
      · rw [if_pos (of_decide_eq_true y)] at q
        exact q
      · rw [if_neg (fun x => y (decide_eq_true x))] at q
        have JP : JPre e.1 e.2 f.2 (uOf e) (uOf f) (LOf e) (LOf f) r := ⟨c1, c2', hr⟩
        have tp := tip_pb JP hn
        have tl := tip_law (lo := (outerP e.2 (uOf e) (uOf f) r.half).1) (hi := (outerP e.2 (uOf e) (uOf f) r.half).2) c1 c2' hn
        unfold tipAt at q tp
        rw [ks] at q
        show if decide (joinS r.joining = "round") = true then _ else _
        rw [hj]
        generalize outerP e.2 (uOf e) (uOf f) r.half = O' at *
        obtain ⟨o1, o2⟩ := O'
        have O1 : PB 143 o1 := O.1
        have O2 : PB 143 o2 := O.2
        have pB : PB 100000 e.2 := c1.bb.mono (by decide)
        refine ite2 (fun y => ?_) (fun y => ?_)
        · rw [if_pos (of_decide_eq_true y)] at q
          have q : Q (.bl ((decide (0 ≤ (-1 : Int) * sgn (crossP e.2 o1 z)) && decide ((-1 : Int) * sgn (crossP e.2 o2 z) ≤ 0)) && inConvex (lawTwelve e.2 r.half) z)) t := q
          refine ⟨(e.2, o1, z), rfl, ⟨pB, O1.mono (by decide), hz'⟩, mulB (n := 2) (by unfold Bd; decide) (sgnB _) (by decide), ?_⟩
          show if decide (0 ≤ (-1 : Int) * sgn (crossP e.2 o1 z)) = true then _ else _
          refine ite2 (fun x => ?_) (fun x => ?_)
          · rw [x, Bool.true_and] at q
            refine ⟨(e.2, o2, z), rfl, ⟨pB, O2.mono (by decide), hz'⟩, mulB (n := 2) (by unfold Bd; decide) (sgnB _) (by decide), ?_⟩
            show if decide ((-1 : Int) * sgn (crossP e.2 o2 z) ≤ 0) = true then _ else Q (.bl false) t
            refine ite2 (fun x => ?_) (fun x => ?_)
            · rw [x, Bool.true_and] at q
              exact twelve q
            · have x : decide ((-1 : Int) * sgn (crossP e.2 o2 z) ≤ 0) = false := by simpa using x
              rw [x, Bool.false_and] at q
              exact q
          · have x : decide (0 ≤ (-1 : Int) * sgn (crossP e.2 o1 z)) = false := by simpa using x
            rw [x, Bool.false_and, Bool.false_and] at q
            exact q
        · rw [if_neg (fun x => y (decide_eq_true x))] at q
          have u1 := (rb1.mul c1.bu.1)
          have u2 := (rb1.mul c1.bu.2)
          have v1 := (rb1.mul c2.bu.1)
          have v2 := (rb1.mul c2.bu.2)
          have A1 := addP_pb O1 u1 u2
          have A2 := addP_pb O2 v1 v2
          have nz : cr4 o1 (addP o1 (1 * (uOf e).x) (1 * (uOf e).y)) o2 (addP o2 (1 * (uOf f).x) (1 * (uOf f).y)) ≠ 0 := by
            have ee : cr4 o1 (addP o1 (1 * (uOf e).x) (1 * (uOf e).y)) o2 (addP o2 (1 * (uOf f).x) (1 * (uOf f).y)) = crU (uOf e) (uOf f) := by
              unfold cr4 addP crU
              grind
            rw [ee]
            exact hn
          refine ⟨(o1, e, 1), rfl, ⟨hc, _, _, O1, rb1, by decide⟩, (o2, f, 1), rfl, ⟨hd, _, _, O2, rb1, by decide⟩, (o1, addP o1 (1 * (uOf e).x) (1 * (uOf e).y), o2, addP o2 (1 * (uOf f).x) (1 * (uOf f).y)), rfl, ⟨nz, O1.mono (by decide), A1.mono (by decide), O2.mono (by decide), A2.mono (by decide)⟩, ?_⟩
          refine (?_ : ∀ d : D, d = dP (meetP o1 (wayAdd o1 e.1 e.2) o2 (wayAdd o2 e.2 f.2)) → wgName 5 d _ _) _ (by
            show dP (meetP o1 (addP o1 (1 * (uOf e).x) (1 * (uOf e).y)) o2 (addP o2 (1 * (uOf f).x) (1 * (uOf f).y))) = _
            rw [Rat.one_mul, Rat.one_mul, Rat.one_mul, Rat.one_mul, tl])
          have tp : PB 3041 (meetP o1 (wayAdd o1 e.1 e.2) o2 (wayAdd o2 e.2 f.2)) := tp
          have q : Q (.bl (if r.joining = .pointed ∧ sqd e.2 (meetP o1 (wayAdd o1 e.1 e.2) o2 (wayAdd o2 e.2 f.2)) ≤ r.half * r.bound * (r.half * r.bound) then inConvex [e.2, o1, meetP o1 (wayAdd o1 e.1 e.2) o2 (wayAdd o2 e.2 f.2), o2] z else inConvex [e.2, o1, o2] z)) t := q
          generalize meetP o1 (wayAdd o1 e.1 e.2) o2 (wayAdd o2 e.2 f.2) = tip at *
          rintro _ rfl
          have three : Q (.bl (inConvex [e.2, o1, o2] z)) t → C_law_in_convex.c [.lst [dP e.2, dP o1, dP o2], dP z] t Q := fun q =>
            ⟨(false, [e.2, o1, o2], z), rfl, ⟨by show 1 ≤ 3; decide, by show 3 ≤ 12; decide, pbs_join (n := 100000) (T := []) pB (O1.mono (by decide)) (O2.mono (by decide)) (Nat.le_refl _) (fun x hx => by cases hx), hz'⟩, q⟩
          have mB := bh.mul bb
          have sB := sqd_rb c1.bb tp
          refine ⟨(r.half, r.bound), rfl, ⟨_, _, bh, bb, by decide⟩, ?_⟩
          show if decide (joinS r.joining = "pointed") = true then _ else _
          rw [hjp]
          refine ite2 (fun x => ?_) (fun x => ?_)
          · refine ⟨(e.2, tip), rfl, ⟨90, 3041, c1.bb, tp, by decide⟩, (r.half * r.bound, r.half * r.bound), rfl, ⟨_, _, mB, mB, by decide⟩, (sqd e.2 tip, r.half * r.bound * (r.half * r.bound)), rfl, ⟨sB.mono (by decide), (mB.mul mB).mono (by decide)⟩, ?_⟩
            show if decide (sqd e.2 tip ≤ r.half * r.bound * (r.half * r.bound)) = true then _ else _
            refine ite2 (fun y => ?_) (fun y => ?_)
            · rw [if_pos ⟨of_decide_eq_true x, of_decide_eq_true y⟩] at q
              exact ⟨(false, [e.2, o1, tip, o2], z), rfl, ⟨by show 1 ≤ 4; decide, by show 4 ≤ 12; decide, pbs4 pB (O1.mono (by decide)) (tp.mono (by decide)) (O2.mono (by decide)), hz'⟩, q⟩
            · rw [if_neg (fun k => y (decide_eq_true k.2))] at q
              exact three q
          · rw [if_neg (fun k => x (decide_eq_true k.1))] at q
            exact three q
    · rw [if_pos kp] at q
      rw [ks] at hi
      subst hi
      refine ite2 (fun _ => ?_) (fun y => absurd (decide_eq_true rfl) y)
      obtain ⟨b1, b2⟩ := lies_b c1.ba c1.bb hz
      refine ⟨(e.1, e.2, z), rfl, ⟨90, 600, c1.ba, c1.bb, hz, by decide⟩, (LOf e, LOf e), rfl, ⟨_, _, c1.bL, c1.bL, by decide⟩, ?_⟩
      show if decide (joinS r.joining = "round") = true then _ else Q (.bl false) t
      rw [hj]
      refine ite2 (fun y => ?_) (fun y => ?_)
      · rw [y, Bool.true_and] at q
        refine ⟨(LOf e * LOf e, (lies e.1 e.2 z).1), rfl, ⟨(c1.bL.mul c1.bL).mono (by decide), b1.mono (by decide)⟩, ?_⟩
        show if decide (LOf e * LOf e ≤ (lies e.1 e.2 z).1) = true then _ else Q (.bl false) t
        refine ite2 (fun x => ?_) (fun x => ?_)
        · rw [x, Bool.true_and] at q
          exact twelve q
        · have x : decide (LOf e * LOf e ≤ (lies e.1 e.2 z).1) = false := by simpa using x
          rw [x, Bool.false_and] at q
          exact q
      · have y : decide (r.joining = .round) = false := by simpa using y
        rw [y, Bool.false_and, Bool.false_and] at q
        exact q
end
end DL


/-! ## V8 -/
set_option maxRecDepth 100000
set_option maxHeartbeats 4000000
/-! the law's tests of ends, of the whole -/
namespace DL
open PySem PySem.Spec PyProof.Rows L2
open C8 (Cal pe_c pe_gc)
open W15
section
variable {P : Program} {w : World} {K : PySem.W.Frag} {mg : Str → Option Value} {base : Heap}
noncomputable def C_law_in_end : Con := Con.of (fun p : (Pt × Pt) × Bool × Rl × Pt => [dWay p.1, .bl p.2.1, dRule p.2.2.1, dP p.2.2.2]) (fun p => PcE p.1 ∧ p.2.2.1.Ok ∧ PB 600 p.2.2.2)
  (fun p => .bl (endL p.1.1 p.1.2 (LOf p.1) p.2.1 p.2.2.1 p.2.2.2))
abbrev s_law_in_end : Stmt := topS 88
abbrev N_law_in_end : List Str := ["_law_piece", "_law_at_last", "_law_rule_here", "_law_one", "_law_goes", "_law_left"]
theorem sc_law_in_end : FnScope ["_law_piece", "_law_at_last", "_law_rule_here", "_law_one", "_law_goes", "_law_left"] ["_law_piece", "_law_at_last", "_law_rule_here", "_law_one"] (defScope s_law_in_end) := ⟨rfl, rfl, rfl, by decide +kernel, rfl, by decide +kernel, by decide +kernel⟩
theorem ok_law_in_end (N : Dn K mg "_law_in_end" s_law_in_end ["_law_piece", "_law_at_last", "_law_rule_here", "_law_one"]) (B : Bt mg) (c_law_lies : Cal P w K mg base 4 "_law_lies" (LSp K C_law_lies) []) (c_law_in_convex : Cal P w K mg base 2 "_law_in_convex" (LSp K C_law_in_convex) []) (c_law_sum : Cal P w K mg base 2 "_law_sum" (LSp K C_law_sum) []) (c_law_minus : Cal P w K mg base 1 "_law_minus" (LSp K C_law_minus) []) (c_law_twelve : Cal P w K mg base 4 "_law_twelve" (LSp K C_law_twelve) []) (c_law_most : Cal P w K mg base 1 "_law_most" (LSp K C_law_most) []) (c_law_in_rims : Cal P w K mg base 3 "_law_in_rims" (LSp K C_law_in_rims) []) (c_law_product : Cal P w K mg base 2 "_law_product" (LSp K C_law_product) []) : Cal P w K mg base 5 "_law_in_end" (LSp K C_law_in_end) [] := by
  refine N.ok sc_law_in_end ?_ (fun f cdv A outer s H E hr => (pss_cons (ps_asg (pe_c c_law_lies hr (by decide) (by rfl) (pa_cons (pe_ix ix_A (pv 0) pe_int (fun _ _ => rfl)) (pa_cons (pe_ix ix_A (pv 0) pe_int (fun _ _ => rfl)) (pa_cons (pv 3) pa_nil)))) (pg_tup rfl (pgs_cons (pg_name (i := 4) sc_law_in_end.nd rfl (.inl rfl)) (pgs_cons (pg_name (i := 5) sc_law_in_end.nd rfl (.inl rfl)) pgs_nil))))
      (pss_cons (ps_if (pt_val (pv 1)) (pss_one (ps_set (i := 4) sc_law_in_end.nd rfl (.inl rfl) (pe_c c_law_sum hr (by decide) (by rfl) (pa_cons (pv 4) (pa_cons (pe_c c_law_minus hr (by decide) (by rfl) (pa_cons (pe_c c_law_product hr (by decide) (by rfl) (pa_cons (pe_ix ix_A (pv 0) pe_int (fun _ _ => rfl)) (pa_cons (pe_ix ix_A (pv 0) pe_int (fun _ _ => rfl)) pa_nil))) pa_nil)) pa_nil))))) (pss_one (ps_set (i := 4) sc_law_in_end.nd rfl (.inl rfl) (pe_c c_law_minus hr (by decide) (by rfl) (pa_cons (pv 4) pa_nil)))))
      (pss_cons (ps_if (PW.pt (pw_or (pt_cmpR (op_eqA hr.units) (pe_ix ix_A (pv 2) pe_int (fun _ _ => rfl)) pe_str (nomark _)) (pw_or1 (pt_cmpR op_lt (pe_ix ix_A (pv 4) pe_int (fun _ _ => rfl)) pe_int (nomark _))))) (pss_one (ps_ret pe_bl)) pss_nil)
      (pss_cons (ps_if (pt_cmpR (op_eqA hr.units) (pe_ix ix_A (pv 2) pe_int (fun _ _ => rfl)) pe_str (nomark _)) (pss_one (ps_ret (pe_and (pe_c c_law_most hr (by decide) (by rfl) (pa_cons (pv 4) (pa_cons (pe_c c_law_product hr (by decide) (by rfl) (pa_cons (pe_ix ix_A (pv 2) pe_int (fun _ _ => rfl)) (pa_cons (pe_ix ix_A (pv 0) pe_int (fun _ _ => rfl)) pa_nil))) pa_nil))) (pe_one (pe_c c_law_in_rims hr (by decide) (by rfl) (pa_cons (pv 0) (pa_cons (pv 2) (pa_cons (pv 5) pa_nil)))))))) pss_nil)
      (pss_cons (ps_if (PW.pt (pw_and (pt_cmpR (op_neA hr.units) (pe_ix ix_A (pv 2) pe_int (fun _ _ => rfl)) pe_str (nomark _)) (pw_and1 (pt_cmpR op_lt (pe_op op_mulB (pe_ix ix_A (pv 5) pe_int (fun _ _ => rfl)) (pe_ix ix_A (pe_lst (pa_cons pe_int (pa_cons (pe_un un_neg pe_int) pa_nil))) (pe_callTy call_int1 (by rfl) B.int (by decide +kernel) (pa_cons (pe_cmpR (op_eqA hr.units) (pe_ix ix_A (pv 2) pe_int (fun _ _ => rfl)) pe_str (nomark _)) pa_nil)) (fun _ _ => rfl))) pe_int (nomark _))))) (pss_one (ps_ret pe_bl)) pss_nil)
      (pss_one (ps_ret (pe_c c_law_in_convex hr (by decide) (by rfl) (pa_cons (pe_c c_law_twelve hr (by decide) (by rfl) (pa_cons (pe_ix ix_A (pv 0) (pe_callTy call_int1 (by rfl) B.int (by decide +kernel) (pa_cons (pv 1) pa_nil)) (fun _ _ => rfl)) (pa_cons (pe_ix ix_A (pv 2) pe_int (fun _ _ => rfl)) pa_nil))) (pa_cons (pv 3) pa_nil)))))))))))
    (sns_seq (sns_asg (sn_call (C := C_law_lies) (sna_cons (sn_op snr_ix (sn_var (i := 0)) sn_int) (sna_cons (sn_op snr_ix (sn_var (i := 0)) sn_int) (sna_cons (sn_var (i := 3)) sna_nil)))) (sng_tup (n := 2) (sngs_cons (sng_name (i := 4)) (sngs_cons (sng_name (i := 5)) sngs_nil))))
      (sns_seq (sns_if (snt_B (sn_var (i := 1))) (sns_asg (sn_call (C := C_law_sum) (sna_cons (sn_var (i := 4)) (sna_cons (sn_call (C := C_law_minus) (sna_cons (sn_call (C := C_law_product) (sna_cons (sn_op snr_ix (sn_var (i := 0)) sn_int) (sna_cons (sn_op snr_ix (sn_var (i := 0)) sn_int) sna_nil))) sna_nil)) sna_nil))) (sng_name (i := 4))) (sns_asg (sn_call (C := C_law_minus) (sna_cons (sn_var (i := 4)) sna_nil)) (sng_name (i := 4))))
      (sns_seq (sns_if (snt_or (snt_test (sn_op snr_eq (sn_op snr_ix (sn_var (i := 2)) sn_int) sn_str)) (snt_test (sn_op snr_B (sn_op snr_ix (sn_var (i := 4)) sn_int) sn_int))) (sns_ret sn_bl) sns_nil)
      (sns_seq (sns_if (snt_test (sn_op snr_eq (sn_op snr_ix (sn_var (i := 2)) sn_int) sn_str)) (sns_ret (sn_andV (sn_call (C := C_law_most) (sna_cons (sn_var (i := 4)) (sna_cons (sn_call (C := C_law_product) (sna_cons (sn_op snr_ix (sn_var (i := 2)) sn_int) (sna_cons (sn_op snr_ix (sn_var (i := 0)) sn_int) sna_nil))) sna_nil))) (sn_call (C := C_law_in_rims) (sna_cons (sn_var (i := 0)) (sna_cons (sn_var (i := 2)) (sna_cons (sn_var (i := 5)) sna_nil)))))) sns_nil)
      (sns_seq (sns_if (snt_and (snt_test (sn_op snr_ne (sn_op snr_ix (sn_var (i := 2)) sn_int) sn_str)) (snt_test (sn_op snr_B (sn_op snr_IC (sn_op snr_ix (sn_var (i := 5)) sn_int) (sn_op snr_ix (sn_lst (sna_cons sn_int (sna_cons (sn_un snu_neg sn_int) sna_nil))) (sn_cb snc_int (sna_cons (sn_op snr_eq (sn_op snr_ix (sn_var (i := 2)) sn_int) sn_str) sna_nil)))) sn_int))) (sns_ret sn_bl) sns_nil)
      (sns_ret (sn_call (C := C_law_in_convex) (sna_cons (sn_call (C := C_law_twelve) (sna_cons (sn_op snr_ix (sn_var (i := 0)) (sn_cb snc_int (sna_cons (sn_var (i := 1)) sna_nil))) (sna_cons (sn_op snr_ix (sn_var (i := 2)) sn_int) sna_nil))) (sna_cons (sn_var (i := 3)) sna_nil))))))))) ?_
  · exact Con.len fun _ => rfl
  · rintro ds t Q ⟨⟨e, last, r, z⟩, rfl, ⟨hc, hr, hz⟩, q⟩
    have hc : PcE e := hc
    have hr : r.Ok := hr
    have hz : PB 600 z := hz
    have c1 := pc_of hc
    have q : Q (.bl (endL e.1 e.2 (LOf e) last r z)) t := q
    have bh := hr.bh
    have hcut : decide (endS r.ending = "cut") = decide (r.ending = .cut) := by cases r.ending <;> decide
    have hsq : decide (endS r.ending = "square") = decide (r.ending = .square) := by cases r.ending <;> decide
    have hz' : PB 100000 z := hz.mono (by decide)
    have LB := c1.bL
    obtain ⟨b1, b2⟩ := lies_b c1.ba c1.bb hz
    have twelve : ∀ p, PB 90 p → Q (.bl (inConvex (lawTwelve p r.half) z)) t → C_law_twelve.c [dP p, dR r.half] t fun d t1 => C_law_in_convex.c [d, dP z] t1 Q := fun p hp q => by
      have TL := law12_pb (hp.mono (show 90 ≤ 100 by decide)) bh
      have TN := law12_len p r.half
      exact ⟨(p, r.half), rfl, ⟨hp.mono (by decide), bh⟩, (true, lawTwelve p r.half, z), rfl, ⟨by show 1 ≤ (lawTwelve p r.half).length; omega, by show (lawTwelve p r.half).length ≤ 12; omega, fun x hx => (TL x hx).mono (by decide), hz'⟩, q⟩
    unfold endL at q
    refine ⟨(e.1, e.2, z), rfl, ⟨90, 600, c1.ba, c1.bb, hz, by decide⟩, ?_⟩
    generalize hlies : lies e.1 e.2 z = ll at *
    refine (?_ : ∀ ll' : Rat × Rat, ll' = ll → wgTup 2 _ (.tup [dR ll'.1, dR ll'.2]) _ _) _ hlies
    rintro ⟨along, left⟩ rfl
    clear hlies
    have b1 : RB 2000 along := b1
    have b2 : RB 2000 left := b2
    have num0 : ∀ g : Rat, decide (g.num < 0) = decide (g < 0) := fun g => by rw [decide_eq_decide]; exact num_lt0 g
    have LL := LB.mul LB
    cases last with
    | true =>
      have q : Q (.bl (if r.ending = .cut ∨ along - LOf e * LOf e < 0 then false else if r.ending = .square then decide (along - LOf e * LOf e ≤ r.half * LOf e) && inRims (LOf e) r left else if r.side ≠ .both ∧ left * (if r.side = .right then -1 else 1) < 0 then false else inConvex (lawTwelve e.2 r.half) z)) t := q
      refine ⟨(LOf e, LOf e), rfl, ⟨_, _, LB, LB, by decide⟩, LOf e * LOf e, rfl, trivial, (along, -(LOf e * LOf e)), rfl, ⟨_, _, b1, LL.neg, by decide⟩, ?_⟩
      have gB := b1.sub LL
      refine (?_ : ∀ g : Rat, g = along - LOf e * LOf e → wgName 4 (dR g) _ _) _ (Rat.sub_eq_add_neg _ _).symm
      intro g hg
      rw [← hg] at q gB
      show if decide (endS r.ending = "cut") = true then _ else _
      rw [hcut]
      refine ite2 (fun y => ?_) (fun y => ?_)
      · rw [if_pos (.inl (of_decide_eq_true y))] at q
        exact q
      · show if decide (g.num < 0) = true then _ else _
        rw [num0]
        refine ite2 (fun x => ?_) (fun x => ?_)
        · rw [if_pos (.inr (of_decide_eq_true x))] at q
          exact q
        · rw [if_neg (fun k => k.elim (fun k => y (decide_eq_true k)) (fun k => x (decide_eq_true k)))] at q
          show if decide (endS r.ending = "square") = true then _ else _
          rw [hsq]
          refine ite2 (fun v => ?_) (fun v => ?_)
          · rw [if_pos (of_decide_eq_true v)] at q
            refine ⟨(r.half, LOf e), rfl, ⟨_, _, bh, LB, by decide⟩, (g, r.half * LOf e), rfl, ⟨gB.mono (by decide), (bh.mul LB).mono (by decide)⟩, ?_⟩
            show if decide (g ≤ r.half * LOf e) = true then _ else Q (.bl false) t
            refine ite2 (fun k => ?_) (fun k => ?_)
            · rw [k, Bool.true_and] at q
              exact ⟨(e, r, left), rfl, ⟨hc, hr, b2.mono (by decide)⟩, q⟩
            · have k : decide (g ≤ r.half * LOf e) = false := by simpa using k
              rw [k, Bool.false_and] at q
              exact q
          · rw [if_neg (fun k => v (decide_eq_true k))] at q
            have l1 : decide (left.num * 1 < 0) = decide (left < 0) := by rw [Int.mul_one]; exact num0 left
            have l2 : decide (left.num * -1 < 0) = decide (0 < left) := by
              rw [decide_eq_decide, ← num_gt0]
              omega
            have m1 : Bd 2 1 := by unfold Bd; decide
            have m2 : Bd 2 (-1) := by unfold Bd; decide
            have w12 := twelve e.2 c1.bb
            obtain ⟨hf, sd, en, jn, bd⟩ := r
            cases sd with
            | both => exact w12 q
            | left =>
              refine ⟨mulB b2.num m1 (by decide), ?_⟩
              show if decide (left.num * 1 < 0) = true then _ else _
              rw [l1]
              have q : Q (.bl (if Side.left ≠ .both ∧ left * 1 < 0 then false else inConvex (lawTwelve e.2 hf) z)) t := q
              rw [Rat.mul_one] at q
              refine ite2 (fun k => ?_) (fun k => ?_)
              · rw [if_pos ⟨by decide, of_decide_eq_true k⟩] at q
                exact q
              · rw [if_neg (fun h => k (decide_eq_true h.2))] at q
                exact w12 q
            | right =>
              refine ⟨mulB b2.num m2 (by decide), ?_⟩
              show if decide (left.num * -1 < 0) = true then _ else _
              rw [l2]
              have q : Q (.bl (if Side.right ≠ .both ∧ left * -1 < 0 then false else inConvex (lawTwelve e.2 hf) z)) t := q
              refine ite2 (fun k => ?_) (fun k => ?_)
              · rw [if_pos ⟨by decide, by have := of_decide_eq_true k; grind⟩] at q
                exact q
              · rw [if_neg (fun h => k (decide_eq_true (by have := h.2; grind)))] at q
                exact w12 q
    | false =>
      have q : Q (.bl (if r.ending = .cut ∨ -along < 0 then false else if r.ending = .square then decide (-along ≤ r.half * LOf e) && inRims (LOf e) r left else if r.side ≠ .both ∧ left * (if r.side = .right then -1 else 1) < 0 then false else inConvex (lawTwelve e.1 r.half) z)) t := q
      refine ⟨along, rfl, trivial, ?_⟩
      have gB := b1.neg
      refine (?_ : ∀ g : Rat, g = -along → wgName 4 (dR g) _ _) _ rfl
      intro g hg
      rw [← hg] at q gB
      show if decide (endS r.ending = "cut") = true then _ else _
      rw [hcut]
      refine ite2 (fun y => ?_) (fun y => ?_)
      · rw [if_pos (.inl (of_decide_eq_true y))] at q
        exact q
      · show if decide (g.num < 0) = true then _ else _
        rw [num0]
        refine ite2 (fun x => ?_) (fun x => ?_)
        · rw [if_pos (.inr (of_decide_eq_true x))] at q
          exact q
        · rw [if_neg (fun k => k.elim (fun k => y (decide_eq_true k)) (fun k => x (decide_eq_true k)))] at q
          show if decide (endS r.ending = "square") = true then _ else _
          rw [hsq]
          refine ite2 (fun v => ?_) (fun v => ?_)
          · rw [if_pos (of_decide_eq_true v)] at q
            refine ⟨(r.half, LOf e), rfl, ⟨_, _, bh, LB, by decide⟩, (g, r.half * LOf e), rfl, ⟨gB.mono (by decide), (bh.mul LB).mono (by decide)⟩, ?_⟩
            show if decide (g ≤ r.half * LOf e) = true then _ else Q (.bl false) t
            refine ite2 (fun k => ?_) (fun k => ?_)
            · rw [k, Bool.true_and] at q
              exact ⟨(e, r, left), rfl, ⟨hc, hr, b2.mono (by decide)⟩, q⟩
            · have k : decide (g ≤ r.half * LOf e) = false := by simpa using k
              rw [k, Bool.false_and] at q
              exact q
          · rw [if_neg (fun k => v (decide_eq_true k))] at q
            have l1 : decide (left.num * 1 < 0) = decide (left < 0) := by rw [Int.mul_one]; exact num0 left
            have l2 : decide (left.num * -1 < 0) = decide (0 < left) := by
              rw [decide_eq_decide, ← num_gt0]
              omega
            have m1 : Bd 2 1 := by unfold Bd; decide
            have m2 : Bd 2 (-1) := by unfold Bd; decide
            have w12 := twelve e.1 c1.ba
            obtain ⟨hf, sd, en, jn, bd⟩ := r
            cases sd with
            | both => exact w12 q
            | left =>
              refine ⟨mulB b2.num m1 (by decide), ?_⟩
              show if decide (left.num * 1 < 0) = true then _ else _
              rw [l1]
              have q : Q (.bl (if Side.left ≠ .both ∧ left * 1 < 0 then false else inConvex (lawTwelve e.1 hf) z)) t := q
              rw [Rat.mul_one] at q
              refine ite2 (fun k => ?_) (fun k => ?_)
              · rw [if_pos ⟨by decide, of_decide_eq_true k⟩] at q
                exact q
              · rw [if_neg (fun h => k (decide_eq_true h.2))] at q
                exact w12 q
            | right =>
              refine ⟨mulB b2.num m2 (by decide), ?_⟩
              show if decide (left.num * -1 < 0) = true then _ else _
              rw [l2]
              have q : Q (.bl (if Side.right ≠ .both ∧ left * -1 < 0 then false else inConvex (lawTwelve e.1 hf) z)) t := q
              refine ite2 (fun k => ?_) (fun k => ?_)
              · rw [if_pos ⟨by decide, by have := of_decide_eq_true k; grind⟩] at q
                exact q
              · rw [if_neg (fun h => k (decide_eq_true (by have := h.2; grind)))] at q
                exact w12 q
end
end DL


/-! ## V9 -/
set_option maxRecDepth 100000
set_option maxHeartbeats 4000000
/-! the law's test of the whole line -/
namespace DL
open PySem PySem.Spec PyProof.Rows L2
open C8 (Cal pe_c pe_gc)
open W15
section
variable {P : Program} {w : World} {K : PySem.W.Frag} {mg : Str → Option Value} {base : Heap}
/-- a loop that looks for the first that holds -/
theorem forW_find {α : Type} {wg : WG} {wb : WS} {E : ED} {f : α → D} {k : α → Bool} {R : List Sl → Prop} {t : Nat} {X : Prop} : ∀ (xs : List α) (δ : List Sl), R δ →
    (∀ x ∈ xs, ∀ δ, R δ → ∀ (N : List Sl → Nat → Prop), (k x = true → X) → (k x = false → ∀ δ', R δ' → N δ' t) → wg (f x) δ fun δ' => wb { nx := N, rt := E.rt, bk := E.nx, ct := N } δ' t) →
    (xs.any k = true → X) → (xs.any k = false → ∀ δ, R δ → E.nx δ t) → forW wg wb E (xs.map f) δ t
  | [], δ, hR, _, _, hF => hF rfl δ hR
  | x :: xs, δ, hR, hb, hT, hF => by
    refine hb x List.mem_cons_self δ hR _ (fun h => hT (by rw [List.any_cons, h, Bool.true_or])) (fun h δ' hR' => ?_)
    exact forW_find xs δ' hR' (fun y hy => hb y (List.mem_cons_of_mem _ hy)) (fun h2 => hT (by rw [List.any_cons, h2, Bool.or_true])) (fun h2 => hF (by rw [List.any_cons, h, h2, Bool.or_false]))
theorem turns_eq {l : Ln} (h : 2 ≤ l.pts.length) : l.turns = (List.range (l.pieces.length - 1 + (if l.closed then 1 else 0))).map fun k => (l.pieces.getD k (⟨0, 0⟩, ⟨0, 0⟩), l.pieces.getD ((k + 1) % l.pieces.length) (⟨0, 0⟩, ⟨0, 0⟩)) := by
  have L := pieces_len h
  unfold Ln.turns
  cases hc : l.closed with
  | true =>
    rw [hc] at L
    simp only [if_true] at *
    rw [show l.pieces.length - 1 + 1 = l.pieces.length by omega]
  | false =>
    simp only [Bool.false_eq_true, if_false, Nat.add_zero]
    apply List.map_congr_left
    intro k hk
    have hk := List.mem_range.mp hk
    rw [Nat.mod_eq_of_lt (show k + 1 < l.pieces.length by omega)]
theorem atW (F : List (Pt × Pt)) {k : Nat} (h : k < F.length) : atD (F.map dWay) (k : Int) = some (dWay (F.getD k (⟨0, 0⟩, ⟨0, 0⟩))) := by
  unfold atD
  have h1 : ¬ ((k : Int) < 0) := by omega
  rw [List.getD_eq_getElem?_getD, List.getElem?_eq_getElem h]
  first
    | (rw [if_neg h1, Int.toNat_natCast, List.getElem?_map, List.getElem?_eq_getElem h]; rfl)
    | (simp only [h1, if_false, Int.toNat_natCast, List.getElem?_map, List.getElem?_eq_getElem h]; rfl)
noncomputable def C_law_in_wide : Con := Con.of (fun p : Ln × Rl × Pt => [dLine p.1, dRule p.2.1, dP p.2.2]) (fun p => p.1.Ok ∧ p.2.1.Ok ∧ PB 600 p.2.2) (fun p => .bl (inWide p.1 p.2.1 p.2.2))
abbrev s_law_in_wide : Stmt := topS 89
abbrev N_law_in_wide : List Str := ["_law_line_here", "_law_rule_here", "_law_one", "_law_ways_here", "_law_piece", "_law_k", "_law_goes", "_law_left"]
theorem sc_law_in_wide : FnScope ["_law_line_here", "_law_rule_here", "_law_one", "_law_ways_here", "_law_piece", "_law_k", "_law_goes", "_law_left"] ["_law_line_here", "_law_rule_here", "_law_one"] (defScope s_law_in_wide) := ⟨rfl, rfl, rfl, by decide +kernel, rfl, by decide +kernel, by decide +kernel⟩
theorem ok_law_in_wide (N : Dn K mg "_law_in_wide" s_law_in_wide ["_law_line_here", "_law_rule_here", "_law_one"]) (B : Bt mg) (c_law_ways : Cal P w K mg base 3 "_law_ways" (LSp K C_law_ways) []) (c_law_lies : Cal P w K mg base 4 "_law_lies" (LSp K C_law_lies) []) (c_law_in_join : Cal P w K mg base 6 "_law_in_join" (LSp K C_law_in_join) []) (c_law_in_end : Cal P w K mg base 5 "_law_in_end" (LSp K C_law_in_end) []) (c_law_between : Cal P w K mg base 2 "_law_between" (LSp K C_law_between) []) (c_law_in_rims : Cal P w K mg base 3 "_law_in_rims" (LSp K C_law_in_rims) []) (c_law_product : Cal P w K mg base 2 "_law_product" (LSp K C_law_product) []) : Cal P w K mg base 7 "_law_in_wide" (LSp K C_law_in_wide) [] := by
  refine N.ok sc_law_in_wide ?_ (fun f cdv A outer s H E hr => (pss_cons (ps_set (i := 3) sc_law_in_wide.nd rfl (.inl rfl) (pe_c c_law_ways hr (by decide) (by rfl) (pa_cons (pv 0) pa_nil)))
      (pss_cons (ps_for PassesOwn.never rfl (pi_seq (pv 3)) (pg_name (i := 4) sc_law_in_wide.nd rfl (.inl rfl)) (pss_cons (ps_asg (pe_c c_law_lies hr (by decide) (by rfl) (pa_cons (pe_ix ix_A (pv 4) pe_int (fun _ _ => rfl)) (pa_cons (pe_ix ix_A (pv 4) pe_int (fun _ _ => rfl)) (pa_cons (pv 2) pa_nil)))) (pg_tup rfl (pgs_cons (pg_name (i := 6) sc_law_in_wide.nd rfl (.inl rfl)) (pgs_cons (pg_name (i := 7) sc_law_in_wide.nd rfl (.inl rfl)) pgs_nil))))
      (pss_one (ps_if (PW.pt (pw_and (pt_val (pe_c c_law_between hr (by decide) (by rfl) (pa_cons (pe_tup (pa_cons pe_int (pa_cons pe_int pa_nil))) (pa_cons (pv 6) (pa_cons (pe_c c_law_product hr (by decide) (by rfl) (pa_cons (pe_ix ix_A (pv 4) pe_int (fun _ _ => rfl)) (pa_cons (pe_ix ix_A (pv 4) pe_int (fun _ _ => rfl)) pa_nil))) pa_nil))))) (pw_and1 (pt_val (pe_c c_law_in_rims hr (by decide) (by rfl) (pa_cons (pv 4) (pa_cons (pv 1) (pa_cons (pv 7) pa_nil)))))))) (pss_one (ps_ret pe_bl)) pss_nil))))
      (pss_cons (ps_for PassesOwn.never rfl (pi_range1 (by rfl) B.range (pa_cons (pe_op op_addA (pe_op op_sub (pe_callB call_len_seq (by rfl) B.len (by decide +kernel) (pa_cons (pv 3) pa_nil)) pe_int) (pe_callTy call_int1 (by rfl) B.int (by decide +kernel) (pa_cons (pe_ix ix_A (pv 0) pe_int (fun _ _ => rfl)) pa_nil))) pa_nil)) (pg_name (i := 5) sc_law_in_wide.nd rfl (.inl rfl)) (pss_one (ps_if (pt_val (pe_c c_law_in_join hr (by decide) (by rfl) (pa_cons (pe_ix ix_A (pv 3) (pv 5) (fun _ _ => rfl)) (pa_cons (pe_ix ix_A (pv 3) (pe_op op_modN (pe_op op_addA (pv 5) pe_int) (pe_callB call_len_seq (by rfl) B.len (by decide +kernel) (pa_cons (pv 3) pa_nil))) (fun _ _ => rfl)) (pa_cons (pv 1) (pa_cons (pv 2) pa_nil)))))) (pss_one (ps_ret pe_bl)) pss_nil)))
      (pss_cons (ps_if (pt_val (pe_ix ix_A (pv 0) pe_int (fun _ _ => rfl))) (pss_one (ps_ret pe_bl)) pss_nil)
      (pss_one (ps_ret (pe_or (pe_c c_law_in_end hr (by decide) (by rfl) (pa_cons (pe_ix ix_A (pv 3) pe_int (fun _ _ => rfl)) (pa_cons pe_bl (pa_cons (pv 1) (pa_cons (pv 2) pa_nil))))) (pe_one (pe_c c_law_in_end hr (by decide) (by rfl) (pa_cons (pe_ix ix_A (pv 3) (pe_un un_neg pe_int) (fun _ _ => rfl)) (pa_cons pe_bl (pa_cons (pv 1) (pa_cons (pv 2) pa_nil))))))))))))))
    (sns_seq (sns_asg (sn_call (C := C_law_ways) (sna_cons (sn_var (i := 0)) sna_nil)) (sng_name (i := 3)))
      (sns_seq (sns_for (sni_seq (sn_var (i := 3))) (sng_name (i := 4)) (sns_seq (sns_asg (sn_call (C := C_law_lies) (sna_cons (sn_op snr_ix (sn_var (i := 4)) sn_int) (sna_cons (sn_op snr_ix (sn_var (i := 4)) sn_int) (sna_cons (sn_var (i := 2)) sna_nil)))) (sng_tup (n := 2) (sngs_cons (sng_name (i := 6)) (sngs_cons (sng_name (i := 7)) sngs_nil))))
      (sns_if (snt_and (snt_B (sn_call (C := C_law_between) (sna_cons (sn_tup (sna_cons sn_int (sna_cons sn_int sna_nil))) (sna_cons (sn_var (i := 6)) (sna_cons (sn_call (C := C_law_product) (sna_cons (sn_op snr_ix (sn_var (i := 4)) sn_int) (sna_cons (sn_op snr_ix (sn_var (i := 4)) sn_int) sna_nil))) sna_nil))))) (snt_B (sn_call (C := C_law_in_rims) (sna_cons (sn_var (i := 4)) (sna_cons (sn_var (i := 1)) (sna_cons (sn_var (i := 7)) sna_nil)))))) (sns_ret sn_bl) sns_nil)))
      (sns_seq (sns_for (sni_rng (sna_cons (sn_op snr_add (sn_op snr_I (sn_cb snc_len (sna_cons (sn_var (i := 3)) sna_nil)) sn_int) (sn_cb snc_int (sna_cons (sn_op snr_ix (sn_var (i := 0)) sn_int) sna_nil))) sna_nil)) (sng_name (i := 5)) (sns_if (snt_B (sn_call (C := C_law_in_join) (sna_cons (sn_op snr_ix (sn_var (i := 3)) (sn_var (i := 5))) (sna_cons (sn_op snr_ix (sn_var (i := 3)) (sn_op snr_IC (sn_op snr_add (sn_var (i := 5)) sn_int) (sn_cb snc_len (sna_cons (sn_var (i := 3)) sna_nil)))) (sna_cons (sn_var (i := 1)) (sna_cons (sn_var (i := 2)) sna_nil)))))) (sns_ret sn_bl) sns_nil))
      (sns_seq (sns_if (snt_B (sn_op snr_ix (sn_var (i := 0)) sn_int)) (sns_ret sn_bl) sns_nil)
      (sns_ret (sn_orV (sn_call (C := C_law_in_end) (sna_cons (sn_op snr_ix (sn_var (i := 3)) sn_int) (sna_cons sn_bl (sna_cons (sn_var (i := 1)) (sna_cons (sn_var (i := 2)) sna_nil))))) (sn_call (C := C_law_in_end) (sna_cons (sn_op snr_ix (sn_var (i := 3)) (sn_un snu_neg sn_int)) (sna_cons sn_bl (sna_cons (sn_var (i := 1)) (sna_cons (sn_var (i := 2)) sna_nil))))))))))) ?_
  · exact Con.len fun _ => rfl
  · rintro ds t Q ⟨⟨l, r, z⟩, rfl, ⟨hl, hr, hz⟩, q⟩
    have hl : l.Ok := hl
    have hr : r.Ok := hr
    have hz : PB 600 z := hz
    have q : Q (.bl (inWide l r z)) t := q
    have two := hl.two
    have nine := hl.nine
    have ex : ∀ e ∈ l.pieces, PcE e := hl.ex
    have L := pieces_len two
    have L9 := pieces_len9 two
    have TE := turns_eq two
    have TA : ∀ e ∈ l.turns, e.1 ∈ l.pieces ∧ e.2 ∈ l.pieces ∧ e.1.2 = e.2.1 := fun e he => turns_at two he
    unfold inWide at q
    rw [TE] at q TA
    have L1 : 1 ≤ l.pieces.length := by rw [L]; split <;> omega
    refine ⟨l, rfl, hl, ?_⟩
    refine (?_ : ∀ F : List (Pt × Pt), F = l.pieces → wgName 3 (.lst (F.map dWay)) _ _) _ rfl
    intro F eF
    rw [← eF] at q TA L L1 L9 ex
    clear eF TE
    have z0 : RB 1 0 := ⟨by unfold Bd; decide, by unfold Bd; decide⟩
    refine forW_find (f := dWay) (k := fun e => stripL e.1 e.2 (LOf e) r z) (R := fun δ => ∃ s4 s5 s6 s7, δ = [Sl.dat (dLine l), Sl.dat (dRule r), Sl.dat (dP z), Sl.dat (.lst (F.map dWay)), s4, s5, s6, s7]) (X := Q (.bl true) t) F _ ⟨_, _, _, _, rfl⟩ ?_ ?_ ?_
    · rintro e he _ ⟨s4, s5, s6, s7, rfl⟩ N hT hF
      have hc := ex e he
      have c := pc_of hc
      obtain ⟨b1, b2⟩ := lies_b c.ba c.bb hz
      refine ⟨(e.1, e.2, z), rfl, ⟨90, 600, c.ba, c.bb, hz, by decide⟩, ?_⟩
      refine ⟨(LOf e, LOf e), rfl, ⟨_, _, c.bL, c.bL, by decide⟩, (0, (lies e.1 e.2 z).1, LOf e * LOf e), rfl, ⟨z0.mono (by decide), b1.mono (by decide), (c.bL.mul c.bL).mono (by decide)⟩, ?_⟩
      have es : stripL e.1 e.2 (LOf e) r z = ((decide (0 ≤ (lies e.1 e.2 z).1) && decide ((lies e.1 e.2 z).1 ≤ LOf e * LOf e)) && inRims (LOf e) r (lies e.1 e.2 z).2) := by unfold stripL; rfl
      rw [es] at hT hF
      show if (decide (0 ≤ (lies e.1 e.2 z).1) && decide ((lies e.1 e.2 z).1 ≤ LOf e * LOf e)) = true then _ else _
      refine ite2 (fun h => ?_) (fun h => ?_)
      · rw [h, Bool.true_and] at hT hF
        refine ⟨(e, r, (lies e.1 e.2 z).2), rfl, ⟨hc, hr, b2.mono (by decide)⟩, ?_⟩
        show if inRims (LOf e) r (lies e.1 e.2 z).2 = true then _ else _
        refine ite2 (fun h => ?_) (fun h => ?_)
        · exact hT h
        · exact hF (by simpa using h) _ ⟨_, _, _, _, rfl⟩
      · have h : (decide (0 ≤ (lies e.1 e.2 z).1) && decide ((lies e.1 e.2 z).1 ≤ LOf e * LOf e)) = false := by simpa using h
        rw [h, Bool.false_and] at hF
        exact hF rfl _ ⟨_, _, _, _, rfl⟩
    · intro h
      rw [h, Bool.true_or] at q
      exact q
    · rintro h1 _ ⟨s4, s5, s6, s7, rfl⟩
      rw [h1, Bool.false_or] at q
      have hn : ((F.map dWay).length : Int) - 1 + (if l.closed = true then 1 else 0) = ((F.length - 1 + (if l.closed then 1 else 0) : Nat) : Int) := by
        rw [List.length_map]
        split <;> omega
      have hnb : F.length - 1 + (if l.closed then 1 else 0) ≤ 10 := by split <;> omega
      refine ⟨⟨by show (-1000 : Int) ≤ ((F.map dWay).length : Int) - 1 + (if l.closed = true then 1 else 0); rw [hn]; omega, by show ((F.map dWay).length : Int) - 1 + (if l.closed = true then 1 else 0) ≤ 1000; rw [hn]; omega⟩, ?_⟩
      show forW _ _ _ ((List.range (((F.map dWay).length : Int) - 1 + (if l.closed = true then 1 else 0)).toNat).map fun (k : Nat) => D.int (k : Int)) [Sl.dat (dLine l), Sl.dat (dRule r), Sl.dat (dP z), Sl.dat (.lst (F.map dWay)), s4, s5, s6, s7] t
      rw [hn, Int.toNat_natCast]
      rw [List.any_map] at q
      refine forW_find (f := fun (k : Nat) => D.int (k : Int)) (k := (fun e : (Pt × Pt) × (Pt × Pt) => joinL e.1.1 e.2.1 e.2.2 (uOf e.1) (uOf e.2) (LOf e.1) r z) ∘ fun k => (F.getD k (⟨0, 0⟩, ⟨0, 0⟩), F.getD ((k + 1) % F.length) (⟨0, 0⟩, ⟨0, 0⟩))) (R := fun δ => ∃ s4 s5 s6 s7, δ = [Sl.dat (dLine l), Sl.dat (dRule r), Sl.dat (dP z), Sl.dat (.lst (F.map dWay)), s4, s5, s6, s7]) (X := Q (.bl true) t) _ _ ⟨_, _, _, _, rfl⟩ ?_ ?_ ?_
      · rintro k hk _ ⟨s4, s5, s6, s7, rfl⟩ N hT hF
        have hm := TA _ (List.mem_map_of_mem (f := fun k => (F.getD k (⟨0, 0⟩, ⟨0, 0⟩), F.getD ((k + 1) % F.length) (⟨0, 0⟩, ⟨0, 0⟩))) hk)
        have hk := List.mem_range.mp hk
        have hkF : k < F.length := by
          have : F.length - 1 + (if l.closed then 1 else 0) ≤ F.length := by split <;> omega
          omega
        have hmF : (k + 1) % F.length < F.length := Nat.mod_lt _ (by omega)
        refine opD_mk (atW F hkF) ?_
        refine ⟨by show ((List.map dWay F).length : Int) ≠ 0; rw [List.length_map]; omega, ?_⟩
        have e : ((k : Int) + 1).fmod ((F.map dWay).length : Int) = (((k + 1) % F.length : Nat) : Int) := by
          rw [List.length_map, Int.fmod_eq_emod_of_nonneg _ (by omega)]
          rfl
        refine opD_mk (d := dWay (F.getD ((k + 1) % F.length) (⟨0, 0⟩, ⟨0, 0⟩))) (by rw [e]; exact atW F hmF) ?_
        refine ⟨(F.getD k (⟨0, 0⟩, ⟨0, 0⟩), F.getD ((k + 1) % F.length) (⟨0, 0⟩, ⟨0, 0⟩), r, z), rfl, ⟨ex _ hm.1, ex _ hm.2.1, hm.2.2, hr, hz⟩, ?_⟩
        rw [Function.comp_apply] at hT hF
        show if joinL (F.getD k (⟨0, 0⟩, ⟨0, 0⟩)).1 (F.getD ((k + 1) % F.length) (⟨0, 0⟩, ⟨0, 0⟩)).1 (F.getD ((k + 1) % F.length) (⟨0, 0⟩, ⟨0, 0⟩)).2 (uOf (F.getD k (⟨0, 0⟩, ⟨0, 0⟩))) (uOf (F.getD ((k + 1) % F.length) (⟨0, 0⟩, ⟨0, 0⟩))) (LOf (F.getD k (⟨0, 0⟩, ⟨0, 0⟩))) r z = true then _ else _
        refine ite2 (fun h => ?_) (fun h => ?_)
        · exact hT h
        · exact hF (by simpa using h) _ ⟨_, _, _, _, rfl⟩
      · intro h
        rw [h, Bool.true_or] at q
        exact q
      · rintro h2 _ ⟨s4, s5, s6, s7, rfl⟩
        rw [h2, Bool.false_or] at q
        have hnF : F ≠ [] := fun y => by rw [y] at L1; exact absurd L1 (by decide)
        have first : atD (F.map dWay) 0 = some (dWay (F.headD (⟨0, 0⟩, ⟨0, 0⟩))) := by
          cases F with
          | nil => exact absurd rfl hnF
          | cons x r => rfl
        have last : atD (F.map dWay) (-1) = some (dWay (F.getLastD (⟨0, 0⟩, ⟨0, 0⟩))) := by
          rcases List.eq_nil_or_concat F with y | ⟨i, x, y⟩
          · exact absurd y hnF
          · rw [y, List.map_concat]
            have := atD_neg1 (xs := i.map dWay) (x := dWay x)
            simp only [List.concat_eq_append] at *
            rw [this]
            simp
        have m1 : F.headD (⟨0, 0⟩, ⟨0, 0⟩) ∈ F := by
          cases F with
          | nil => exact absurd rfl hnF
          | cons x xs => exact List.mem_cons_self
        have m2 : F.getLastD (⟨0, 0⟩, ⟨0, 0⟩) ∈ F := by
          rw [List.getLastD_eq_getLast?, List.getLast?_eq_some_getLast hnF]
          exact List.getLast_mem hnF
        have hc1 := ex _ m1
        have hc2 := ex _ m2
        generalize F.headD (⟨0, 0⟩, ⟨0, 0⟩) = e1 at *
        generalize F.getLastD (⟨0, 0⟩, ⟨0, 0⟩) = e2 at *
        show if l.closed = true then Q (.bl false) t else _
        refine ite2 (fun h => ?_) (fun h => ?_)
        · rw [h] at q
          exact q
        · have h : l.closed = false := by simpa using h
          rw [h] at q
          have q : Q (.bl (endL e1.1 e1.2 (LOf e1) false r z || endL e2.1 e2.2 (LOf e2) true r z)) t := q
          refine opD_mk first ⟨(e1, false, r, z), rfl, ⟨hc1, hr, hz⟩, ?_⟩
          show if endL e1.1 e1.2 (LOf e1) false r z = true then Q (.bl true) t else _
          refine ite2 (fun y => ?_) (fun y => ?_)
          · rw [y, Bool.true_or] at q
            exact q
          · have y : endL e1.1 e1.2 (LOf e1) false r z = false := by simpa using y
            rw [y, Bool.false_or] at q
            exact opD_mk last ⟨(e2, true, r, z), rfl, ⟨hc2, hr, hz⟩, q⟩
end
end DL


/-! ## V10 -/
set_option maxRecDepth 100000
set_option maxHeartbeats 4000000
/-! what the law draws: numbers, places, ways, rules -/
namespace DL
open PySem PySem.Spec PyProof.Rows L2
open C8 (Cal pe_c pe_gc)
open W15
section
variable {P : Program} {w : World} {K : PySem.W.Frag} {mg : Str → Option Value} {base : Heap}
def C_law_draw : Con := Con.nd (fun m : Int => [.feed, .int m]) (fun m t => 1 ≤ m ∧ m ≤ 1000 ∧ t ≤ 10000) (fun m t d t' => ∃ r : Int, 0 ≤ r ∧ r < m ∧ d = .int r ∧ t' = t + 1)
theorem draw {m : Int} {t : Nat} {Q : KD} (h1 : 1 ≤ m) (h2 : m ≤ 1000) (h3 : t ≤ 10000) (q : ∀ r, 0 ≤ r → r < m → Q (.int r) (t + 1)) : C_law_draw.c [.feed, .int m] t Q :=
  ⟨m, rfl, ⟨h1, h2, h3⟩, fun d t' ⟨r, r0, r1, e1, e2⟩ => by subst e1 e2; exact q r r0 r1⟩
theorem pick {ds : List D} {r : Int} {Q : D → Prop} (h0 : 0 ≤ r) (h1 : r < ds.length) (h : ∀ d ∈ ds, Q d) : opD (atD ds r) Q := by
  obtain ⟨k, rfl⟩ := Int.eq_ofNat_of_zero_le h0
  have hk : k < ds.length := by omega
  refine opD_mk (d := ds[k]) ?_ (h _ (List.getElem_mem hk))
  unfold atD
  have h1 : ¬ ((k : Int) < 0) := by omega
  first
    | (rw [if_neg h1, Int.toNat_natCast, List.getElem?_eq_getElem hk])
    | (simp only [h1, if_false, Int.toNat_natCast, List.getElem?_eq_getElem hk])
theorem bdN {n : Nat} {x : Int} (h1 : -(2 ^ n : Nat) < x) (h2 : x < (2 ^ n : Nat)) : Bd n x := by
  unfold Bd
  omega
def C_law_number : Con := Con.nd (fun _ : Unit => [.feed]) (fun _ t => t ≤ 9900) (fun _ t d t' => ∃ q, d = dR q ∧ RB 5 q ∧ t' = t + 4)
abbrev s_law_number : Stmt := topS 61
abbrev N_law_number : List Str := ["_law_feed_here", "_law_top", "_law_bottom"]
theorem sc_law_number : FnScope ["_law_feed_here", "_law_top", "_law_bottom"] ["_law_feed_here"] (defScope s_law_number) := ⟨rfl, rfl, rfl, by decide +kernel, rfl, by decide +kernel, by decide +kernel⟩
theorem ok_law_number (N : Dn K mg "_law_number" s_law_number ["_law_feed_here"]) (c_law_draw : Cal P w K mg base 1 "_law_draw" (LSp K C_law_draw) []) (c_law_fraction : Cal P w K mg base 1 "_law_fraction" (LSp K C_law_fraction) []) : Cal P w K mg base 2 "_law_number" (LSp K C_law_number) [] := by
  refine N.ok sc_law_number ?_ (fun f cdv A outer s H E hr => (pss_cons (ps_set (i := 1) sc_law_number.nd rfl (.inl rfl) (pe_c c_law_draw hr (by decide) (by rfl) (pa_cons (pv 0) (pa_cons (pe_ix ix_A (pe_lst (pa_cons pe_int (pa_cons pe_int (pa_cons pe_int pa_nil)))) (pe_c c_law_draw hr (by decide) (by rfl) (pa_cons (pv 0) (pa_cons pe_int pa_nil))) (fun _ _ => rfl)) pa_nil))))
      (pss_cons (ps_set (i := 2) sc_law_number.nd rfl (.inl rfl) (pe_ix ix_A (pe_lst (pa_cons pe_int (pa_cons pe_int (pa_cons pe_int (pa_cons pe_int (pa_cons pe_int (pa_cons pe_int pa_nil))))))) (pe_c c_law_draw hr (by decide) (by rfl) (pa_cons (pv 0) (pa_cons pe_int pa_nil))) (fun _ _ => rfl)))
      (pss_one (ps_ret (pe_c c_law_fraction hr (by decide) (by rfl) (pa_cons (pe_op op_mulB (pv 1) (pe_op op_sub pe_int (pe_op op_mulB pe_int (pe_c c_law_draw hr (by decide) (by rfl) (pa_cons (pv 0) (pa_cons pe_int pa_nil)))))) (pa_cons (pv 2) pa_nil))))))))
    (sns_seq (sns_asg (sn_call (C := C_law_draw) (sna_cons (sn_var (i := 0)) (sna_cons (sn_op snr_ix (sn_lst (sna_cons sn_int (sna_cons sn_int (sna_cons sn_int sna_nil)))) (sn_call (C := C_law_draw) (sna_cons (sn_var (i := 0)) (sna_cons sn_int sna_nil)))) sna_nil))) (sng_name (i := 1)))
      (sns_seq (sns_asg (sn_op snr_ix (sn_lst (sna_cons sn_int (sna_cons sn_int (sna_cons sn_int (sna_cons sn_int (sna_cons sn_int (sna_cons sn_int sna_nil))))))) (sn_call (C := C_law_draw) (sna_cons (sn_var (i := 0)) (sna_cons sn_int sna_nil)))) (sng_name (i := 2)))
      (sns_ret (sn_call (C := C_law_fraction) (sna_cons (sn_op snr_IC (sn_var (i := 1)) (sn_op snr_I sn_int (sn_op snr_IC sn_int (sn_call (C := C_law_draw) (sna_cons (sn_var (i := 0)) (sna_cons sn_int sna_nil)))))) (sna_cons (sn_var (i := 2)) sna_nil)))))) ?_
  · exact Con.lenN fun _ => rfl
  · rintro ds t Q ⟨_, rfl, ht, q⟩
    have ht : t ≤ 9900 := ht
    refine draw (by decide) (by decide) (by omega) fun r1 a1 b1 => ?_
    refine pick a1 b1 fun d hd => ?_
    obtain ⟨m, rfl, m1, m2⟩ : ∃ m, d = .int m ∧ 1 ≤ m ∧ m ≤ 30 := by
      simp only [List.mem_cons, List.not_mem_nil, or_false] at hd
      rcases hd with rfl | rfl | rfl
      · exact ⟨7, rfl, by decide, by decide⟩
      · exact ⟨13, rfl, by decide, by decide⟩
      · exact ⟨30, rfl, by decide, by decide⟩
    refine draw m1 (by omega) (by omega) fun top a2 b2 => ?_
    refine draw (by decide) (by decide) (by omega) fun r3 a3 b3 => ?_
    refine pick a3 b3 fun d hd => ?_
    obtain ⟨b, rfl, c1, c2⟩ : ∃ m, d = .int m ∧ 1 ≤ m ∧ m ≤ 4 := by
      simp only [List.mem_cons, List.not_mem_nil, or_false] at hd
      rcases hd with rfl | rfl | rfl | rfl | rfl | rfl
      · exact ⟨1, rfl, by decide, by decide⟩
      · exact ⟨1, rfl, by decide, by decide⟩
      · exact ⟨1, rfl, by decide, by decide⟩
      · exact ⟨2, rfl, by decide, by decide⟩
      · exact ⟨3, rfl, by decide, by decide⟩
      · exact ⟨4, rfl, by decide, by decide⟩
    refine draw (by decide) (by decide) (by omega) fun s a4 b4 => ?_
    have sB : Bd 2 s := bdN (by omega) (by omega)
    have s2 : Bd 3 (1 - 2 * s) := bdN (by omega) (by omega)
    have tB : Bd 5 top := bdN (by omega) (by omega)
    have bB : Bd 5 b := bdN (by omega) (by omega)
    have pB : Bd 5 (top * (1 - 2 * s)) := by
      have : s = 0 ∨ s = 1 := by omega
      rcases this with rfl | rfl
      · exact bdN (by omega) (by omega)
      · exact bdN (by omega) (by omega)
    refine ⟨mulB (n := 2) (by unfold Bd; decide) sB (by decide), mulB tB s2 (by decide), (top * (1 - 2 * s), b), rfl, ⟨by show b ≠ 0; omega, pB.mono (by decide), bB.mono (by decide)⟩, ?_⟩
    exact q _ _ ⟨_, rfl, rb_of pB bB (by omega), rfl⟩
def C_law_place : Con := Con.nd (fun _ : Unit => [.feed]) (fun _ t => t ≤ 9800) (fun _ t d t' => ∃ p : Pt, d = dP p ∧ RB 5 p.x ∧ RB 5 p.y ∧ t' = t + 8)
abbrev s_law_place : Stmt := topS 62
abbrev N_law_place : List Str := ["_law_feed_here"]
theorem sc_law_place : FnScope ["_law_feed_here"] ["_law_feed_here"] (defScope s_law_place) := ⟨rfl, rfl, rfl, by decide +kernel, rfl, by decide +kernel, by decide +kernel⟩
theorem ok_law_place (N : Dn K mg "_law_place" s_law_place ["_law_feed_here"]) (c_law_at : Cal P w K mg base 2 "_law_at" (LSp K C_law_at) []) (c_law_number : Cal P w K mg base 2 "_law_number" (LSp K C_law_number) []) : Cal P w K mg base 3 "_law_place" (LSp K C_law_place) [] := by
  refine N.ok sc_law_place ?_ (fun f cdv A outer s H E hr => (pss_one (ps_ret (pe_c c_law_at hr (by decide) (by rfl) (pa_cons (pe_c c_law_number hr (by decide) (by rfl) (pa_cons (pv 0) pa_nil)) (pa_cons (pe_c c_law_number hr (by decide) (by rfl) (pa_cons (pv 0) pa_nil)) pa_nil))))))
    (sns_ret (sn_call (C := C_law_at) (sna_cons (sn_call (C := C_law_number) (sna_cons (sn_var (i := 0)) sna_nil)) (sna_cons (sn_call (C := C_law_number) (sna_cons (sn_var (i := 0)) sna_nil)) sna_nil)))) ?_
  · exact Con.lenN fun _ => rfl
  · rintro ds t Q ⟨_, rfl, ht, q⟩
    have ht : t ≤ 9800 := ht
    refine ⟨(), rfl, by show t ≤ 9900; omega, ?_⟩
    rintro _ _ ⟨x, rfl, hx, rfl⟩
    refine ⟨(), rfl, by show t + 4 ≤ 9900; omega, ?_⟩
    rintro _ _ ⟨y, rfl, hy, rfl⟩
    refine ⟨(x, y), rfl, ⟨_, _, hx, hy, by decide⟩, ?_⟩
    exact q _ _ ⟨⟨x, y⟩, rfl, hx, hy, rfl⟩
/-- a way: L along u -/
structure Wy (u : Pt) (L : Rat) : Prop where
  pos : 0 < L
  one : u.x * u.x + u.y * u.y = 1
  bu : RB 6 u.x ∧ RB 6 u.y
  bL : RB 12 L
  bx : RB 12 (L * u.x)
  bY : RB 12 (L * u.y)
def dW (u : Pt) (L : Rat) : D := .lst [dR (L * u.x), dR (L * u.y), dR L]
def C_law_way : Con := Con.nd (fun _ : Unit => [.feed]) (fun _ t => t ≤ 9800) (fun _ t d t' => ∃ u L, d = dW u L ∧ Wy u L ∧ t' = t + 7)
structure P3 (p q h : Int) : Prop where
  h1 : 1 ≤ h
  h2 : h ≤ 17
  p1 : -17 ≤ p
  p2 : p ≤ 17
  q1 : -17 ≤ q
  q2 : q ≤ 17
  sq : p * p + q * q = h * h
theorem way_ok {p q h : Int} (t : P3 p q h) {s : Rat} (hs : 0 < s) (hB : RB 7 s) : ∃ u L, Wy u L ∧ (p : Rat) * s = L * u.x ∧ (q : Rat) * s = L * u.y ∧ (h : Rat) * s = L := by
  have hp : 0 < (h : Rat) := Rat.intCast_pos.mpr (by have := t.h1; omega)
  have hn : (h : Rat) ≠ 0 := by grind
  have hsq : (p : Rat) * (p : Rat) + (q : Rat) * (q : Rat) = (h : Rat) * (h : Rat) := by
    rw [← Rat.intCast_mul, ← Rat.intCast_mul, ← Rat.intCast_mul, ← Rat.intCast_add, t.sq]
  obtain ⟨a1, a2, a3, a4, a5, a6, _⟩ := t
  have pB : Bd 6 p := bdN (by omega) (by omega)
  have qB : Bd 6 q := bdN (by omega) (by omega)
  have hB' : Bd 6 h := bdN (by omega) (by omega)
  have pB5 : Bd 5 p := bdN (by omega) (by omega)
  have qB5 : Bd 5 q := bdN (by omega) (by omega)
  have hB5 : Bd 5 h := bdN (by omega) (by omega)
  have R : ∀ x : Int, Bd 5 x → RB 5 (x : Rat) := fun x hx => rb_int hx (by decide)
  have e1 : (p : Rat) * s = (h : Rat) * s * ((p : Rat) / (h : Rat)) := by grind
  have e2 : (q : Rat) * s = (h : Rat) * s * ((q : Rat) / (h : Rat)) := by grind
  refine ⟨⟨(p : Rat) / (h : Rat), (q : Rat) / (h : Rat)⟩, (h : Rat) * s, ⟨Rat.mul_pos hp hs, ?_, ⟨rb_of pB hB' (by omega), rb_of qB hB' (by omega)⟩, ((R h hB5).mul hB).mono (by decide), ?_, ?_⟩, e1, e2, rfl⟩
  · show (p : Rat) / (h : Rat) * ((p : Rat) / (h : Rat)) + (q : Rat) / (h : Rat) * ((q : Rat) / (h : Rat)) = 1
    grind
  · rw [← e1]
    exact ((R p pB5).mul hB).mono (by decide)
  · rw [← e2]
    exact ((R q qB5).mul hB).mono (by decide)
abbrev s_law_way : Stmt := topS 63
abbrev N_law_way : List Str := ["_law_feed_here", "_law_p", "_law_q", "_law_share", "_law_h", "_law_one"]
theorem sc_law_way : FnScope ["_law_feed_here", "_law_p", "_law_q", "_law_share", "_law_h", "_law_one"] ["_law_feed_here"] (defScope s_law_way) := ⟨rfl, rfl, rfl, by decide +kernel, rfl, by decide +kernel, by decide +kernel⟩
theorem ok_law_way (N : Dn K mg "_law_way" s_law_way ["_law_feed_here"]) (c_law_fraction : Cal P w K mg base 1 "_law_fraction" (LSp K C_law_fraction) []) (c_law_draw : Cal P w K mg base 1 "_law_draw" (LSp K C_law_draw) []) (c_law_product : Cal P w K mg base 2 "_law_product" (LSp K C_law_product) []) : Cal P w K mg base 3 "_law_way" (LSp K C_law_way) [] := by
  refine N.ok sc_law_way ?_ (fun f cdv A outer s H E hr => (pss_cons (ps_asg (pe_ix ix_A (pe_lst (pa_cons (pe_tup (pa_cons pe_int (pa_cons pe_int (pa_cons pe_int pa_nil)))) (pa_cons (pe_tup (pa_cons pe_int (pa_cons pe_int (pa_cons pe_int pa_nil)))) (pa_cons (pe_tup (pa_cons pe_int (pa_cons pe_int (pa_cons pe_int pa_nil)))) (pa_cons (pe_tup (pa_cons pe_int (pa_cons pe_int (pa_cons pe_int pa_nil)))) (pa_cons (pe_tup (pa_cons pe_int (pa_cons pe_int (pa_cons pe_int pa_nil)))) (pa_cons (pe_tup (pa_cons pe_int (pa_cons pe_int (pa_cons pe_int pa_nil)))) pa_nil))))))) (pe_c c_law_draw hr (by decide) (by rfl) (pa_cons (pv 0) (pa_cons pe_int pa_nil))) (fun _ _ => rfl)) (pg_tup rfl (pgs_cons (pg_name (i := 1) sc_law_way.nd rfl (.inl rfl)) (pgs_cons (pg_name (i := 2) sc_law_way.nd rfl (.inl rfl)) (pgs_cons (pg_name (i := 4) sc_law_way.nd rfl (.inl rfl)) pgs_nil)))))
      (pss_cons (ps_if (pt_cmpR (op_eqA hr.units) (pe_c c_law_draw hr (by decide) (by rfl) (pa_cons (pv 0) (pa_cons pe_int pa_nil))) pe_int (nomark _)) (pss_one (ps_par (i := 1) (j := 2) rfl sc_law_way.nd rfl rfl (by decide) rfl rfl (pa_cons (pv 2) (pa_cons (pv 1) pa_nil)) (by rfl))) pss_nil)
      (pss_cons (ps_set (i := 1) sc_law_way.nd rfl (.inl rfl) (pe_op op_mulB (pv 1) (pe_op op_sub pe_int (pe_op op_mulB pe_int (pe_c c_law_draw hr (by decide) (by rfl) (pa_cons (pv 0) (pa_cons pe_int pa_nil)))))))
      (pss_cons (ps_set (i := 2) sc_law_way.nd rfl (.inl rfl) (pe_op op_mulB (pv 2) (pe_op op_sub pe_int (pe_op op_mulB pe_int (pe_c c_law_draw hr (by decide) (by rfl) (pa_cons (pv 0) (pa_cons pe_int pa_nil)))))))
      (pss_cons (ps_set (i := 3) sc_law_way.nd rfl (.inr rfl) (pe_op op_mulB (pe_ix ix_A (pe_lst (pa_cons pe_int (pa_cons pe_int (pa_cons pe_int (pa_cons pe_int (pa_cons pe_int pa_nil)))))) (pe_c c_law_draw hr (by decide) (by rfl) (pa_cons (pv 0) (pa_cons pe_int pa_nil))) (fun _ _ => rfl)) (pe_ix ix_A (pe_lst (pa_cons pe_int (pa_cons (pv 4) pa_nil))) (pe_c c_law_draw hr (by decide) (by rfl) (pa_cons (pv 0) (pa_cons pe_int pa_nil))) (fun _ _ => rfl))))
      (pss_cons (ps_set (i := 3) sc_law_way.nd rfl (.inr rfl) (pe_c c_law_fraction hr (by decide) (by rfl) (pa_cons (pv 3) (pa_cons (pe_ix ix_A (pe_lst (pa_cons pe_int (pa_cons (pv 4) (pa_cons (pe_op op_mulB pe_int (pv 4)) pa_nil)))) (pe_c c_law_draw hr (by decide) (by rfl) (pa_cons (pv 0) (pa_cons pe_int pa_nil))) (fun _ _ => rfl)) pa_nil))))
      (pss_one (ps_ret (pe_lc (own := [("_law_one", 5)]) rfl sc_law_way.nd (pi_seq (pe_tup (pa_cons (pv 1) (pa_cons (pv 2) (pa_cons (pv 4) pa_nil))))) (blkOk_by (own := [("_law_one", 5)]) (N := N_law_way) (sc := defScope s_law_way) (by decide +kernel)) (fun _ _ _ _ _ => (pg_name (i := 5) sc_law_way.nd rfl (.inl rfl))) (fun _ _ _ _ _ => pts_nil) (fun _ _ _ _ _ => (pe_c c_law_product hr (by decide) (by rfl) (pa_cons (pe_tup (pa_cons (pv 5) (pa_cons pe_int pa_nil))) (pa_cons (pv 3) pa_nil))))))))))))))
    (sns_seq (sns_asg (sn_op snr_ix (sn_lst (sna_cons (sn_tup (sna_cons sn_int (sna_cons sn_int (sna_cons sn_int sna_nil)))) (sna_cons (sn_tup (sna_cons sn_int (sna_cons sn_int (sna_cons sn_int sna_nil)))) (sna_cons (sn_tup (sna_cons sn_int (sna_cons sn_int (sna_cons sn_int sna_nil)))) (sna_cons (sn_tup (sna_cons sn_int (sna_cons sn_int (sna_cons sn_int sna_nil)))) (sna_cons (sn_tup (sna_cons sn_int (sna_cons sn_int (sna_cons sn_int sna_nil)))) (sna_cons (sn_tup (sna_cons sn_int (sna_cons sn_int (sna_cons sn_int sna_nil)))) sna_nil))))))) (sn_call (C := C_law_draw) (sna_cons (sn_var (i := 0)) (sna_cons sn_int sna_nil)))) (sng_tup (n := 3) (sngs_cons (sng_name (i := 1)) (sngs_cons (sng_name (i := 2)) (sngs_cons (sng_name (i := 4)) sngs_nil)))))
      (sns_seq (sns_if (snt_test (sn_op snr_eq (sn_call (C := C_law_draw) (sna_cons (sn_var (i := 0)) (sna_cons sn_int sna_nil))) sn_int)) (sns_par (i := 1) (j := 2) (sna_cons (sn_var (i := 2)) (sna_cons (sn_var (i := 1)) sna_nil))) sns_nil)
      (sns_seq (sns_asg (sn_op snr_IC (sn_var (i := 1)) (sn_op snr_I sn_int (sn_op snr_IC sn_int (sn_call (C := C_law_draw) (sna_cons (sn_var (i := 0)) (sna_cons sn_int sna_nil)))))) (sng_name (i := 1)))
      (sns_seq (sns_asg (sn_op snr_IC (sn_var (i := 2)) (sn_op snr_I sn_int (sn_op snr_IC sn_int (sn_call (C := C_law_draw) (sna_cons (sn_var (i := 0)) (sna_cons sn_int sna_nil)))))) (sng_name (i := 2)))
      (sns_seq (sns_asg (sn_op snr_IC (sn_op snr_ix (sn_lst (sna_cons sn_int (sna_cons sn_int (sna_cons sn_int (sna_cons sn_int (sna_cons sn_int sna_nil)))))) (sn_call (C := C_law_draw) (sna_cons (sn_var (i := 0)) (sna_cons sn_int sna_nil)))) (sn_op snr_ix (sn_lst (sna_cons sn_int (sna_cons (sn_var (i := 4)) sna_nil))) (sn_call (C := C_law_draw) (sna_cons (sn_var (i := 0)) (sna_cons sn_int sna_nil))))) (sng_name (i := 3)))
      (sns_seq (sns_asg (sn_call (C := C_law_fraction) (sna_cons (sn_var (i := 3)) (sna_cons (sn_op snr_ix (sn_lst (sna_cons sn_int (sna_cons (sn_var (i := 4)) (sna_cons (sn_op snr_IC sn_int (sn_var (i := 4))) sna_nil)))) (sn_call (C := C_law_draw) (sna_cons (sn_var (i := 0)) (sna_cons sn_int sna_nil)))) sna_nil))) (sng_name (i := 3)))
      (sns_ret (sn_lc (sni_seq (sn_tup (sna_cons (sn_var (i := 1)) (sna_cons (sn_var (i := 2)) (sna_cons (sn_var (i := 4)) sna_nil))))).c (sng_name (i := 5)) snt_yes (sn_call (C := C_law_product) (sna_cons (sn_tup (sna_cons (sn_var (i := 5)) (sna_cons sn_int sna_nil))) (sna_cons (sn_var (i := 3)) sna_nil))) (by decide))))))))) ?_
  · exact Con.lenN fun _ => rfl
  · rintro ds t Q ⟨_, rfl, ht, q⟩
    have ht : t ≤ 9800 := ht
    refine draw (by decide) (by decide) (by omega) fun r1 a1 b1 => ?_
    refine pick a1 b1 fun d hd => ?_
    obtain ⟨p, r, h, rfl, T⟩ : ∃ p q h, d = .tup [.int p, .int q, .int h] ∧ P3 p q h := by
      simp only [List.mem_cons, List.not_mem_nil, or_false] at hd
      rcases hd with rfl | rfl | rfl | rfl | rfl | rfl
      · exact ⟨1, 0, 1, rfl, by constructor <;> decide⟩
      · exact ⟨1, 0, 1, rfl, by constructor <;> decide⟩
      · exact ⟨3, 4, 5, rfl, by constructor <;> decide⟩
      · exact ⟨4, 3, 5, rfl, by constructor <;> decide⟩
      · exact ⟨5, 12, 13, rfl, by constructor <;> decide⟩
      · exact ⟨8, 15, 17, rfl, by constructor <;> decide⟩
    refine draw (by decide) (by decide) (by omega) fun r2 a2 b2 => ?_
    show if decide (r2 = 0) = true then _ else _
    refine ite2 (fun _ => ?_) (fun _ => ?_)
    · clear hd
      refine draw (by decide) (by decide) (by omega) fun s1 a3 b3 => ?_
      have B1 : Bd 3 (1 - 2 * s1) := bdN (by omega) (by omega)
      have B2 : Bd 2 s1 := bdN (by omega) (by omega)
      have pB : Bd 6 p := bdN (by have := T.p1; omega) (by have := T.p2; omega)
      have qB : Bd 6 r := bdN (by have := T.q1; omega) (by have := T.q2; omega)
      have hB : Bd 6 h := bdN (by have := T.h1; omega) (by have := T.h2; omega)
      have two : Bd 2 2 := by unfold Bd; decide
      refine ⟨mulB two B2 (by decide), mulB qB B1 (by decide), ?_⟩
      refine draw (by decide) (by decide) (by omega) fun s2 a4 b4 => ?_
      have B3 : Bd 3 (1 - 2 * s2) := bdN (by omega) (by omega)
      have B4 : Bd 2 s2 := bdN (by omega) (by omega)
      refine ⟨mulB two B4 (by decide), mulB pB B3 (by decide), ?_⟩
      have T2 : P3 (r * (1 - 2 * s1)) (p * (1 - 2 * s2)) h := by
        have := T.h1
        have := T.h2
        have := T.p1
        have := T.p2
        have := T.q1
        have := T.q2
        have sq := T.sq
        have c1 : s1 = 0 ∨ s1 = 1 := by omega
        have c2 : s2 = 0 ∨ s2 = 1 := by omega
        rcases c1 with rfl | rfl <;> rcases c2 with rfl | rfl <;> constructor <;> first | omega | grind
      refine draw (by decide) (by decide) (by omega) fun r5 a5 b5 => ?_
      refine pick a5 b5 fun d hd => ?_
      obtain ⟨m, rfl, m1, m2⟩ : ∃ m, d = .int m ∧ 1 ≤ m ∧ m ≤ 6 := by
        simp only [List.mem_cons, List.not_mem_nil, or_false] at hd
        rcases hd with rfl | rfl | rfl | rfl | rfl
        · exact ⟨1, rfl, by decide, by decide⟩
        · exact ⟨2, rfl, by decide, by decide⟩
        · exact ⟨3, rfl, by decide, by decide⟩
        · exact ⟨4, rfl, by decide, by decide⟩
        · exact ⟨6, rfl, by decide, by decide⟩
      refine draw (by decide) (by decide) (by omega) fun r6 a6 b6 => ?_
      refine pick a6 b6 fun d hd => ?_
      have H1 := T.h1
      have H2 := T.h2
      obtain ⟨n, rfl, n1, n2⟩ : ∃ m, d = .int m ∧ 1 ≤ m ∧ m ≤ 17 := by
        simp only [List.mem_cons, List.not_mem_nil, or_false] at hd
        rcases hd with rfl | rfl
        · exact ⟨1, rfl, by decide, by decide⟩
        · exact ⟨h, rfl, H1, H2⟩
      have mB : Bd 3 m := bdN (by omega) (by omega)
      have nB : Bd 5 n := bdN (by omega) (by omega)
      have mn1 : 1 ≤ m * n := by
        have := Int.mul_le_mul m1 n1 (by decide) (by omega : 0 ≤ m)
        omega
      have mn2 : m * n ≤ 102 := by
        have := Int.mul_le_mul m2 n2 (by omega) (by decide : (0 : Int) ≤ 6)
        omega
      refine ⟨mulB mB nB (by decide), mulB two hB (by decide), ?_⟩
      refine draw (by decide) (by decide) (by omega) fun r7 a7 b7 => ?_
      refine pick a7 b7 fun d hd => ?_
      obtain ⟨c, rfl, c1, c2⟩ : ∃ m, d = .int m ∧ 1 ≤ m ∧ m ≤ 34 := by
        simp only [List.mem_cons, List.not_mem_nil, or_false] at hd
        rcases hd with rfl | rfl | rfl
        · exact ⟨1, rfl, by decide, by decide⟩
        · exact ⟨h, rfl, H1, by omega⟩
        · exact ⟨2 * h, rfl, by omega, by omega⟩
      have nB7 : Bd 7 (m * n) := bdN (by omega) (by omega)
      have cB7 : Bd 7 c := bdN (by omega) (by omega)
      have sB : RB 7 (((m * n : Int) : Rat) / (c : Rat)) := rb_of nB7 cB7 (by omega)
      have sp : 0 < (((m * n : Int) : Rat) / (c : Rat)) := by
        have h1 : 0 < ((m * n : Int) : Rat) := Rat.intCast_pos.mpr (by omega)
        have h2 : 0 < (c : Rat) := Rat.intCast_pos.mpr (by omega)
        rw [Rat.div_def]
        exact Rat.mul_pos h1 (Rat.inv_pos.mpr h2)
      refine ⟨(m * n, c), rfl, ⟨by show c ≠ 0; omega, nB7.mono (by decide), cB7.mono (by decide)⟩, ?_⟩
      obtain ⟨u, L, W, e1, e2, e3⟩ := way_ok T2 sp sB
      have R : ∀ x : Int, -17 ≤ x → x ≤ 17 → RB 6 (x : Rat) := fun x h1 h2 => rb_int (bdN (by omega) (by omega)) (by decide)
      refine ⟨by show 3 ≤ 1000; decide, (((r * (1 - 2 * s1) : Int) : Rat), ((m * n : Int) : Rat) / (c : Rat)), rfl, ⟨_, _, R _ T2.p1 T2.p2, sB, by decide⟩,
        (((p * (1 - 2 * s2) : Int) : Rat), ((m * n : Int) : Rat) / (c : Rat)), rfl, ⟨_, _, R _ T2.q1 T2.q2, sB, by decide⟩, ((h : Rat), ((m * n : Int) : Rat) / (c : Rat)), rfl, ⟨_, _, R _ (by omega) H2, sB, by decide⟩, ?_⟩
      refine q _ _ ⟨u, L, ?_, W, rfl⟩
      show D.lst [dR (((r * (1 - 2 * s1) : Int) : Rat) * (((m * n : Int) : Rat) / (c : Rat))), dR (((p * (1 - 2 * s2) : Int) : Rat) * (((m * n : Int) : Rat) / (c : Rat))), dR ((h : Rat) * (((m * n : Int) : Rat) / (c : Rat)))] = _
      rw [e1, e2, e3]
      rfl
    · clear hd
      refine draw (by decide) (by decide) (by omega) fun s1 a3 b3 => ?_
      have B1 : Bd 3 (1 - 2 * s1) := bdN (by omega) (by omega)
      have B2 : Bd 2 s1 := bdN (by omega) (by omega)
      have pB : Bd 6 p := bdN (by have := T.p1; omega) (by have := T.p2; omega)
      have qB : Bd 6 r := bdN (by have := T.q1; omega) (by have := T.q2; omega)
      have hB : Bd 6 h := bdN (by have := T.h1; omega) (by have := T.h2; omega)
      have two : Bd 2 2 := by unfold Bd; decide
      refine ⟨mulB two B2 (by decide), mulB pB B1 (by decide), ?_⟩
      refine draw (by decide) (by decide) (by omega) fun s2 a4 b4 => ?_
      have B3 : Bd 3 (1 - 2 * s2) := bdN (by omega) (by omega)
      have B4 : Bd 2 s2 := bdN (by omega) (by omega)
      refine ⟨mulB two B4 (by decide), mulB qB B3 (by decide), ?_⟩
      have T2 : P3 (p * (1 - 2 * s1)) (r * (1 - 2 * s2)) h := by
        have := T.h1
        have := T.h2
        have := T.p1
        have := T.p2
        have := T.q1
        have := T.q2
        have sq := T.sq
        have c1 : s1 = 0 ∨ s1 = 1 := by omega
        have c2 : s2 = 0 ∨ s2 = 1 := by omega
        rcases c1 with rfl | rfl <;> rcases c2 with rfl | rfl <;> constructor <;> first | omega | grind
      refine draw (by decide) (by decide) (by omega) fun r5 a5 b5 => ?_
      refine pick a5 b5 fun d hd => ?_
      obtain ⟨m, rfl, m1, m2⟩ : ∃ m, d = .int m ∧ 1 ≤ m ∧ m ≤ 6 := by
        simp only [List.mem_cons, List.not_mem_nil, or_false] at hd
        rcases hd with rfl | rfl | rfl | rfl | rfl
        · exact ⟨1, rfl, by decide, by decide⟩
        · exact ⟨2, rfl, by decide, by decide⟩
        · exact ⟨3, rfl, by decide, by decide⟩
        · exact ⟨4, rfl, by decide, by decide⟩
        · exact ⟨6, rfl, by decide, by decide⟩
      refine draw (by decide) (by decide) (by omega) fun r6 a6 b6 => ?_
      refine pick a6 b6 fun d hd => ?_
      have H1 := T.h1
      have H2 := T.h2
      obtain ⟨n, rfl, n1, n2⟩ : ∃ m, d = .int m ∧ 1 ≤ m ∧ m ≤ 17 := by
        simp only [List.mem_cons, List.not_mem_nil, or_false] at hd
        rcases hd with rfl | rfl
        · exact ⟨1, rfl, by decide, by decide⟩
        · exact ⟨h, rfl, H1, H2⟩
      have mB : Bd 3 m := bdN (by omega) (by omega)
      have nB : Bd 5 n := bdN (by omega) (by omega)
      have mn1 : 1 ≤ m * n := by
        have := Int.mul_le_mul m1 n1 (by decide) (by omega : 0 ≤ m)
        omega
      have mn2 : m * n ≤ 102 := by
        have := Int.mul_le_mul m2 n2 (by omega) (by decide : (0 : Int) ≤ 6)
        omega
      refine ⟨mulB mB nB (by decide), mulB two hB (by decide), ?_⟩
      refine draw (by decide) (by decide) (by omega) fun r7 a7 b7 => ?_
      refine pick a7 b7 fun d hd => ?_
      obtain ⟨c, rfl, c1, c2⟩ : ∃ m, d = .int m ∧ 1 ≤ m ∧ m ≤ 34 := by
        simp only [List.mem_cons, List.not_mem_nil, or_false] at hd
        rcases hd with rfl | rfl | rfl
        · exact ⟨1, rfl, by decide, by decide⟩
        · exact ⟨h, rfl, H1, by omega⟩
        · exact ⟨2 * h, rfl, by omega, by omega⟩
      have nB7 : Bd 7 (m * n) := bdN (by omega) (by omega)
      have cB7 : Bd 7 c := bdN (by omega) (by omega)
      have sB : RB 7 (((m * n : Int) : Rat) / (c : Rat)) := rb_of nB7 cB7 (by omega)
      have sp : 0 < (((m * n : Int) : Rat) / (c : Rat)) := by
        have h1 : 0 < ((m * n : Int) : Rat) := Rat.intCast_pos.mpr (by omega)
        have h2 : 0 < (c : Rat) := Rat.intCast_pos.mpr (by omega)
        rw [Rat.div_def]
        exact Rat.mul_pos h1 (Rat.inv_pos.mpr h2)
      refine ⟨(m * n, c), rfl, ⟨by show c ≠ 0; omega, nB7.mono (by decide), cB7.mono (by decide)⟩, ?_⟩
      obtain ⟨u, L, W, e1, e2, e3⟩ := way_ok T2 sp sB
      have R : ∀ x : Int, -17 ≤ x → x ≤ 17 → RB 6 (x : Rat) := fun x h1 h2 => rb_int (bdN (by omega) (by omega)) (by decide)
      refine ⟨by show 3 ≤ 1000; decide, (((p * (1 - 2 * s1) : Int) : Rat), ((m * n : Int) : Rat) / (c : Rat)), rfl, ⟨_, _, R _ T2.p1 T2.p2, sB, by decide⟩,
        (((r * (1 - 2 * s2) : Int) : Rat), ((m * n : Int) : Rat) / (c : Rat)), rfl, ⟨_, _, R _ T2.q1 T2.q2, sB, by decide⟩, ((h : Rat), ((m * n : Int) : Rat) / (c : Rat)), rfl, ⟨_, _, R _ (by omega) H2, sB, by decide⟩, ?_⟩
      refine q _ _ ⟨u, L, ?_, W, rfl⟩
      show D.lst [dR (((p * (1 - 2 * s1) : Int) : Rat) * (((m * n : Int) : Rat) / (c : Rat))), dR (((r * (1 - 2 * s2) : Int) : Rat) * (((m * n : Int) : Rat) / (c : Rat))), dR ((h : Rat) * (((m * n : Int) : Rat) / (c : Rat)))] = _
      rw [e1, e2, e3]
      rfl
end
end DL


/-! ## V11 -/
set_option maxRecDepth 100000
set_option maxHeartbeats 4000000
/-! what the law draws: rules, lines -/
namespace DL
open PySem PySem.Spec PyProof.Rows L2
open C8 (Cal pe_c pe_gc)
open W15
section
variable {P : Program} {w : World} {K : PySem.W.Frag} {mg : Str → Option Value} {base : Heap}
def C_law_goes_on : Con := Con.nd (fun p : (Pt × Rat) × (Pt × Rat) => [dW p.1.1 p.1.2, dW p.2.1 p.2.2]) (fun p t => Wy p.1.1 p.1.2 ∧ Wy p.2.1 p.2.2) (fun _ t d t' => ∃ b, d = .bl b ∧ t' = t)
abbrev s_law_goes_on : Stmt := topS 64
abbrev N_law_goes_on : List Str := ["_law_first", "_law_second", "_law_one", "_law_other", "_law_with_it"]
theorem sc_law_goes_on : FnScope ["_law_first", "_law_second", "_law_one", "_law_other", "_law_with_it"] ["_law_first", "_law_second"] (defScope s_law_goes_on) := ⟨rfl, rfl, rfl, by decide +kernel, rfl, by decide +kernel, by decide +kernel⟩
theorem ok_law_goes_on (N : Dn K mg "_law_goes_on" s_law_goes_on ["_law_first", "_law_second"]) (c_law_product : Cal P w K mg base 2 "_law_product" (LSp K C_law_product) []) (c_law_sum : Cal P w K mg base 2 "_law_sum" (LSp K C_law_sum) []) : Cal P w K mg base 3 "_law_goes_on" (LSp K C_law_goes_on) [] := by
  refine N.ok sc_law_goes_on ?_ (fun f cdv A outer s H E hr => (pss_cons (ps_set (i := 2) sc_law_goes_on.nd rfl (.inl rfl) (pe_c c_law_product hr (by decide) (by rfl) (pa_cons (pe_ix ix_A (pv 0) pe_int (fun _ _ => rfl)) (pa_cons (pe_ix ix_A (pv 1) pe_int (fun _ _ => rfl)) pa_nil))))
      (pss_cons (ps_set (i := 3) sc_law_goes_on.nd rfl (.inl rfl) (pe_c c_law_product hr (by decide) (by rfl) (pa_cons (pe_ix ix_A (pv 0) pe_int (fun _ _ => rfl)) (pa_cons (pe_ix ix_A (pv 1) pe_int (fun _ _ => rfl)) pa_nil))))
      (pss_cons (ps_set (i := 4) sc_law_goes_on.nd rfl (.inl rfl) (pe_c c_law_sum hr (by decide) (by rfl) (pa_cons (pe_c c_law_product hr (by decide) (by rfl) (pa_cons (pe_ix ix_A (pv 0) pe_int (fun _ _ => rfl)) (pa_cons (pe_ix ix_A (pv 1) pe_int (fun _ _ => rfl)) pa_nil))) (pa_cons (pe_c c_law_product hr (by decide) (by rfl) (pa_cons (pe_ix ix_A (pv 0) pe_int (fun _ _ => rfl)) (pa_cons (pe_ix ix_A (pv 1) pe_int (fun _ _ => rfl)) pa_nil))) pa_nil))))
      (pss_one (ps_ret (pe_and (pe_cmpR (op_eqA hr.units) (pv 2) (pv 3) (nomark _)) (pe_one (pe_cmpR op_gt (pe_ix ix_A (pv 4) pe_int (fun _ _ => rfl)) pe_int (nomark _))))))))))
    (sns_seq (sns_asg (sn_call (C := C_law_product) (sna_cons (sn_op snr_ix (sn_var (i := 0)) sn_int) (sna_cons (sn_op snr_ix (sn_var (i := 1)) sn_int) sna_nil))) (sng_name (i := 2)))
      (sns_seq (sns_asg (sn_call (C := C_law_product) (sna_cons (sn_op snr_ix (sn_var (i := 0)) sn_int) (sna_cons (sn_op snr_ix (sn_var (i := 1)) sn_int) sna_nil))) (sng_name (i := 3)))
      (sns_seq (sns_asg (sn_call (C := C_law_sum) (sna_cons (sn_call (C := C_law_product) (sna_cons (sn_op snr_ix (sn_var (i := 0)) sn_int) (sna_cons (sn_op snr_ix (sn_var (i := 1)) sn_int) sna_nil))) (sna_cons (sn_call (C := C_law_product) (sna_cons (sn_op snr_ix (sn_var (i := 0)) sn_int) (sna_cons (sn_op snr_ix (sn_var (i := 1)) sn_int) sna_nil))) sna_nil))) (sng_name (i := 4)))
      (sns_ret (sn_andV (sn_op snr_eq (sn_var (i := 2)) (sn_var (i := 3))) (sn_op snr_B (sn_op snr_ix (sn_var (i := 4)) sn_int) sn_int)))))) ?_
  · exact Con.lenN fun _ => rfl
  · rintro ds t Q ⟨⟨⟨u, L⟩, v, M⟩, rfl, ⟨h1, h2⟩, q⟩
    have h1 : Wy u L := h1
    have h2 : Wy v M := h2
    refine ⟨(L * u.x, M * v.y), rfl, ⟨_, _, h1.bx, h2.bY, by decide⟩, (L * u.y, M * v.x), rfl, ⟨_, _, h1.bY, h2.bx, by decide⟩, (L * u.x, M * v.x), rfl, ⟨_, _, h1.bx, h2.bx, by decide⟩, (L * u.y, M * v.y), rfl, ⟨_, _, h1.bY, h2.bY, by decide⟩,
      (L * u.x * (M * v.x), L * u.y * (M * v.y)), rfl, ⟨_, _, h1.bx.mul h2.bx, h1.bY.mul h2.bY, by decide⟩, ?_⟩
    show if decide ([(L * u.x * (M * v.y)).num, ((L * u.x * (M * v.y)).den : Int)] = [(L * u.y * (M * v.x)).num, ((L * u.y * (M * v.x)).den : Int)]) = true then _ else _
    refine ite2 (fun _ => ?_) (fun _ => ?_)
    · exact q _ _ ⟨_, rfl, rfl⟩
    · exact q _ _ ⟨_, rfl, rfl⟩
def C_law_rule : Con := Con.nd (fun _ : Unit => [.feed]) (fun _ t => t ≤ 9800) (fun _ t d t' => ∃ r : Rl, d = dRule r ∧ r.Ok ∧ t' = t + 6)
theorem rb_by {n : Nat} {a b : Int} (ha : Bd n a) (hb : Bd n b) (h0 : 0 < b) : RB n ((a : Rat) / (b : Rat)) := rb_of ha hb (by omega)
abbrev s_law_rule : Stmt := topS 69
abbrev N_law_rule : List Str := ["_law_feed_here", "_law_half", "_law_side", "_law_ending", "_law_joining"]
theorem sc_law_rule : FnScope ["_law_feed_here", "_law_half", "_law_side", "_law_ending", "_law_joining"] ["_law_feed_here"] (defScope s_law_rule) := ⟨rfl, rfl, rfl, by decide +kernel, rfl, by decide +kernel, by decide +kernel⟩
theorem ok_law_rule (N : Dn K mg "_law_rule" s_law_rule ["_law_feed_here"]) (c_law_fraction : Cal P w K mg base 1 "_law_fraction" (LSp K C_law_fraction) []) (c_law_draw : Cal P w K mg base 1 "_law_draw" (LSp K C_law_draw) []) : Cal P w K mg base 2 "_law_rule" (LSp K C_law_rule) [] := by
  refine N.ok sc_law_rule ?_ (fun f cdv A outer s H E hr => (pss_cons (ps_set (i := 1) sc_law_rule.nd rfl (.inl rfl) (pe_c c_law_fraction hr (by decide) (by rfl) (pa_cons (pe_ix ix_A (pe_lst (pa_cons pe_int (pa_cons pe_int (pa_cons pe_int (pa_cons pe_int (pa_cons pe_int (pa_cons pe_int (pa_cons pe_int pa_nil)))))))) (pe_c c_law_draw hr (by decide) (by rfl) (pa_cons (pv 0) (pa_cons pe_int pa_nil))) (fun _ _ => rfl)) (pa_cons (pe_ix ix_A (pe_lst (pa_cons pe_int (pa_cons pe_int (pa_cons pe_int (pa_cons pe_int pa_nil))))) (pe_c c_law_draw hr (by decide) (by rfl) (pa_cons (pv 0) (pa_cons pe_int pa_nil))) (fun _ _ => rfl)) pa_nil))))
      (pss_cons (ps_set (i := 2) sc_law_rule.nd rfl (.inl rfl) (pe_ix ix_A (pe_lst (pa_cons pe_str (pa_cons pe_str (pa_cons pe_str (pa_cons pe_str pa_nil))))) (pe_c c_law_draw hr (by decide) (by rfl) (pa_cons (pv 0) (pa_cons pe_int pa_nil))) (fun _ _ => rfl)))
      (pss_cons (ps_set (i := 3) sc_law_rule.nd rfl (.inl rfl) (pe_ix ix_A (pe_lst (pa_cons pe_str (pa_cons pe_str (pa_cons pe_str pa_nil)))) (pe_c c_law_draw hr (by decide) (by rfl) (pa_cons (pv 0) (pa_cons pe_int pa_nil))) (fun _ _ => rfl)))
      (pss_cons (ps_set (i := 4) sc_law_rule.nd rfl (.inl rfl) (pe_ix ix_A (pe_lst (pa_cons pe_str (pa_cons pe_str (pa_cons pe_str (pa_cons pe_str pa_nil))))) (pe_c c_law_draw hr (by decide) (by rfl) (pa_cons (pv 0) (pa_cons pe_int pa_nil))) (fun _ _ => rfl)))
      (pss_one (ps_ret (pe_tup (pa_cons (pv 1) (pa_cons (pv 2) (pa_cons (pv 3) (pa_cons (pv 4) (pa_cons (pe_ix ix_A (pe_lst (pa_cons (pe_tup (pa_cons pe_int (pa_cons pe_int pa_nil))) (pa_cons (pe_tup (pa_cons pe_int (pa_cons pe_int pa_nil))) (pa_cons (pe_tup (pa_cons pe_int (pa_cons pe_int pa_nil))) (pa_cons (pe_tup (pa_cons pe_int (pa_cons pe_int pa_nil))) (pa_cons (pe_tup (pa_cons pe_int (pa_cons pe_int pa_nil))) pa_nil)))))) (pe_c c_law_draw hr (by decide) (by rfl) (pa_cons (pv 0) (pa_cons pe_int pa_nil))) (fun _ _ => rfl)) pa_nil)))))))))))))
    (sns_seq (sns_asg (sn_call (C := C_law_fraction) (sna_cons (sn_op snr_ix (sn_lst (sna_cons sn_int (sna_cons sn_int (sna_cons sn_int (sna_cons sn_int (sna_cons sn_int (sna_cons sn_int (sna_cons sn_int sna_nil)))))))) (sn_call (C := C_law_draw) (sna_cons (sn_var (i := 0)) (sna_cons sn_int sna_nil)))) (sna_cons (sn_op snr_ix (sn_lst (sna_cons sn_int (sna_cons sn_int (sna_cons sn_int (sna_cons sn_int sna_nil))))) (sn_call (C := C_law_draw) (sna_cons (sn_var (i := 0)) (sna_cons sn_int sna_nil)))) sna_nil))) (sng_name (i := 1)))
      (sns_seq (sns_asg (sn_op snr_ix (sn_lst (sna_cons sn_str (sna_cons sn_str (sna_cons sn_str (sna_cons sn_str sna_nil))))) (sn_call (C := C_law_draw) (sna_cons (sn_var (i := 0)) (sna_cons sn_int sna_nil)))) (sng_name (i := 2)))
      (sns_seq (sns_asg (sn_op snr_ix (sn_lst (sna_cons sn_str (sna_cons sn_str (sna_cons sn_str sna_nil)))) (sn_call (C := C_law_draw) (sna_cons (sn_var (i := 0)) (sna_cons sn_int sna_nil)))) (sng_name (i := 3)))
      (sns_seq (sns_asg (sn_op snr_ix (sn_lst (sna_cons sn_str (sna_cons sn_str (sna_cons sn_str (sna_cons sn_str sna_nil))))) (sn_call (C := C_law_draw) (sna_cons (sn_var (i := 0)) (sna_cons sn_int sna_nil)))) (sng_name (i := 4)))
      (sns_ret (sn_tup (sna_cons (sn_var (i := 1)) (sna_cons (sn_var (i := 2)) (sna_cons (sn_var (i := 3)) (sna_cons (sn_var (i := 4)) (sna_cons (sn_op snr_ix (sn_lst (sna_cons (sn_tup (sna_cons sn_int (sna_cons sn_int sna_nil))) (sna_cons (sn_tup (sna_cons sn_int (sna_cons sn_int sna_nil))) (sna_cons (sn_tup (sna_cons sn_int (sna_cons sn_int sna_nil))) (sna_cons (sn_tup (sna_cons sn_int (sna_cons sn_int sna_nil))) (sna_cons (sn_tup (sna_cons sn_int (sna_cons sn_int sna_nil))) sna_nil)))))) (sn_call (C := C_law_draw) (sna_cons (sn_var (i := 0)) (sna_cons sn_int sna_nil)))) sna_nil))))))))))) ?_
  · exact Con.lenN fun _ => rfl
  · rintro ds t Q ⟨_, rfl, ht, q⟩
    have ht : t ≤ 9800 := ht
    refine draw (by decide) (by decide) (by omega) fun r1 a1 b1 => ?_
    refine pick a1 b1 fun d hd => ?_
    obtain ⟨m, rfl, m1, m2⟩ : ∃ m, d = .int m ∧ 1 ≤ m ∧ m ≤ 13 := by
      simp only [List.mem_cons, List.not_mem_nil, or_false] at hd
      rcases hd with rfl | rfl | rfl | rfl | rfl | rfl | rfl
      · exact ⟨1, rfl, by decide, by decide⟩
      · exact ⟨1, rfl, by decide, by decide⟩
      · exact ⟨1, rfl, by decide, by decide⟩
      · exact ⟨5, rfl, by decide, by decide⟩
      · exact ⟨2, rfl, by decide, by decide⟩
      · exact ⟨3, rfl, by decide, by decide⟩
      · exact ⟨13, rfl, by decide, by decide⟩
    refine draw (by decide) (by decide) (by omega) fun r2 a2 b2 => ?_
    refine pick a2 b2 fun d hd => ?_
    obtain ⟨n, rfl, n1, n2⟩ : ∃ m, d = .int m ∧ 1 ≤ m ∧ m ≤ 5 := by
      simp only [List.mem_cons, List.not_mem_nil, or_false] at hd
      rcases hd with rfl | rfl | rfl | rfl
      · exact ⟨1, rfl, by decide, by decide⟩
      · exact ⟨2, rfl, by decide, by decide⟩
      · exact ⟨5, rfl, by decide, by decide⟩
      · exact ⟨4, rfl, by decide, by decide⟩
    have mB : Bd 5 m := bdN (by omega) (by omega)
    have nB : Bd 5 n := bdN (by omega) (by omega)
    have hB : RB 20 ((m : Rat) / (n : Rat)) := (rb_of mB nB (by omega)).mono (by decide)
    have hp : 0 < ((m : Rat) / (n : Rat)) := by
      have h1 : 0 < (m : Rat) := Rat.intCast_pos.mpr (by omega)
      have h2 : 0 < (n : Rat) := Rat.intCast_pos.mpr (by omega)
      rw [Rat.div_def]
      exact Rat.mul_pos h1 (Rat.inv_pos.mpr h2)
    refine ⟨(m, n), rfl, ⟨by show n ≠ 0; omega, mB.mono (by decide), nB.mono (by decide)⟩, ?_⟩
    refine draw (by decide) (by decide) (by omega) fun r3 a3 b3 => ?_
    refine pick a3 b3 fun d hd => ?_
    obtain ⟨s, rfl⟩ : ∃ s, d = .str (sideS s) := by
      simp only [List.mem_cons, List.not_mem_nil, or_false] at hd
      rcases hd with rfl | rfl | rfl | rfl
      · exact ⟨.both, rfl⟩
      · exact ⟨.both, rfl⟩
      · exact ⟨.left, rfl⟩
      · exact ⟨.right, rfl⟩
    refine draw (by decide) (by decide) (by omega) fun r4 a4 b4 => ?_
    refine pick a4 b4 fun d hd => ?_
    obtain ⟨e, rfl⟩ : ∃ s, d = .str (endS s) := by
      simp only [List.mem_cons, List.not_mem_nil, or_false] at hd
      rcases hd with rfl | rfl | rfl
      · exact ⟨.cut, rfl⟩
      · exact ⟨.square, rfl⟩
      · exact ⟨.round, rfl⟩
    refine draw (by decide) (by decide) (by omega) fun r5 a5 b5 => ?_
    refine pick a5 b5 fun d hd => ?_
    obtain ⟨j, rfl⟩ : ∃ s, d = .str (joinS s) := by
      simp only [List.mem_cons, List.not_mem_nil, or_false] at hd
      rcases hd with rfl | rfl | rfl | rfl
      · exact ⟨.cut, rfl⟩
      · exact ⟨.pointed, rfl⟩
      · exact ⟨.pointed, rfl⟩
      · exact ⟨.round, rfl⟩
    refine draw (by decide) (by decide) (by omega) fun r6 a6 b6 => ?_
    refine pick a6 b6 fun d hd => ?_
    obtain ⟨b, rfl, bB, b1⟩ : ∃ b : Rat, d = dR b ∧ RB 20 b ∧ 1 ≤ b := by
      simp only [List.mem_cons, List.not_mem_nil, or_false] at hd
      have z : ∀ k : Int, Bd 20 k → RB 20 (k : Rat) := fun k hk => rb_int hk (by decide)
      rcases hd with rfl | rfl | rfl | rfl | rfl
      · exact ⟨((1 : Int) : Rat), rfl, z _ (by unfold Bd; decide), by decide⟩
      · exact ⟨((2 : Int) : Rat), rfl, z _ (by unfold Bd; decide), by decide⟩
      · exact ⟨((4 : Int) : Rat), rfl, z _ (by unfold Bd; decide), by decide⟩
      · exact ⟨⟨3, 2, by decide, by decide⟩, rfl, ⟨by unfold Bd; decide, by unfold Bd; decide⟩, by decide⟩
      · exact ⟨((20 : Int) : Rat), rfl, z _ (by unfold Bd; decide), by decide⟩
    exact q _ _ ⟨⟨(m : Rat) / (n : Rat), s, e, j, b⟩, rfl, ⟨hp, hB, bB, b1⟩, rfl⟩
/-! ### pieces along ways -/
theorem pce {a b u : Pt} {L : Rat} (W : Wy u L) (h : b = addP a (L * u.x) (L * u.y)) (ba : PB 90 a) (bb : PB 90 b) : PcE (a, b) := by
  refine ⟨u, L, W.pos, ?_, ?_, W.one, W.bu, W.bL.mono (by decide), ba, bb⟩
  · rw [h]; rfl
  · rw [h]; rfl
theorem pce_rev {a b : Pt} (h : PcE (a, b)) : PcE (b, a) := by
  obtain ⟨u, L, c⟩ := h
  exact ⟨negP u, L, pc_rev c⟩
/-- places of so many bits -/
def CB (n : Nat) (p : Pt) : Prop := RB n p.x ∧ RB n p.y
theorem CB.pb {n : Nat} {p : Pt} (h : CB n p) : PB (n + n) p := pb_of h.1 h.2
theorem CB.add {n m : Nat} {p : Pt} {x y : Rat} (h : CB n p) (hx : RB m x) (hy : RB m y) : CB (n + m + 1) (addP p x y) := ⟨h.1.add hx, h.2.add hy⟩
end
end DL


/-! ## V12 -/
set_option maxRecDepth 100000
set_option maxHeartbeats 4000000
/-! open lines -/
namespace DL
open PySem PySem.Spec PyProof.Rows L2
open C8 (Cal pe_c pe_gc)
open W15
section
variable {P : Program} {w : World} {K : PySem.W.Frag} {mg : Str → Option Value} {base : Heap}
/-- what is found of an open line: m ways so far -/
structure OL (pts : List Pt) (ws : List (Pt × Rat)) : Prop where
  len : pts.length = ws.length + 1
  cb : ∀ p ∈ pts, CB (5 + 13 * ws.length) p
  wy : ∀ e ∈ ws, Wy e.1 e.2
  pc : ∀ e ∈ pts.zip pts.tail, PcE e
theorem zip_snoc : ∀ (pts : List Pt) (p x : Pt), (pts ++ [p] ++ [x]).zip (pts ++ [p] ++ [x]).tail = (pts ++ [p]).zip (pts ++ [p]).tail ++ [(p, x)]
  | [], p, x => rfl
  | [a], p, x => rfl
  | a :: b :: pts, p, x => by
    have := zip_snoc (b :: pts) p x
    simp only [List.cons_append, List.tail_cons, List.zip_cons_cons] at *
    rw [this]
theorem OL.add {pts : List Pt} {p : Pt} {ws : List (Pt × Rat)} (h : OL (pts ++ [p]) ws) {u : Pt} {L : Rat} (W : Wy u L) (hl : ws.length ≤ 2) : OL (pts ++ [p] ++ [addP p (L * u.x) (L * u.y)]) (ws ++ [(u, L)]) := by
  have cp := h.cb p (by simp)
  have cn := (cp.add W.bx W.bY)
  have mono : ∀ {n m : Nat} {p : Pt}, CB n p → n ≤ m → CB m p := fun h l => ⟨h.1.mono l, h.2.mono l⟩
  have len : (ws ++ [(u, L)]).length = ws.length + 1 := by rw [List.length_append]; rfl
  refine ⟨by rw [List.length_append, h.len, len]; rfl, fun x hx => ?_, fun e he => ?_, fun e he => ?_⟩
  · rw [len]
    rcases List.mem_append.mp hx with hx | hx
    · exact mono (h.cb x hx) (by omega)
    · rw [List.mem_singleton.mp hx]
      exact mono cn (by omega)
  · rcases List.mem_append.mp he with he | he
    · exact h.wy e he
    · rw [List.mem_singleton.mp he]
      exact W
  · rw [zip_snoc] at he
    rcases List.mem_append.mp he with he | he
    · exact h.pc e he
    · rw [List.mem_singleton.mp he]
      exact pce W rfl ((cp.pb).mono (by omega)) ((cn.pb).mono (by omega))
theorem nil_ok : ∀ {ws : List (Pt × Rat)}, ws.length ≤ 3 → ∃ ps, pysOf (ws.map fun w => dW w.1 w.2) = some ps ∧ PySem.SeqAt.shaped (.list ps) = true
  | [], _ => ⟨_, rfl, rfl⟩
  | [_], _ => ⟨_, rfl, rfl⟩
  | [_, _], _ => ⟨_, rfl, rfl⟩
  | [_, _, _], _ => ⟨_, rfl, rfl⟩
  | _ :: _ :: _ :: _ :: r, h => absurd h (by simp only [List.length_cons]; omega)
theorem wy_neg {u : Pt} {L : Rat} (h : Wy u L) : Wy (negP u) L := by
  have e1 : L * (negP u).x = -(L * u.x) := by unfold negP; grind
  have e2 : L * (negP u).y = -(L * u.y) := by unfold negP; grind
  exact ⟨h.pos, by have := h.one; unfold negP; grind, ⟨h.bu.1.neg, h.bu.2.neg⟩, h.bL, by rw [e1]; exact h.bx.neg, by rw [e2]; exact h.bY.neg⟩
theorem OL.ok {pts : List Pt} {ws : List (Pt × Rat)} (h : OL pts ws) (h1 : 1 ≤ ws.length) (h3 : ws.length ≤ 3) : Ln.Ok ⟨false, pts⟩ := by
  refine ⟨fun e he => ?_, ?_, ?_⟩
  · have he : e ∈ pts.zip pts.tail ++ [] := he
    rw [List.append_nil] at he
    exact h.pc e he
  · have := h.len
    show 2 ≤ pts.length
    omega
  · have := h.len
    show pts.length ≤ 9
    omega
def C_law_open_line : Con := Con.nd (fun _ : Unit => [.feed, .int 4]) (fun _ t => t ≤ 9500) (fun _ t d t' => ∃ l : Ln, d = dLine l ∧ l.Ok ∧ t' ≤ t + 100)
abbrev s_law_open_line : Stmt := topS 65
abbrev N_law_open_line : List Str := ["_law_feed_here", "_law_most_here", "_law_found", "_law_ways_here", "_law_k", "_law_way_here"]
theorem sc_law_open_line : FnScope ["_law_feed_here", "_law_most_here", "_law_found", "_law_ways_here", "_law_k", "_law_way_here"] ["_law_feed_here", "_law_most_here"] (defScope s_law_open_line) := ⟨rfl, rfl, rfl, by decide +kernel, rfl, by decide +kernel, by decide +kernel⟩
theorem ok_law_open_line (N : Dn K mg "_law_open_line" s_law_open_line ["_law_feed_here", "_law_most_here"]) (B : Bt mg) (c_law_place : Cal P w K mg base 3 "_law_place" (LSp K C_law_place) []) (c_law_way : Cal P w K mg base 3 "_law_way" (LSp K C_law_way) []) (c_law_draw : Cal P w K mg base 1 "_law_draw" (LSp K C_law_draw) []) (c_law_minus : Cal P w K mg base 1 "_law_minus" (LSp K C_law_minus) []) (c_law_goes_on : Cal P w K mg base 3 "_law_goes_on" (LSp K C_law_goes_on) []) (c_law_gone : Cal P w K mg base 3 "_law_gone" (LSp K C_law_gone) []) : Cal P w K mg base 4 "_law_open_line" (LSp K C_law_open_line) [] := by
  refine N.ok sc_law_open_line ?_ (fun f cdv A outer s H E hr => (pss_cons (ps_set (i := 2) sc_law_open_line.nd rfl (.inl rfl) (pe_lst (pa_cons (pe_c c_law_place hr (by decide) (by rfl) (pa_cons (pv 0) pa_nil)) pa_nil)))
      (pss_cons (ps_set (i := 3) sc_law_open_line.nd rfl (.inl rfl) (pe_lst pa_nil))
      (pss_cons (ps_for PassesOwn.never rfl (pi_range1 (by rfl) B.range (pa_cons (pe_op op_addA pe_int (pe_c c_law_draw hr (by decide) (by rfl) (pa_cons (pv 0) (pa_cons (pe_op op_sub (pv 1) pe_int) pa_nil)))) pa_nil)) (pg_name (i := 4) sc_law_open_line.nd rfl (.inl rfl)) (pss_cons (ps_set (i := 5) sc_law_open_line.nd rfl (.inl rfl) (pe_c c_law_way hr (by decide) (by rfl) (pa_cons (pv 0) pa_nil)))
      (pss_cons (ps_if (PW.pt (pw_and (pt_cmpR (op_neA hr.units) (pv 3) (pe_lst pa_nil) (nomark _)) (pw_and1 (pt_cmpR (op_eqA hr.units) (pe_c c_law_draw hr (by decide) (by rfl) (pa_cons (pv 0) (pa_cons pe_int pa_nil))) pe_int (nomark _))))) (pss_one (ps_set (i := 5) sc_law_open_line.nd rfl (.inl rfl) (pe_lst (pa_cons (pe_c c_law_minus hr (by decide) (by rfl) (pa_cons (pe_ix ix_A (pe_ix ix_A (pv 3) (pe_un un_neg pe_int) (fun _ _ => rfl)) pe_int (fun _ _ => rfl)) pa_nil)) (pa_cons (pe_c c_law_minus hr (by decide) (by rfl) (pa_cons (pe_ix ix_A (pe_ix ix_A (pv 3) (pe_un un_neg pe_int) (fun _ _ => rfl)) pe_int (fun _ _ => rfl)) pa_nil)) (pa_cons (pe_ix ix_A (pe_ix ix_A (pv 3) (pe_un un_neg pe_int) (fun _ _ => rfl)) pe_int (fun _ _ => rfl)) pa_nil)))))) pss_nil)
      (pss_one (ps_if (PW.pt (pw_or (pt_cmpR (op_eqA hr.units) (pv 3) (pe_lst pa_nil) (nomark _)) (pw_or1 (pt_not (pt_val (pe_c c_law_goes_on hr (by decide) (by rfl) (pa_cons (pe_ix ix_A (pv 3) (pe_un un_neg pe_int) (fun _ _ => rfl)) (pa_cons (pv 5) pa_nil)))))))) (pss_cons (ps_expr (pe_bm PySem.F.plainAttrs_list PySem.F.slot_list_append PySem.F.type_list_append mt_append (pv 3) (pa_cons (pv 5) pa_nil)))
      (pss_one (ps_expr (pe_bm PySem.F.plainAttrs_list PySem.F.slot_list_append PySem.F.type_list_append mt_append (pv 2) (pa_cons (pe_c c_law_gone hr (by decide) (by rfl) (pa_cons (pe_ix ix_A (pv 2) (pe_un un_neg pe_int) (fun _ _ => rfl)) (pa_cons (pe_ix ix_A (pv 5) pe_int (fun _ _ => rfl)) (pa_cons (pe_ix ix_A (pv 5) pe_int (fun _ _ => rfl)) pa_nil)))) pa_nil))))) pss_nil)))))
      (pss_one (ps_ret (pe_tup (pa_cons pe_bl (pa_cons (pe_callTy call_tuple_of (by rfl) B.tuple (by decide +kernel) (pa_cons (pv 2) pa_nil)) pa_nil)))))))))
    (sns_seq (sns_ownLst (i := 2) (sna_cons (sn_call (C := C_law_place) (sna_cons (sn_var (i := 0)) sna_nil)) sna_nil))
      (sns_seq (sns_ownLst (i := 3) sna_nil)
      (sns_seq (sns_for (sni_rng (sna_cons (sn_op snr_add sn_int (sn_call (C := C_law_draw) (sna_cons (sn_var (i := 0)) (sna_cons (sn_op snr_I (sn_var (i := 1)) sn_int) sna_nil)))) sna_nil)) (sng_name (i := 4)) (sns_seq (sns_asg (sn_call (C := C_law_way) (sna_cons (sn_var (i := 0)) sna_nil)) (sng_name (i := 5)))
      (sns_seq (sns_if (snt_and (snt_test (sn_nilOn (i := 3))) (snt_test (sn_op snr_eq (sn_call (C := C_law_draw) (sna_cons (sn_var (i := 0)) (sna_cons sn_int sna_nil))) sn_int))) (sns_asg (sn_lst (sna_cons (sn_call (C := C_law_minus) (sna_cons (sn_op snr_ix (sn_ixO (i := 3) (sn_un snu_neg sn_int)) sn_int) sna_nil)) (sna_cons (sn_call (C := C_law_minus) (sna_cons (sn_op snr_ix (sn_ixO (i := 3) (sn_un snu_neg sn_int)) sn_int) sna_nil)) (sna_cons (sn_op snr_ix (sn_ixO (i := 3) (sn_un snu_neg sn_int)) sn_int) sna_nil)))) (sng_name (i := 5))) sns_nil)
      (sns_if (snt_or (snt_test (sn_nilOe (i := 3))) (snt_not (snt_B (sn_call (C := C_law_goes_on) (sna_cons (sn_ixO (i := 3) (sn_un snu_neg sn_int)) (sna_cons (sn_var (i := 5)) sna_nil)))))) (sns_seq (sns_app (i := 3) (sn_var (i := 5)))
      (sns_app (i := 2) (sn_call (C := C_law_gone) (sna_cons (sn_ixO (i := 2) (sn_un snu_neg sn_int)) (sna_cons (sn_op snr_ix (sn_var (i := 5)) sn_int) (sna_cons (sn_op snr_ix (sn_var (i := 5)) sn_int) sna_nil)))))) sns_nil))))
      (sns_frz (i := 2) (sns_ret (sn_tup (sna_cons sn_bl (sna_cons (sn_cb snc_tuple (sna_cons (sn_var (i := 2)) sna_nil)) sna_nil)))))))) ?_
  · exact Con.lenN fun _ => rfl
  · rintro ds t Q ⟨_, rfl, ht, q⟩
    have ht : t ≤ 9500 := ht
    refine ⟨(), rfl, by show t ≤ 9800; omega, ?_⟩
    rintro _ _ ⟨p0, rfl, hx, hy, rfl⟩
    refine draw (by decide) (by decide) (by omega) fun n a1 b1 => ?_
    refine ⟨⟨by show (-1000 : Int) ≤ 1 + n; omega, by show 1 + n ≤ 1000; omega⟩, ?_⟩
    show forW _ _ _ ((List.range (1 + n).toNat).map fun (k : Nat) => D.int (k : Int)) [Sl.dat .feed, Sl.dat (.int 4), Sl.own ([p0].map dP), Sl.own (([] : List (Pt × Rat)).map fun w => dW w.1 w.2), Sl.no, Sl.no] (t + 8 + 1)
    have hn : (List.range (1 + n).toNat).length ≤ 3 := by rw [List.length_range]; omega
    have hn1 : 1 ≤ (List.range (1 + n).toNat).length := by rw [List.length_range]; omega
    generalize List.range (1 + n).toNat = ks at *
    have O0 : OL ([] ++ [p0]) [] := ⟨rfl, fun p hp => by
      have : p = p0 := by simpa using hp
      rw [this]
      exact ⟨hx, hy⟩, fun e he => (by cases he), fun e he => (by cases he)⟩
    refine (?_ : ∀ (ks : List Nat) (pts : List Pt) (p : Pt) (ws : List (Pt × Rat)) (s4 s5 : Sl) (t1 : Nat), OL (pts ++ [p]) ws → ws.length + ks.length ≤ 3 → 1 ≤ ws.length + ks.length → t1 + 20 * ks.length ≤ t + 80 →
      forW _ _ _ (ks.map fun (k : Nat) => D.int (k : Int)) [Sl.dat .feed, Sl.dat (.int 4), Sl.own ((pts ++ [p]).map dP), Sl.own (ws.map fun w => dW w.1 w.2), s4, s5] t1) ks [] p0 [] Sl.no Sl.no (t + 8 + 1) O0 (by rw [List.length_nil]; omega) (by rw [List.length_nil]; omega) (by omega)
    intro ks
    induction ks with
    | nil =>
      intro pts p ws s4 s5 t1 O h3 h1 hT
      have h3 : ws.length ≤ 3 := h3
      have h1 : 1 ≤ ws.length := h1
      exact q _ _ ⟨⟨false, pts ++ [p]⟩, rfl, O.ok h1 h3, by have hT : t1 + 0 ≤ t + 80 := hT; omega⟩
    | cons k ks ih =>
      intro pts p ws s4 s5 t1 O h3 h1 hT
      have h3 : ws.length + (ks.length + 1) ≤ 3 := h3
      have hT : t1 + 20 * (ks.length + 1) ≤ t + 80 := hT
      refine ⟨(), rfl, by show t1 ≤ 9800; omega, ?_⟩
      rintro _ _ ⟨u, L, rfl, W, rfl⟩
      have cp := O.cb p (by simp)
      have bp : PB 100 p := (cp.pb).mono (by omega)
      cases ws with
      | nil =>
        have h3 : 0 + (ks.length + 1) ≤ 3 := h3
        refine ⟨nil_ok (ws := []) (by decide), ?_⟩
        refine ⟨nil_ok (ws := []) (by decide), ?_⟩
        refine ⟨by decide, ?_⟩
        refine opD_mk (d := dP p) (by rw [List.map_append]; exact atD_neg1) ⟨(p, L * u.x, L * u.y), rfl, gb bp W.bx W.bY (by decide), by rw [List.length_map, O.len]; decide, ?_⟩
        refine (?_ : ∀ A : List D, A = (pts ++ [p] ++ [addP p (L * u.x) (L * u.y)]).map dP → forW _ _ _ (ks.map fun (k : Nat) => D.int (k : Int)) [Sl.dat .feed, Sl.dat (.int 4), Sl.own A, Sl.own (([(u, L)] : List (Pt × Rat)).map fun w => dW w.1 w.2), _, _] _) _ (by rw [List.map_append (l₁ := pts ++ [p])]; rfl)
        rintro _ rfl
        exact ih (pts ++ [p]) _ [(u, L)] _ _ _ (O.add (ws := []) W (by decide)) (by show 1 + ks.length ≤ 3; omega) (by show 1 ≤ 1 + ks.length; omega) (by omega)
      | cons w0 ws1 =>
        have hw : (w0 :: ws1).length ≤ 2 := by
          have h3 : (w0 :: ws1).length + (ks.length + 1) ≤ 3 := h3
          omega
        have hwk : (w0 :: ws1).length + (ks.length + 1) ≤ 3 := h3
        have hw1 : 1 ≤ (w0 :: ws1).length := by rw [List.length_cons]; omega
        obtain ⟨u0, L0, W0, A0⟩ : ∃ u0 L0, Wy u0 L0 ∧ atD ((w0 :: ws1).map fun w => dW w.1 w.2) (-1) = some (dW u0 L0) := by
          rcases List.eq_nil_or_concat (w0 :: ws1) with h | ⟨i, x, h⟩
          · cases h
          · refine ⟨x.1, x.2, O.wy x (by rw [h]; simp), ?_⟩
            rw [h, List.map_concat, List.concat_eq_append]
            exact atD_neg1
        refine ⟨nil_ok (ws := w0 :: ws1) (by omega), ?_⟩
        refine draw (by decide) (by decide) (by omega) fun r a2 b2 => ?_
        show if decide (r = 0) = true then _ else _
        refine ite2 (fun _ => ?_) (fun _ => ?_)
        · refine opD_mk A0 ⟨L0 * u0.x, rfl, trivial, opD_mk A0 ⟨L0 * u0.y, rfl, trivial, opD_mk A0 ?_⟩⟩
          have e1 : -(L0 * u0.x) = L0 * (negP u0).x := by unfold negP; grind
          have e2 : -(L0 * u0.y) = L0 * (negP u0).y := by unfold negP; grind
          have ed : D.lst [dR (-(L0 * u0.x)), dR (-(L0 * u0.y)), dR L0] = dW (negP u0) L0 := by rw [e1, e2]; rfl
          have W := wy_neg W0
          refine ⟨nil_ok (ws := w0 :: ws1) (by omega), ?_⟩
          refine opD_mk A0 ⟨((u0, L0), (negP u0, L0)), (by show [dW u0 L0, D.lst [dR (-(L0 * u0.x)), dR (-(L0 * u0.y)), dR L0]] = [dW u0 L0, dW (negP u0) L0]; rw [ed]), ⟨W0, W⟩, ?_⟩
          rintro _ _ ⟨b, rfl, rfl⟩
          cases b with
          | true => exact ih pts p (w0 :: ws1) _ _ _ O (by omega) (by omega) (by omega)
          | false =>
            refine ⟨by rw [List.length_map]; omega, ?_⟩
            refine opD_mk (d := dP p) (by rw [List.map_append]; exact atD_neg1) ⟨(p, -(L0 * u0.x), -(L0 * u0.y)), rfl, gb bp W0.bx.neg W0.bY.neg (by decide), by rw [List.length_map, O.len]; omega, ?_⟩
            refine (?_ : ∀ A B : List D, A = (pts ++ [p] ++ [addP p (L0 * (negP u0).x) (L0 * (negP u0).y)]).map dP → B = ((w0 :: ws1) ++ [(negP u0, L0)]).map (fun w => dW w.1 w.2) → forW _ _ _ (ks.map fun (k : Nat) => D.int (k : Int)) [Sl.dat .feed, Sl.dat (.int 4), Sl.own A, Sl.own B, _, _] _) _ _ (by rw [← e1, ← e2, List.map_append (l₁ := pts ++ [p])]; rfl) (by rw [List.map_append]; exact congrArg (fun x => List.map (fun w : Pt × Rat => dW w.1 w.2) (w0 :: ws1) ++ [x]) ed)
            rintro _ _ rfl rfl
            exact ih (pts ++ [p]) _ ((w0 :: ws1) ++ [(negP u0, L0)]) _ _ _ (O.add W (by omega)) (by rw [List.length_append]; show (w0 :: ws1).length + 1 + ks.length ≤ 3; omega) (by rw [List.length_append]; show 1 ≤ (w0 :: ws1).length + 1 + ks.length; omega) (by omega)
        · skip
          refine ⟨nil_ok (ws := w0 :: ws1) (by omega), ?_⟩
          refine opD_mk A0 ⟨((u0, L0), (u, L)), rfl, ⟨W0, W⟩, ?_⟩
          rintro _ _ ⟨b, rfl, rfl⟩
          cases b with
          | true => exact ih pts p (w0 :: ws1) _ _ _ O (by omega) (by omega) (by omega)
          | false =>
            refine ⟨by rw [List.length_map]; omega, ?_⟩
            refine opD_mk (d := dP p) (by rw [List.map_append]; exact atD_neg1) ⟨(p, L * u.x, L * u.y), rfl, gb bp (W).bx (W).bY (by decide), by rw [List.length_map, O.len]; omega, ?_⟩
            refine (?_ : ∀ A B : List D, A = (pts ++ [p] ++ [addP p (L * u.x) (L * u.y)]).map dP → B = ((w0 :: ws1) ++ [(u, L)]).map (fun w => dW w.1 w.2) → forW _ _ _ (ks.map fun (k : Nat) => D.int (k : Int)) [Sl.dat .feed, Sl.dat (.int 4), Sl.own A, Sl.own B, _, _] _) _ _ (by rw [List.map_append (l₁ := pts ++ [p])]; rfl) (by rw [List.map_append]; rfl)
            rintro _ _ rfl rfl
            exact ih (pts ++ [p]) _ ((w0 :: ws1) ++ [(u, L)]) _ _ _ (O.add W (by omega)) (by rw [List.length_append]; show (w0 :: ws1).length + 1 + ks.length ≤ 3; omega) (by rw [List.length_append]; show 1 ≤ (w0 :: ws1).length + 1 + ks.length; omega) (by omega)
end
end DL


/-! ## V13 -/
set_option maxRecDepth 100000
set_option maxHeartbeats 4000000
/-! closed lines, folded lines -/
namespace DL
open PySem PySem.Spec PyProof.Rows L2
open C8 (Cal pe_c pe_gc)
open W15
section
variable {P : Program} {w : World} {K : PySem.W.Frag} {mg : Str → Option Value} {base : Heap}
theorem ok3 {a b c : Pt} (h1 : PcE (a, b)) (h2 : PcE (b, c)) (h3 : PcE (c, a)) : Ln.Ok ⟨true, [a, b, c]⟩ := by
  refine ⟨fun e he => ?_, by show 2 ≤ 3; decide, by show 3 ≤ 9; decide⟩
  have he : e ∈ [(a, b), (b, c), (c, a)] := he
  simp only [List.mem_cons, List.not_mem_nil, or_false] at he
  rcases he with rfl | rfl | rfl
  · exact h1
  · exact h2
  · exact h3
theorem ok4 {a b c d : Pt} (h1 : PcE (a, b)) (h2 : PcE (b, c)) (h3 : PcE (c, d)) (h4 : PcE (d, a)) : Ln.Ok ⟨true, [a, b, c, d]⟩ := by
  refine ⟨fun e he => ?_, by show 2 ≤ 4; decide, by show 4 ≤ 9; decide⟩
  have he : e ∈ [(a, b), (b, c), (c, d), (d, a)] := he
  simp only [List.mem_cons, List.not_mem_nil, or_false] at he
  rcases he with rfl | rfl | rfl | rfl
  · exact h1
  · exact h2
  · exact h3
  · exact h4
theorem CB.m {n m : Nat} {p : Pt} (h : CB n p) (l : n ≤ m) : CB m p := ⟨h.1.mono l, h.2.mono l⟩
theorem addP_comm2 (p : Pt) (a b c d : Rat) : addP (addP p a b) c d = addP (addP p c d) a b := by
  apply pt_ext <;> simp only [addP] <;> grind
theorem para_ok {s u v : Pt} {L M : Rat} (hs : CB 5 s) (W : Wy u L) (V : Wy v M) : Ln.Ok ⟨true, [s, addP s (L * u.x) (L * u.y), addP (addP s (L * u.x) (L * u.y)) (M * v.x) (M * v.y), addP s (M * v.x) (M * v.y)]⟩ := by
  have hk := hs.add W.bx W.bY
  have he := hk.add V.bx V.bY
  have hl := hs.add V.bx V.bY
  have b : ∀ {n : Nat} {p : Pt}, CB n p → n ≤ 45 → PB 90 p := fun h l => (h.pb).mono (by omega)
  exact ok4 (pce W rfl (b hs (by decide)) (b hk (by decide))) (pce V rfl (b hk (by decide)) (b he (by decide)))
    (pce_rev (pce W (addP_comm2 _ _ _ _ _) (b hl (by decide)) (b he (by decide)))) (pce_rev (pce V rfl (b hs (by decide)) (b hl (by decide))))
theorem wy_of {a b h : Int} (ha : -5 ≤ a ∧ a ≤ 5) (hb : -5 ≤ b ∧ b ≤ 5) (hh : 1 ≤ h ∧ h ≤ 5) (e : a * a + b * b = h * h) {s : Rat} (hs : 0 < s) (hB : RB 5 s) :
    ∃ u L, Wy u L ∧ (a : Rat) * s = L * u.x ∧ (b : Rat) * s = L * u.y := by
  obtain ⟨u, L, W, e1, e2, _⟩ := way_ok (p := a) (q := b) (h := h) ⟨by omega, by omega, by omega, by omega, by omega, by omega, e⟩ hs (hB.mono (by decide))
  exact ⟨u, L, W, e1, e2⟩
theorem pce_of {p q : Pt} {a b h : Int} (ha : -5 ≤ a ∧ a ≤ 5) (hb : -5 ≤ b ∧ b ≤ 5) (hh : 1 ≤ h ∧ h ≤ 5) (e : a * a + b * b = h * h) {s : Rat} (hs : 0 < s) (hB : RB 5 s) (hq : q = addP p ((a : Rat) * s) ((b : Rat) * s)) (bp : CB 30 p) (bq : CB 30 q) : PcE (p, q) := by
  obtain ⟨u, L, W, e1, e2⟩ := wy_of ha hb hh e hs hB
  exact pce W (by rw [hq, e1, e2]) (bp.pb.mono (by decide)) (bq.pb.mono (by decide))
/-- the corners of a rectangle, three by four -/
structure Rc (p0 p1 p2 p3 : Pt) : Prop where
  a01 : PcE (p0, p1)
  a12 : PcE (p1, p2)
  a02 : PcE (p0, p2)
  a03 : PcE (p0, p3)
  a32 : PcE (p3, p2)
  a31 : PcE (p3, p1)
theorem rc_ok {p : Pt} {s : Rat} (hp : CB 5 p) (hs : 0 < s) (hB : RB 5 s) : Rc p (addP p (s * ((3 : Int) : Rat)) 0) (addP p (s * ((3 : Int) : Rat)) (s * ((4 : Int) : Rat))) (addP p 0 (s * ((4 : Int) : Rat))) := by
  have z : RB 8 0 := ⟨by unfold Bd; decide, by unfold Bd; decide⟩
  have t3 : RB 8 (s * ((3 : Int) : Rat)) := (hB.mul (rb_int (n := 3) (by unfold Bd; decide) (by decide)))
  have t4 : RB 8 (s * ((4 : Int) : Rat)) := (hB.mul (rb_int (n := 3) (by unfold Bd; decide) (by decide)))
  have b0 : CB 30 p := hp.m (by decide)
  have b1 : CB 30 (addP p (s * ((3 : Int) : Rat)) 0) := (hp.add t3 z).m (by decide)
  have b2 : CB 30 (addP p (s * ((3 : Int) : Rat)) (s * ((4 : Int) : Rat))) := (hp.add t3 t4).m (by decide)
  have b3 : CB 30 (addP p 0 (s * ((4 : Int) : Rat))) := (hp.add z t4).m (by decide)
  have i3 : ((3 : Int) : Rat) = 3 := rfl
  have i4 : ((4 : Int) : Rat) = 4 := rfl
  have i0 : ((0 : Int) : Rat) = 0 := rfl
  have im : ((-4 : Int) : Rat) = -4 := rfl
  refine ⟨pce_of (a := 3) (b := 0) (h := 3) (by decide) (by decide) (by decide) (by decide) hs hB ?_ b0 b1, pce_of (a := 0) (b := 4) (h := 4) (by decide) (by decide) (by decide) (by decide) hs hB ?_ b1 b2,
    pce_of (a := 3) (b := 4) (h := 5) (by decide) (by decide) (by decide) (by decide) hs hB ?_ b0 b2, pce_of (a := 0) (b := 4) (h := 4) (by decide) (by decide) (by decide) (by decide) hs hB ?_ b0 b3,
    pce_of (a := 3) (b := 0) (h := 3) (by decide) (by decide) (by decide) (by decide) hs hB ?_ b3 b2, pce_of (a := 3) (b := -4) (h := 5) (by decide) (by decide) (by decide) (by decide) hs hB ?_ b3 b1⟩
  all_goals
    apply pt_ext <;> simp only [addP, i3, i4, i0, im] <;> grind
def C_law_closed_line : Con := Con.nd (fun _ : Unit => [.feed]) (fun _ t => t ≤ 9500) (fun _ t d t' => ∃ l : Ln, d = dLine l ∧ l.Ok ∧ t' ≤ t + 100)
abbrev s_law_closed_line : Stmt := topS 66
abbrev N_law_closed_line : List Str := ["_law_feed_here", "_law_first", "_law_start", "_law_side", "_law_some", "_law_order", "_law_second", "_law_three", "_law_four", "_law_knee", "_law_last", "_law_at_here"]
theorem sc_law_closed_line : FnScope ["_law_feed_here", "_law_first", "_law_start", "_law_side", "_law_some", "_law_order", "_law_second", "_law_three", "_law_four", "_law_knee", "_law_last", "_law_at_here"] ["_law_feed_here"] (defScope s_law_closed_line) := ⟨rfl, rfl, rfl, by decide +kernel, rfl, by decide +kernel, by decide +kernel⟩
theorem ok_law_closed_line (N : Dn K mg "_law_closed_line" s_law_closed_line ["_law_feed_here"]) (B : Bt mg) (c_law_way : Cal P w K mg base 3 "_law_way" (LSp K C_law_way) []) (c_law_place : Cal P w K mg base 3 "_law_place" (LSp K C_law_place) []) (c_law_fraction : Cal P w K mg base 1 "_law_fraction" (LSp K C_law_fraction) []) (c_law_draw : Cal P w K mg base 1 "_law_draw" (LSp K C_law_draw) []) (c_law_product : Cal P w K mg base 2 "_law_product" (LSp K C_law_product) []) (c_law_gone : Cal P w K mg base 3 "_law_gone" (LSp K C_law_gone) []) : Cal P w K mg base 4 "_law_closed_line" (LSp K C_law_closed_line) [] := by
  refine N.ok sc_law_closed_line ?_ (fun f cdv A outer s H E hr => (pss_cons (ps_set (i := 1) sc_law_closed_line.nd rfl (.inl rfl) (pe_c c_law_way hr (by decide) (by rfl) (pa_cons (pv 0) pa_nil)))
      (pss_cons (ps_set (i := 2) sc_law_closed_line.nd rfl (.inl rfl) (pe_c c_law_place hr (by decide) (by rfl) (pa_cons (pv 0) pa_nil)))
      (pss_cons (ps_if (pt_cmpR (op_eqA hr.units) (pe_c c_law_draw hr (by decide) (by rfl) (pa_cons (pv 0) (pa_cons pe_int pa_nil))) pe_int (nomark _)) (pss_cons (ps_set (i := 6) sc_law_closed_line.nd rfl (.inl rfl) (pe_c c_law_way hr (by decide) (by rfl) (pa_cons (pv 0) pa_nil)))
      (pss_one (ps_if (pt_cmpR (op_neA hr.units) (pe_c c_law_product hr (by decide) (by rfl) (pa_cons (pe_ix ix_A (pv 1) pe_int (fun _ _ => rfl)) (pa_cons (pe_ix ix_A (pv 6) pe_int (fun _ _ => rfl)) pa_nil))) (pe_c c_law_product hr (by decide) (by rfl) (pa_cons (pe_ix ix_A (pv 1) pe_int (fun _ _ => rfl)) (pa_cons (pe_ix ix_A (pv 6) pe_int (fun _ _ => rfl)) pa_nil))) (nomark _)) (pss_cons (ps_set (i := 9) sc_law_closed_line.nd rfl (.inl rfl) (pe_c c_law_gone hr (by decide) (by rfl) (pa_cons (pv 2) (pa_cons (pe_ix ix_A (pv 1) pe_int (fun _ _ => rfl)) (pa_cons (pe_ix ix_A (pv 1) pe_int (fun _ _ => rfl)) pa_nil)))))
      (pss_cons (ps_set (i := 10) sc_law_closed_line.nd rfl (.inl rfl) (pe_c c_law_gone hr (by decide) (by rfl) (pa_cons (pv 2) (pa_cons (pe_ix ix_A (pv 6) pe_int (fun _ _ => rfl)) (pa_cons (pe_ix ix_A (pv 6) pe_int (fun _ _ => rfl)) pa_nil)))))
      (pss_one (ps_ret (pe_tup (pa_cons pe_bl (pa_cons (pe_tup (pa_cons (pv 2) (pa_cons (pv 9) (pa_cons (pe_c c_law_gone hr (by decide) (by rfl) (pa_cons (pv 9) (pa_cons (pe_ix ix_A (pv 6) pe_int (fun _ _ => rfl)) (pa_cons (pe_ix ix_A (pv 6) pe_int (fun _ _ => rfl)) pa_nil)))) (pa_cons (pv 10) pa_nil))))) pa_nil))))))) pss_nil))) pss_nil)
      (pss_cons (ps_set (i := 3) sc_law_closed_line.nd rfl (.inl rfl) (pe_c c_law_fraction hr (by decide) (by rfl) (pa_cons (pe_op op_addA pe_int (pe_c c_law_draw hr (by decide) (by rfl) (pa_cons (pv 0) (pa_cons pe_int pa_nil)))) (pa_cons (pe_op op_addA pe_int (pe_c c_law_draw hr (by decide) (by rfl) (pa_cons (pv 0) (pa_cons pe_int pa_nil)))) pa_nil))))
      (pss_cons (ps_par (i := 7) (j := 8) rfl sc_law_closed_line.nd rfl rfl (by decide) rfl rfl (pa_cons (pe_c c_law_product hr (by decide) (by rfl) (pa_cons (pv 3) (pa_cons (pe_tup (pa_cons pe_int (pa_cons pe_int pa_nil))) pa_nil))) (pa_cons (pe_c c_law_product hr (by decide) (by rfl) (pa_cons (pv 3) (pa_cons (pe_tup (pa_cons pe_int (pa_cons pe_int pa_nil))) pa_nil))) pa_nil)) (by rfl))
      (pss_cons (ps_set (i := 4) sc_law_closed_line.nd rfl (.inr rfl) (pe_lst (pa_cons (pv 2) (pa_cons (pe_c c_law_gone hr (by decide) (by rfl) (pa_cons (pv 2) (pa_cons (pv 7) (pa_cons (pe_tup (pa_cons pe_int (pa_cons pe_int pa_nil))) pa_nil)))) (pa_cons (pe_c c_law_gone hr (by decide) (by rfl) (pa_cons (pv 2) (pa_cons (pv 7) (pa_cons (pv 8) pa_nil)))) (pa_cons (pe_c c_law_gone hr (by decide) (by rfl) (pa_cons (pv 2) (pa_cons (pe_tup (pa_cons pe_int (pa_cons pe_int pa_nil))) (pa_cons (pv 8) pa_nil)))) pa_nil))))))
      (pss_cons (ps_set (i := 5) sc_law_closed_line.nd rfl (.inl rfl) (pe_ix ix_A (pe_lst (pa_cons (pe_tup (pa_cons pe_int (pa_cons pe_int (pa_cons pe_int pa_nil)))) (pa_cons (pe_tup (pa_cons pe_int (pa_cons pe_int (pa_cons pe_int pa_nil)))) (pa_cons (pe_tup (pa_cons pe_int (pa_cons pe_int (pa_cons pe_int (pa_cons pe_int pa_nil))))) (pa_cons (pe_tup (pa_cons pe_int (pa_cons pe_int (pa_cons pe_int (pa_cons pe_int pa_nil))))) (pa_cons (pe_tup (pa_cons pe_int (pa_cons pe_int (pa_cons pe_int pa_nil)))) pa_nil)))))) (pe_c c_law_draw hr (by decide) (by rfl) (pa_cons (pv 0) (pa_cons pe_int pa_nil))) (fun _ _ => rfl)))
      (pss_one (ps_ret (pe_tup (pa_cons pe_bl (pa_cons (pe_callTy call_tuple_of (by rfl) B.tuple (by decide +kernel) (pa_cons (pe_lc (own := [("_law_at_here", 11)]) rfl sc_law_closed_line.nd (pi_seq (pv 5)) (blkOk_by (own := [("_law_at_here", 11)]) (N := N_law_closed_line) (sc := defScope s_law_closed_line) (by decide +kernel)) (fun _ _ _ _ _ => (pg_name (i := 11) sc_law_closed_line.nd rfl (.inl rfl))) (fun _ _ _ _ _ => pts_nil) (fun _ _ _ _ _ => (pe_ix ix_A (pv 4) (pv 11) (fun _ _ => rfl)))) pa_nil)) pa_nil)))))))))))))
    (sns_seq (sns_asg (sn_call (C := C_law_way) (sna_cons (sn_var (i := 0)) sna_nil)) (sng_name (i := 1)))
      (sns_seq (sns_asg (sn_call (C := C_law_place) (sna_cons (sn_var (i := 0)) sna_nil)) (sng_name (i := 2)))
      (sns_seq (sns_if (snt_test (sn_op snr_eq (sn_call (C := C_law_draw) (sna_cons (sn_var (i := 0)) (sna_cons sn_int sna_nil))) sn_int)) (sns_seq (sns_asg (sn_call (C := C_law_way) (sna_cons (sn_var (i := 0)) sna_nil)) (sng_name (i := 6)))
      (sns_if (snt_test (sn_op snr_ne (sn_call (C := C_law_product) (sna_cons (sn_op snr_ix (sn_var (i := 1)) sn_int) (sna_cons (sn_op snr_ix (sn_var (i := 6)) sn_int) sna_nil))) (sn_call (C := C_law_product) (sna_cons (sn_op snr_ix (sn_var (i := 1)) sn_int) (sna_cons (sn_op snr_ix (sn_var (i := 6)) sn_int) sna_nil))))) (sns_seq (sns_asg (sn_call (C := C_law_gone) (sna_cons (sn_var (i := 2)) (sna_cons (sn_op snr_ix (sn_var (i := 1)) sn_int) (sna_cons (sn_op snr_ix (sn_var (i := 1)) sn_int) sna_nil)))) (sng_name (i := 9)))
      (sns_seq (sns_asg (sn_call (C := C_law_gone) (sna_cons (sn_var (i := 2)) (sna_cons (sn_op snr_ix (sn_var (i := 6)) sn_int) (sna_cons (sn_op snr_ix (sn_var (i := 6)) sn_int) sna_nil)))) (sng_name (i := 10)))
      (sns_ret (sn_tup (sna_cons sn_bl (sna_cons (sn_tup (sna_cons (sn_var (i := 2)) (sna_cons (sn_var (i := 9)) (sna_cons (sn_call (C := C_law_gone) (sna_cons (sn_var (i := 9)) (sna_cons (sn_op snr_ix (sn_var (i := 6)) sn_int) (sna_cons (sn_op snr_ix (sn_var (i := 6)) sn_int) sna_nil)))) (sna_cons (sn_var (i := 10)) sna_nil))))) sna_nil)))))) sns_nil)) sns_nil)
      (sns_seq (sns_asg (sn_call (C := C_law_fraction) (sna_cons (sn_op snr_add sn_int (sn_call (C := C_law_draw) (sna_cons (sn_var (i := 0)) (sna_cons sn_int sna_nil)))) (sna_cons (sn_op snr_add sn_int (sn_call (C := C_law_draw) (sna_cons (sn_var (i := 0)) (sna_cons sn_int sna_nil)))) sna_nil))) (sng_name (i := 3)))
      (sns_seq (sns_par (i := 7) (j := 8) (sna_cons (sn_call (C := C_law_product) (sna_cons (sn_var (i := 3)) (sna_cons (sn_tup (sna_cons sn_int (sna_cons sn_int sna_nil))) sna_nil))) (sna_cons (sn_call (C := C_law_product) (sna_cons (sn_var (i := 3)) (sna_cons (sn_tup (sna_cons sn_int (sna_cons sn_int sna_nil))) sna_nil))) sna_nil)))
      (sns_seq (sns_asg (sn_lst (sna_cons (sn_var (i := 2)) (sna_cons (sn_call (C := C_law_gone) (sna_cons (sn_var (i := 2)) (sna_cons (sn_var (i := 7)) (sna_cons (sn_tup (sna_cons sn_int (sna_cons sn_int sna_nil))) sna_nil)))) (sna_cons (sn_call (C := C_law_gone) (sna_cons (sn_var (i := 2)) (sna_cons (sn_var (i := 7)) (sna_cons (sn_var (i := 8)) sna_nil)))) (sna_cons (sn_call (C := C_law_gone) (sna_cons (sn_var (i := 2)) (sna_cons (sn_tup (sna_cons sn_int (sna_cons sn_int sna_nil))) (sna_cons (sn_var (i := 8)) sna_nil)))) sna_nil))))) (sng_name (i := 4)))
      (sns_seq (sns_asg (sn_op snr_ix (sn_lst (sna_cons (sn_tup (sna_cons sn_int (sna_cons sn_int (sna_cons sn_int sna_nil)))) (sna_cons (sn_tup (sna_cons sn_int (sna_cons sn_int (sna_cons sn_int sna_nil)))) (sna_cons (sn_tup (sna_cons sn_int (sna_cons sn_int (sna_cons sn_int (sna_cons sn_int sna_nil))))) (sna_cons (sn_tup (sna_cons sn_int (sna_cons sn_int (sna_cons sn_int (sna_cons sn_int sna_nil))))) (sna_cons (sn_tup (sna_cons sn_int (sna_cons sn_int (sna_cons sn_int sna_nil)))) sna_nil)))))) (sn_call (C := C_law_draw) (sna_cons (sn_var (i := 0)) (sna_cons sn_int sna_nil)))) (sng_name (i := 5)))
      (sns_ret (sn_tup (sna_cons sn_bl (sna_cons (sn_cb snc_tuple (sna_cons (sn_lc (sni_seq (sn_var (i := 5))).c (sng_name (i := 11)) snt_yes (sn_op snr_ix (sn_var (i := 4)) (sn_var (i := 11))) (by decide)) sna_nil)) sna_nil))))))))))) ?_
  · exact Con.lenN fun _ => rfl
  · rintro ds t Q ⟨_, rfl, ht, q⟩
    have ht : t ≤ 9500 := ht
    refine ⟨(), rfl, by show t ≤ 9800; omega, ?_⟩
    rintro _ _ ⟨u, L, rfl, W, rfl⟩
    refine ⟨(), rfl, by show t + 7 ≤ 9800; omega, ?_⟩
    rintro _ _ ⟨s, rfl, hx, hy, rfl⟩
    have hs : CB 5 s := ⟨hx, hy⟩
    refine draw (by decide) (by decide) (by omega) fun r a1 b1 => ?_
    show if decide (r = 0) = true then _ else _
    have bs : PB 10 s := hs.pb
    refine ite2 (fun _ => ?_) (fun _ => ?_)
    · refine ⟨(), rfl, by show t + 7 + 8 + 1 ≤ 9800; omega, ?_⟩
      rintro _ _ ⟨v, M, rfl, V, rfl⟩
      refine ⟨(L * u.x, M * v.y), rfl, ⟨_, _, W.bx, V.bY, by decide⟩, (L * u.y, M * v.x), rfl, ⟨_, _, W.bY, V.bx, by decide⟩, ?_⟩
      show if (!decide ([(L * u.x * (M * v.y)).num, ((L * u.x * (M * v.y)).den : Int)] = [(L * u.y * (M * v.x)).num, ((L * u.y * (M * v.x)).den : Int)])) = true then _ else _
      refine ite2 (fun _ => ?_) (fun _ => ?_)
      · have bk := addP_pb bs W.bx W.bY
        refine ⟨(s, L * u.x, L * u.y), rfl, gb bs W.bx W.bY (by decide), (s, M * v.x, M * v.y), rfl, gb bs V.bx V.bY (by decide), (addP s (L * u.x) (L * u.y), M * v.x, M * v.y), rfl, gb bk V.bx V.bY (by decide), ?_⟩
        exact q _ _ ⟨⟨true, [s, addP s (L * u.x) (L * u.y), addP (addP s (L * u.x) (L * u.y)) (M * v.x) (M * v.y), addP s (M * v.x) (M * v.y)]⟩, rfl, para_ok hs W V, by omega⟩
      · clear W
        refine draw (by decide) (by decide) (by omega) fun x a2 b2 => ?_
        refine draw (by decide) (by decide) (by omega) fun y a3 b3 => ?_
        have xB : Bd 3 (1 + x) := bdN (by omega) (by omega)
        have yB : Bd 3 (1 + y) := bdN (by omega) (by omega)
        refine ⟨(1 + x, 1 + y), rfl, ⟨by show 1 + y ≠ 0; omega, xB.mono (by decide), yB.mono (by decide)⟩, ?_⟩
        have sB : RB 5 (((1 + x : Int) : Rat) / ((1 + y : Int) : Rat)) := (rb_of xB yB (by omega)).mono (by decide)
        have sp : 0 < (((1 + x : Int) : Rat) / ((1 + y : Int) : Rat)) := by
          have h1 : 0 < ((1 + x : Int) : Rat) := Rat.intCast_pos.mpr (by omega)
          have h2 : 0 < ((1 + y : Int) : Rat) := Rat.intCast_pos.mpr (by omega)
          rw [Rat.div_def]
          exact Rat.mul_pos h1 (Rat.inv_pos.mpr h2)
        have R := rc_ok hs sp sB
        have z0 : RB 5 0 := ⟨by unfold Bd; decide, by unfold Bd; decide⟩
        have i3 : RB 3 ((3 : Int) : Rat) := rb_int (by unfold Bd; decide) (by decide)
        have i4 : RB 3 ((4 : Int) : Rat) := rb_int (by unfold Bd; decide) (by decide)
        refine ⟨(((1 + x : Int) : Rat) / ((1 + y : Int) : Rat), ((3 : Int) : Rat)), rfl, ⟨_, _, sB, i3, by decide⟩, (((1 + x : Int) : Rat) / ((1 + y : Int) : Rat), ((4 : Int) : Rat)), rfl, ⟨_, _, sB, i4, by decide⟩, ?_⟩
        have t3 := sB.mul i3
        have t4 := sB.mul i4
        generalize ((1 + x : Int) : Rat) / ((1 + y : Int) : Rat) = sd at *
        refine ⟨(s, sd * ((3 : Int) : Rat), 0), rfl, gb bs t3 z0 (by decide), (s, sd * ((3 : Int) : Rat), sd * ((4 : Int) : Rat)), rfl, gb bs t3 t4 (by decide), (s, 0, sd * ((4 : Int) : Rat)), rfl, gb bs z0 t4 (by decide), ?_⟩
        refine draw (by decide) (by decide) (by omega) fun r5 a5 b5 => ?_
        refine pick a5 b5 fun d hd => ?_
        simp only [List.mem_cons, List.not_mem_nil, or_false] at hd
        rcases hd with rfl | rfl | rfl | rfl | rfl
        · exact ⟨by decide, q _ _ ⟨⟨true, [_, _, _]⟩, rfl, ok3 R.a01 R.a12 (pce_rev R.a02), by omega⟩⟩
        · exact ⟨by decide, q _ _ ⟨⟨true, [_, _, _]⟩, rfl, ok3 R.a02 (pce_rev R.a12) (pce_rev R.a01), by omega⟩⟩
        · exact ⟨by decide, q _ _ ⟨⟨true, [_, _, _, _]⟩, rfl, ok4 R.a02 (pce_rev R.a12) (pce_rev R.a31) (pce_rev R.a03), by omega⟩⟩
        · exact ⟨by decide, q _ _ ⟨⟨true, [_, _, _, _]⟩, rfl, ok4 R.a01 (pce_rev R.a31) R.a32 (pce_rev R.a02), by omega⟩⟩
        · exact ⟨by decide, q _ _ ⟨⟨true, [_, _, _]⟩, rfl, ok3 R.a31 (pce_rev R.a01) R.a03, by omega⟩⟩
    · clear W
      refine draw (by decide) (by decide) (by omega) fun x a2 b2 => ?_
      refine draw (by decide) (by decide) (by omega) fun y a3 b3 => ?_
      have xB : Bd 3 (1 + x) := bdN (by omega) (by omega)
      have yB : Bd 3 (1 + y) := bdN (by omega) (by omega)
      refine ⟨(1 + x, 1 + y), rfl, ⟨by show 1 + y ≠ 0; omega, xB.mono (by decide), yB.mono (by decide)⟩, ?_⟩
      have sB : RB 5 (((1 + x : Int) : Rat) / ((1 + y : Int) : Rat)) := (rb_of xB yB (by omega)).mono (by decide)
      have sp : 0 < (((1 + x : Int) : Rat) / ((1 + y : Int) : Rat)) := by
        have h1 : 0 < ((1 + x : Int) : Rat) := Rat.intCast_pos.mpr (by omega)
        have h2 : 0 < ((1 + y : Int) : Rat) := Rat.intCast_pos.mpr (by omega)
        rw [Rat.div_def]
        exact Rat.mul_pos h1 (Rat.inv_pos.mpr h2)
      have R := rc_ok hs sp sB
      have z0 : RB 5 0 := ⟨by unfold Bd; decide, by unfold Bd; decide⟩
      have i3 : RB 3 ((3 : Int) : Rat) := rb_int (by unfold Bd; decide) (by decide)
      have i4 : RB 3 ((4 : Int) : Rat) := rb_int (by unfold Bd; decide) (by decide)
      refine ⟨(((1 + x : Int) : Rat) / ((1 + y : Int) : Rat), ((3 : Int) : Rat)), rfl, ⟨_, _, sB, i3, by decide⟩, (((1 + x : Int) : Rat) / ((1 + y : Int) : Rat), ((4 : Int) : Rat)), rfl, ⟨_, _, sB, i4, by decide⟩, ?_⟩
      have t3 := sB.mul i3
      have t4 := sB.mul i4
      generalize ((1 + x : Int) : Rat) / ((1 + y : Int) : Rat) = sd at *
      refine ⟨(s, sd * ((3 : Int) : Rat), 0), rfl, gb bs t3 z0 (by decide), (s, sd * ((3 : Int) : Rat), sd * ((4 : Int) : Rat)), rfl, gb bs t3 t4 (by decide), (s, 0, sd * ((4 : Int) : Rat)), rfl, gb bs z0 t4 (by decide), ?_⟩
      refine draw (by decide) (by decide) (by omega) fun r5 a5 b5 => ?_
      refine pick a5 b5 fun d hd => ?_
      simp only [List.mem_cons, List.not_mem_nil, or_false] at hd
      rcases hd with rfl | rfl | rfl | rfl | rfl
      · exact ⟨by decide, q _ _ ⟨⟨true, [_, _, _]⟩, rfl, ok3 R.a01 R.a12 (pce_rev R.a02), by omega⟩⟩
      · exact ⟨by decide, q _ _ ⟨⟨true, [_, _, _]⟩, rfl, ok3 R.a02 (pce_rev R.a12) (pce_rev R.a01), by omega⟩⟩
      · exact ⟨by decide, q _ _ ⟨⟨true, [_, _, _, _]⟩, rfl, ok4 R.a02 (pce_rev R.a12) (pce_rev R.a31) (pce_rev R.a03), by omega⟩⟩
      · exact ⟨by decide, q _ _ ⟨⟨true, [_, _, _, _]⟩, rfl, ok4 R.a01 (pce_rev R.a31) R.a32 (pce_rev R.a02), by omega⟩⟩
      · exact ⟨by decide, q _ _ ⟨⟨true, [_, _, _]⟩, rfl, ok3 R.a31 (pce_rev R.a01) R.a03, by omega⟩⟩
end
end DL


/-! ## V14 -/
set_option maxRecDepth 100000
set_option maxHeartbeats 4000000
/-! lines, folded lines -/
namespace DL
open PySem PySem.Spec PyProof.Rows L2
open C8 (Cal pe_c pe_gc)
open W15
section
variable {P : Program} {w : World} {K : PySem.W.Frag} {mg : Str → Option Value} {base : Heap}
def C_law_line : Con := Con.nd (fun _ : Unit => [.feed, .int 4]) (fun _ t => t ≤ 9400) (fun _ t d t' => ∃ l : Ln, d = dLine l ∧ l.Ok ∧ t' ≤ t + 101)
abbrev s_law_line : Stmt := topS 67
abbrev N_law_line : List Str := ["_law_feed_here", "_law_most_here"]
theorem sc_law_line : FnScope ["_law_feed_here", "_law_most_here"] ["_law_feed_here", "_law_most_here"] (defScope s_law_line) := ⟨rfl, rfl, rfl, by decide +kernel, rfl, by decide +kernel, by decide +kernel⟩
theorem ok_law_line (N : Dn K mg "_law_line" s_law_line ["_law_feed_here", "_law_most_here"]) (c_law_closed_line : Cal P w K mg base 4 "_law_closed_line" (LSp K C_law_closed_line) []) (c_law_open_line : Cal P w K mg base 4 "_law_open_line" (LSp K C_law_open_line) []) (c_law_draw : Cal P w K mg base 1 "_law_draw" (LSp K C_law_draw) []) : Cal P w K mg base 5 "_law_line" (LSp K C_law_line) [] := by
  refine N.ok sc_law_line ?_ (fun f cdv A outer s H E hr => (pss_one (ps_ret (pe_ifExp (pt_cmpR (op_eqA hr.units) (pe_c c_law_draw hr (by decide) (by rfl) (pa_cons (pv 0) (pa_cons pe_int pa_nil))) pe_int (nomark _)) (pe_c c_law_closed_line hr (by decide) (by rfl) (pa_cons (pv 0) pa_nil)) (pe_c c_law_open_line hr (by decide) (by rfl) (pa_cons (pv 0) (pa_cons (pv 1) pa_nil)))))))
    (sns_ret (sn_if (snt_test (sn_op snr_eq (sn_call (C := C_law_draw) (sna_cons (sn_var (i := 0)) (sna_cons sn_int sna_nil))) sn_int)) (sn_call (C := C_law_closed_line) (sna_cons (sn_var (i := 0)) sna_nil)) (sn_call (C := C_law_open_line) (sna_cons (sn_var (i := 0)) (sna_cons (sn_var (i := 1)) sna_nil))))) ?_
  · exact Con.lenN fun _ => rfl
  · rintro ds t Q ⟨_, rfl, ht, q⟩
    have ht : t ≤ 9400 := ht
    refine draw (by decide) (by decide) (by omega) fun r a1 b1 => ?_
    show if decide (r = 0) = true then _ else _
    refine ite2 (fun _ => ?_) (fun _ => ?_)
    · refine ⟨(), rfl, by show t + 1 ≤ 9500; omega, ?_⟩
      rintro _ t' ⟨l, rfl, hl, h⟩
      exact q _ _ ⟨l, rfl, hl, by omega⟩
    · refine ⟨(), rfl, by show t + 1 ≤ 9500; omega, ?_⟩
      rintro _ t' ⟨l, rfl, hl, h⟩
      exact q _ _ ⟨l, rfl, hl, by omega⟩
def C_law_folded_line : Con := Con.nd (fun _ : Unit => [.feed]) (fun _ t => t ≤ 9400) (fun _ t d t' => ∃ l : Ln, d = dLine l ∧ l.Ok ∧ t' ≤ t + 101)
theorem cutD_le (ds : List D) (lo hi : Option Int) : (cutD ds lo hi).length ≤ ds.length := by
  unfold cutD
  rw [List.length_take, List.length_drop]
  omega
theorem fold_rot {p a b : Pt} (h1 : PcE (p, a)) (h2 : PcE (p, b)) {r : Int} (a0 : 0 ≤ r) (b0 : r < 4) {Q : D → Prop} (q : ∀ l : Ln, l.Ok → Q (dLine l)) :
    szOk (cutD [dP p, dP a, dP p, dP b] (some r) none ++ []).length True ∧ Q (.tup [.bl true, .tup (cutD [dP p, dP a, dP p, dP b] (some r) none ++ cutD [dP p, dP a, dP p, dP b] none (some r))]) := by
  have h1' := pce_rev h1
  have h2' := pce_rev h2
  have c : r = 0 ∨ r = 1 ∨ r = 2 ∨ r = 3 := by omega
  rcases c with rfl | rfl | rfl | rfl
  · exact ⟨trivial, q ⟨true, [p, a, p, b]⟩ (ok4 h1 h1' h2 h2')⟩
  · exact ⟨trivial, q ⟨true, [a, p, b, p]⟩ (ok4 h1' h2 h2' h1)⟩
  · exact ⟨trivial, q ⟨true, [p, b, p, a]⟩ (ok4 h2 h2' h1 h1')⟩
  · exact ⟨trivial, q ⟨true, [b, p, a, p]⟩ (ok4 h2' h1 h1' h2)⟩
abbrev s_law_folded_line : Stmt := topS 68
abbrev N_law_folded_line : List Str := ["_law_feed_here", "_law_p", "_law_some", "_law_at_here", "_law_first", "_law_second"]
theorem sc_law_folded_line : FnScope ["_law_feed_here", "_law_p", "_law_some", "_law_at_here", "_law_first", "_law_second"] ["_law_feed_here"] (defScope s_law_folded_line) := ⟨rfl, rfl, rfl, by decide +kernel, rfl, by decide +kernel, by decide +kernel⟩
theorem ok_law_folded_line (N : Dn K mg "_law_folded_line" s_law_folded_line ["_law_feed_here"]) (c_law_place : Cal P w K mg base 3 "_law_place" (LSp K C_law_place) []) (c_law_draw : Cal P w K mg base 1 "_law_draw" (LSp K C_law_draw) []) (c_law_way : Cal P w K mg base 3 "_law_way" (LSp K C_law_way) []) (c_law_product : Cal P w K mg base 2 "_law_product" (LSp K C_law_product) []) (c_law_gone : Cal P w K mg base 3 "_law_gone" (LSp K C_law_gone) []) : Cal P w K mg base 4 "_law_folded_line" (LSp K C_law_folded_line) [] := by
  refine N.ok sc_law_folded_line ?_ (fun f cdv A outer s H E hr => (pss_cons (ps_set (i := 1) sc_law_folded_line.nd rfl (.inl rfl) (pe_c c_law_place hr (by decide) (by rfl) (pa_cons (pv 0) pa_nil)))
      (pss_cons (ps_par (i := 4) (j := 5) rfl sc_law_folded_line.nd rfl rfl (by decide) rfl rfl (pa_cons (pe_c c_law_way hr (by decide) (by rfl) (pa_cons (pv 0) pa_nil)) (pa_cons (pe_c c_law_way hr (by decide) (by rfl) (pa_cons (pv 0) pa_nil)) pa_nil)) (by rfl))
      (pss_cons (ps_if (pt_cmpR (op_eqA hr.units) (pe_c c_law_product hr (by decide) (by rfl) (pa_cons (pe_ix ix_A (pv 4) pe_int (fun _ _ => rfl)) (pa_cons (pe_ix ix_A (pv 5) pe_int (fun _ _ => rfl)) pa_nil))) (pe_c c_law_product hr (by decide) (by rfl) (pa_cons (pe_ix ix_A (pv 4) pe_int (fun _ _ => rfl)) (pa_cons (pe_ix ix_A (pv 5) pe_int (fun _ _ => rfl)) pa_nil))) (nomark _)) (pss_one (ps_par (i := 4) (j := 5) rfl sc_law_folded_line.nd rfl rfl (by decide) rfl rfl (pa_cons (pe_lst (pa_cons (pe_tup (pa_cons pe_int (pa_cons pe_int pa_nil))) (pa_cons (pe_tup (pa_cons pe_int (pa_cons pe_int pa_nil))) pa_nil))) (pa_cons (pe_lst (pa_cons (pe_tup (pa_cons pe_int (pa_cons pe_int pa_nil))) (pa_cons (pe_tup (pa_cons pe_int (pa_cons pe_int pa_nil))) pa_nil))) pa_nil)) (by rfl))) pss_nil)
      (pss_cons (ps_set (i := 2) sc_law_folded_line.nd rfl (.inl rfl) (pe_tup (pa_cons (pv 1) (pa_cons (pe_c c_law_gone hr (by decide) (by rfl) (pa_cons (pv 1) (pa_cons (pe_ix ix_A (pv 4) pe_int (fun _ _ => rfl)) (pa_cons (pe_ix ix_A (pv 4) pe_int (fun _ _ => rfl)) pa_nil)))) (pa_cons (pv 1) (pa_cons (pe_c c_law_gone hr (by decide) (by rfl) (pa_cons (pv 1) (pa_cons (pe_ix ix_A (pv 5) pe_int (fun _ _ => rfl)) (pa_cons (pe_ix ix_A (pv 5) pe_int (fun _ _ => rfl)) pa_nil)))) pa_nil))))))
      (pss_cons (ps_set (i := 3) sc_law_folded_line.nd rfl (.inl rfl) (pe_c c_law_draw hr (by decide) (by rfl) (pa_cons (pv 0) (pa_cons pe_int pa_nil))))
      (pss_one (ps_ret (pe_tup (pa_cons pe_bl (pa_cons (pe_op op_addA (pe_slice sl_A (pv 2) (po_some (pv 3)) po_none) (pe_slice sl_A (pv 2) po_none (po_some (pv 3)))) pa_nil)))))))))))
    (sns_seq (sns_asg (sn_call (C := C_law_place) (sna_cons (sn_var (i := 0)) sna_nil)) (sng_name (i := 1)))
      (sns_seq (sns_par (i := 4) (j := 5) (sna_cons (sn_call (C := C_law_way) (sna_cons (sn_var (i := 0)) sna_nil)) (sna_cons (sn_call (C := C_law_way) (sna_cons (sn_var (i := 0)) sna_nil)) sna_nil)))
      (sns_seq (sns_if (snt_test (sn_op snr_eq (sn_call (C := C_law_product) (sna_cons (sn_op snr_ix (sn_var (i := 4)) sn_int) (sna_cons (sn_op snr_ix (sn_var (i := 5)) sn_int) sna_nil))) (sn_call (C := C_law_product) (sna_cons (sn_op snr_ix (sn_var (i := 4)) sn_int) (sna_cons (sn_op snr_ix (sn_var (i := 5)) sn_int) sna_nil))))) (sns_par (i := 4) (j := 5) (sna_cons (sn_lst (sna_cons (sn_tup (sna_cons sn_int (sna_cons sn_int sna_nil))) (sna_cons (sn_tup (sna_cons sn_int (sna_cons sn_int sna_nil))) sna_nil))) (sna_cons (sn_lst (sna_cons (sn_tup (sna_cons sn_int (sna_cons sn_int sna_nil))) (sna_cons (sn_tup (sna_cons sn_int (sna_cons sn_int sna_nil))) sna_nil))) sna_nil))) sns_nil)
      (sns_seq (sns_asg (sn_tup (sna_cons (sn_var (i := 1)) (sna_cons (sn_call (C := C_law_gone) (sna_cons (sn_var (i := 1)) (sna_cons (sn_op snr_ix (sn_var (i := 4)) sn_int) (sna_cons (sn_op snr_ix (sn_var (i := 4)) sn_int) sna_nil)))) (sna_cons (sn_var (i := 1)) (sna_cons (sn_call (C := C_law_gone) (sna_cons (sn_var (i := 1)) (sna_cons (sn_op snr_ix (sn_var (i := 5)) sn_int) (sna_cons (sn_op snr_ix (sn_var (i := 5)) sn_int) sna_nil)))) sna_nil))))) (sng_name (i := 2)))
      (sns_seq (sns_asg (sn_call (C := C_law_draw) (sna_cons (sn_var (i := 0)) (sna_cons sn_int sna_nil))) (sng_name (i := 3)))
      (sns_ret (sn_tup (sna_cons sn_bl (sna_cons (sn_op snr_add (sn_sl (sn_var (i := 2)) (sno_some (sn_var (i := 3))) sno_none) (sn_sl (sn_var (i := 2)) sno_none (sno_some (sn_var (i := 3))))) sna_nil))))))))) ?_
  · exact Con.lenN fun _ => rfl
  · rintro ds t Q ⟨_, rfl, ht, q⟩
    have ht : t ≤ 9400 := ht
    refine ⟨(), rfl, by show t ≤ 9800; omega, ?_⟩
    rintro _ _ ⟨p, rfl, hx, hy, rfl⟩
    have hp : CB 5 p := ⟨hx, hy⟩
    have bp : PB 10 p := hp.pb
    refine ⟨(), rfl, by show t + 8 ≤ 9800; omega, ?_⟩
    rintro _ _ ⟨u, L, rfl, W, rfl⟩
    refine ⟨(), rfl, by show t + 8 + 7 ≤ 9800; omega, ?_⟩
    rintro _ _ ⟨v, M, rfl, V, rfl⟩
    have b : ∀ {n : Nat} {p : Pt}, CB n p → n ≤ 45 → PB 90 p := fun h l => (h.pb).mono (by omega)
    have rot : ∀ {a c : Pt} (t1 : Nat), PcE (p, a) → PcE (p, c) → t1 ≤ t + 100 → ∀ r : Int, 0 ≤ r → r < 4 → Q (.tup [.bl true, .tup (cutD [dP p, dP a, dP p, dP c] (some r) none ++ cutD [dP p, dP a, dP p, dP c] none (some r))]) t1 := fun {a c} t1 h1 h2 h3 r a0 b0 =>
      (fold_rot (Q := fun d => Q d t1) h1 h2 a0 b0 fun l hl => q _ _ ⟨l, rfl, hl, by omega⟩).2
    refine ⟨(L * u.x, M * v.y), rfl, ⟨_, _, W.bx, V.bY, by decide⟩, (L * u.y, M * v.x), rfl, ⟨_, _, W.bY, V.bx, by decide⟩, ?_⟩
    show if decide ([(L * u.x * (M * v.y)).num, ((L * u.x * (M * v.y)).den : Int)] = [(L * u.y * (M * v.x)).num, ((L * u.y * (M * v.x)).den : Int)]) = true then _ else _
    refine ite2 (fun _ => ?_) (fun _ => ?_)
    · have i0 : RB 3 ((0 : Int) : Rat) := rb_int (by unfold Bd; decide) (by decide)
      have i3 : RB 3 ((3 : Int) : Rat) := rb_int (by unfold Bd; decide) (by decide)
      have i4 : RB 3 ((4 : Int) : Rat) := rb_int (by unfold Bd; decide) (by decide)
      have i5 : RB 3 ((5 : Int) : Rat) := rb_int (by unfold Bd; decide) (by decide)
      have o1 : RB 5 1 := ⟨by unfold Bd; decide, by unfold Bd; decide⟩
      have h1 : PcE (p, addP p ((3 : Int) : Rat) ((4 : Int) : Rat)) := pce_of (a := 3) (b := 4) (h := 5) (by decide) (by decide) (by decide) (by decide) (s := 1) (by decide) o1 (by rw [Rat.mul_one, Rat.mul_one]) (hp.m (by decide)) ((hp.add i3 i4).m (by decide))
      have h2 : PcE (p, addP p ((0 : Int) : Rat) ((5 : Int) : Rat)) := pce_of (a := 0) (b := 5) (h := 5) (by decide) (by decide) (by decide) (by decide) (s := 1) (by decide) o1 (by rw [Rat.mul_one, Rat.mul_one]) (hp.m (by decide)) ((hp.add i0 i5).m (by decide))
      refine ⟨(p, ((3 : Int) : Rat), ((4 : Int) : Rat)), rfl, gb bp i3 i4 (by decide), (p, ((0 : Int) : Rat), ((5 : Int) : Rat)), rfl, gb bp i0 i5 (by decide), ?_⟩
      refine draw (by decide) (by decide) (by omega) fun r a1 b1 => ?_
      refine szOk_mk ?_ (rot _ h1 h2 (by omega) r a1 b1)
      exact Nat.le_trans (Nat.add_le_add (cutD_le _ _ _) (cutD_le _ _ _)) (by show 4 + 4 ≤ 1000; decide)
    · refine ⟨(p, L * u.x, L * u.y), rfl, gb bp W.bx W.bY (by decide), (p, M * v.x, M * v.y), rfl, gb bp V.bx V.bY (by decide), ?_⟩
      refine draw (by decide) (by decide) (by omega) fun r a1 b1 => ?_
      refine szOk_mk ?_ (rot _ (pce W rfl (b hp (by decide)) (b (hp.add W.bx W.bY) (by decide))) (pce V rfl (b hp (by decide)) (b (hp.add V.bx V.bY) (by decide))) (by omega) r a1 b1)
      exact Nat.le_trans (Nat.add_le_add (cutD_le _ _ _) (cutD_le _ _ _)) (by show 4 + 4 ≤ 1000; decide)
theorem pts_pb {l : Ln} (hl : l.Ok) {p : Pt} (hp : p ∈ l.pts) : PB 90 p := by
  have two := hl.two
  have L := pieces_len two
  obtain ⟨k, hk, ek⟩ := List.getElem_of_mem hp
  by_cases hz : k < l.pieces.length
  · obtain ⟨e1, e2⟩ := piece_at two hz
    have c' := pc_of (hl.ex _ e2)
    have := c'.ba
    unfold Ln.pc at this
    rw [List.getD_eq_getElem?_getD, List.getElem?_eq_getElem hk] at this
    rw [← ek]
    exact this
  · have hk2 : k = l.pts.length - 1 ∧ l.closed = false := by
      rw [L] at hz
      cases hcl : l.closed with
      | true => rw [hcl, if_pos rfl] at hz; omega
      | false => rw [hcl, if_neg (by decide)] at hz; exact ⟨by omega, rfl⟩
    have hz' : k - 1 < l.pieces.length := by rw [L, hk2.2, if_neg (by decide)]; omega
    obtain ⟨e1, e2⟩ := piece_at two hz'
    have c' := pc_of (hl.ex _ e2)
    have := c'.bb
    unfold Ln.pc at this
    rw [show (k - 1 + 1) % l.pts.length = k by rw [show k - 1 + 1 = k by omega]; exact Nat.mod_eq_of_lt hk] at this
    have e3 : l.pts.getD k ⟨0, 0⟩ = l.pts[k] := by rw [List.getD_eq_getElem?_getD, List.getElem?_eq_getElem hk]; rfl
    rw [← ek, ← e3]
    exact this
noncomputable def C_law_asked : Con := Con.nd (fun p : Ln × Rl => [.feed, dLine p.1, dRule p.2]) (fun p t => p.1.Ok ∧ p.2.Ok ∧ t ≤ 9400) (fun _ t d t' => ∃ a b c e : Pt, d = .lst ([a, b, c, e].map dP) ∧ PBs 600 [a, b, c, e] ∧ t' = t + 8)
abbrev s_law_asked : Stmt := topS 90
abbrev N_law_asked : List Str := ["_law_feed_here", "_law_line_here", "_law_rule_here", "_law_ways_here", "_law_piece", "_law_share", "_law_fars", "_law_one", "_law_p", "_law_near", "_law_other", "_law_nudged"]
theorem sc_law_asked : FnScope ["_law_feed_here", "_law_line_here", "_law_rule_here", "_law_ways_here", "_law_piece", "_law_share", "_law_fars", "_law_one", "_law_p", "_law_near", "_law_other", "_law_nudged"] ["_law_feed_here", "_law_line_here", "_law_rule_here"] (defScope s_law_asked) := ⟨rfl, rfl, rfl, by decide +kernel, rfl, by decide +kernel, by decide +kernel⟩
theorem ok_law_asked (N : Dn K mg "_law_asked" s_law_asked ["_law_feed_here", "_law_line_here", "_law_rule_here"]) (B : Bt mg) (c_law_ways : Cal P w K mg base 3 "_law_ways" (LSp K C_law_ways) []) (c_law_product : Cal P w K mg base 2 "_law_product" (LSp K C_law_product) []) (c_law_beside : Cal P w K mg base 4 "_law_beside" (LSp K C_law_beside) []) (c_law_gone : Cal P w K mg base 3 "_law_gone" (LSp K C_law_gone) []) (c_law_draw : Cal P w K mg base 1 "_law_draw" (LSp K C_law_draw) []) (c_law_fraction : Cal P w K mg base 1 "_law_fraction" (LSp K C_law_fraction) []) (c_law_minus : Cal P w K mg base 1 "_law_minus" (LSp K C_law_minus) []) (c_law_along : Cal P w K mg base 4 "_law_along" (LSp K C_law_along) []) : Cal P w K mg base 5 "_law_asked" (LSp K C_law_asked) [] := by
  refine N.ok sc_law_asked ?_ (fun f cdv A outer s H E hr => (pss_cons (ps_set (i := 3) sc_law_asked.nd rfl (.inl rfl) (pe_c c_law_ways hr (by decide) (by rfl) (pa_cons (pv 1) pa_nil)))
      (pss_cons (ps_set (i := 4) sc_law_asked.nd rfl (.inl rfl) (pe_ix ix_A (pv 3) (pe_c c_law_draw hr (by decide) (by rfl) (pa_cons (pv 0) (pa_cons (pe_callB call_len_seq (by rfl) B.len (by decide +kernel) (pa_cons (pv 3) pa_nil)) pa_nil))) (fun _ _ => rfl)))
      (pss_cons (ps_set (i := 5) sc_law_asked.nd rfl (.inl rfl) (pe_c c_law_product hr (by decide) (by rfl) (pa_cons (pe_ix ix_A (pv 4) pe_int (fun _ _ => rfl)) (pa_cons (pe_c c_law_fraction hr (by decide) (by rfl) (pa_cons (pe_op op_sub (pe_c c_law_draw hr (by decide) (by rfl) (pa_cons (pv 0) (pa_cons pe_int pa_nil))) pe_int) (pa_cons pe_int pa_nil))) pa_nil))))
      (pss_cons (ps_set (i := 6) sc_law_asked.nd rfl (.inl rfl) (pe_lst (pa_cons (pe_ix ix_A (pv 2) pe_int (fun _ _ => rfl)) (pa_cons (pe_c c_law_minus hr (by decide) (by rfl) (pa_cons (pe_ix ix_A (pv 2) pe_int (fun _ _ => rfl)) pa_nil)) (pa_cons (pe_tup (pa_cons pe_int (pa_cons pe_int pa_nil))) (pa_cons (pe_c c_law_product hr (by decide) (by rfl) (pa_cons (pe_ix ix_A (pv 2) pe_int (fun _ _ => rfl)) (pa_cons (pe_tup (pa_cons pe_int (pa_cons pe_int pa_nil))) pa_nil))) (pa_cons (pe_c c_law_product hr (by decide) (by rfl) (pa_cons (pe_ix ix_A (pv 2) pe_int (fun _ _ => rfl)) (pa_cons (pe_tup (pa_cons (pe_un un_neg pe_int) (pa_cons pe_int pa_nil))) pa_nil))) pa_nil)))))))
      (pss_cons (ps_set (i := 7) sc_law_asked.nd rfl (.inl rfl) (pe_c c_law_beside hr (by decide) (by rfl) (pa_cons (pe_c c_law_along hr (by decide) (by rfl) (pa_cons (pe_ix ix_A (pv 4) pe_int (fun _ _ => rfl)) (pa_cons (pv 4) (pa_cons (pv 5) pa_nil)))) (pa_cons (pv 4) (pa_cons (pe_ix ix_A (pv 6) (pe_c c_law_draw hr (by decide) (by rfl) (pa_cons (pv 0) (pa_cons pe_int pa_nil))) (fun _ _ => rfl)) pa_nil)))))
      (pss_cons (ps_set (i := 8) sc_law_asked.nd rfl (.inl rfl) (pe_ix ix_A (pe_ix ix_A (pv 1) pe_int (fun _ _ => rfl)) (pe_c c_law_draw hr (by decide) (by rfl) (pa_cons (pv 0) (pa_cons (pe_callB call_len_seq (by rfl) B.len (by decide +kernel) (pa_cons (pe_ix ix_A (pv 1) pe_int (fun _ _ => rfl)) pa_nil)) pa_nil))) (fun _ _ => rfl)))
      (pss_cons (ps_set (i := 9) sc_law_asked.nd rfl (.inl rfl) (pe_c c_law_product hr (by decide) (by rfl) (pa_cons (pe_ix ix_A (pv 2) pe_int (fun _ _ => rfl)) (pa_cons (pe_c c_law_fraction hr (by decide) (by rfl) (pa_cons (pe_op op_sub (pe_c c_law_draw hr (by decide) (by rfl) (pa_cons (pv 0) (pa_cons pe_int pa_nil))) pe_int) (pa_cons pe_int pa_nil))) pa_nil))))
      (pss_cons (ps_set (i := 10) sc_law_asked.nd rfl (.inl rfl) (pe_c c_law_gone hr (by decide) (by rfl) (pa_cons (pv 8) (pa_cons (pv 9) (pa_cons (pe_c c_law_product hr (by decide) (by rfl) (pa_cons (pe_ix ix_A (pv 2) pe_int (fun _ _ => rfl)) (pa_cons (pe_c c_law_fraction hr (by decide) (by rfl) (pa_cons (pe_op op_sub (pe_c c_law_draw hr (by decide) (by rfl) (pa_cons (pv 0) (pa_cons pe_int pa_nil))) pe_int) (pa_cons pe_int pa_nil))) pa_nil))) pa_nil)))))
      (pss_cons (ps_set (i := 11) sc_law_asked.nd rfl (.inl rfl) (pe_c c_law_gone hr (by decide) (by rfl) (pa_cons (pv 7) (pa_cons (pe_c c_law_fraction hr (by decide) (by rfl) (pa_cons (pe_op op_sub (pe_c c_law_draw hr (by decide) (by rfl) (pa_cons (pv 0) (pa_cons pe_int pa_nil))) pe_int) (pa_cons pe_int pa_nil))) (pa_cons (pe_c c_law_fraction hr (by decide) (by rfl) (pa_cons (pe_op op_sub (pe_c c_law_draw hr (by decide) (by rfl) (pa_cons (pv 0) (pa_cons pe_int pa_nil))) pe_int) (pa_cons pe_int pa_nil))) pa_nil)))))
      (pss_one (ps_ret (pe_lst (pa_cons (pv 7) (pa_cons (pv 10) (pa_cons (pv 11) (pa_cons (pv 8) pa_nil)))))))))))))))))
    (sns_seq (sns_asg (sn_call (C := C_law_ways) (sna_cons (sn_var (i := 1)) sna_nil)) (sng_name (i := 3)))
      (sns_seq (sns_asg (sn_op snr_ix (sn_var (i := 3)) (sn_call (C := C_law_draw) (sna_cons (sn_var (i := 0)) (sna_cons (sn_cb snc_len (sna_cons (sn_var (i := 3)) sna_nil)) sna_nil)))) (sng_name (i := 4)))
      (sns_seq (sns_asg (sn_call (C := C_law_product) (sna_cons (sn_op snr_ix (sn_var (i := 4)) sn_int) (sna_cons (sn_call (C := C_law_fraction) (sna_cons (sn_op snr_I (sn_call (C := C_law_draw) (sna_cons (sn_var (i := 0)) (sna_cons sn_int sna_nil))) sn_int) (sna_cons sn_int sna_nil))) sna_nil))) (sng_name (i := 5)))
      (sns_seq (sns_asg (sn_lst (sna_cons (sn_op snr_ix (sn_var (i := 2)) sn_int) (sna_cons (sn_call (C := C_law_minus) (sna_cons (sn_op snr_ix (sn_var (i := 2)) sn_int) sna_nil)) (sna_cons (sn_tup (sna_cons sn_int (sna_cons sn_int sna_nil))) (sna_cons (sn_call (C := C_law_product) (sna_cons (sn_op snr_ix (sn_var (i := 2)) sn_int) (sna_cons (sn_tup (sna_cons sn_int (sna_cons sn_int sna_nil))) sna_nil))) (sna_cons (sn_call (C := C_law_product) (sna_cons (sn_op snr_ix (sn_var (i := 2)) sn_int) (sna_cons (sn_tup (sna_cons (sn_un snu_neg sn_int) (sna_cons sn_int sna_nil))) sna_nil))) sna_nil)))))) (sng_name (i := 6)))
      (sns_seq (sns_asg (sn_call (C := C_law_beside) (sna_cons (sn_call (C := C_law_along) (sna_cons (sn_op snr_ix (sn_var (i := 4)) sn_int) (sna_cons (sn_var (i := 4)) (sna_cons (sn_var (i := 5)) sna_nil)))) (sna_cons (sn_var (i := 4)) (sna_cons (sn_op snr_ix (sn_var (i := 6)) (sn_call (C := C_law_draw) (sna_cons (sn_var (i := 0)) (sna_cons sn_int sna_nil)))) sna_nil)))) (sng_name (i := 7)))
      (sns_seq (sns_asg (sn_op snr_ix (sn_op snr_ix (sn_var (i := 1)) sn_int) (sn_call (C := C_law_draw) (sna_cons (sn_var (i := 0)) (sna_cons (sn_cb snc_len (sna_cons (sn_op snr_ix (sn_var (i := 1)) sn_int) sna_nil)) sna_nil)))) (sng_name (i := 8)))
      (sns_seq (sns_asg (sn_call (C := C_law_product) (sna_cons (sn_op snr_ix (sn_var (i := 2)) sn_int) (sna_cons (sn_call (C := C_law_fraction) (sna_cons (sn_op snr_I (sn_call (C := C_law_draw) (sna_cons (sn_var (i := 0)) (sna_cons sn_int sna_nil))) sn_int) (sna_cons sn_int sna_nil))) sna_nil))) (sng_name (i := 9)))
      (sns_seq (sns_asg (sn_call (C := C_law_gone) (sna_cons (sn_var (i := 8)) (sna_cons (sn_var (i := 9)) (sna_cons (sn_call (C := C_law_product) (sna_cons (sn_op snr_ix (sn_var (i := 2)) sn_int) (sna_cons (sn_call (C := C_law_fraction) (sna_cons (sn_op snr_I (sn_call (C := C_law_draw) (sna_cons (sn_var (i := 0)) (sna_cons sn_int sna_nil))) sn_int) (sna_cons sn_int sna_nil))) sna_nil))) sna_nil)))) (sng_name (i := 10)))
      (sns_seq (sns_asg (sn_call (C := C_law_gone) (sna_cons (sn_var (i := 7)) (sna_cons (sn_call (C := C_law_fraction) (sna_cons (sn_op snr_I (sn_call (C := C_law_draw) (sna_cons (sn_var (i := 0)) (sna_cons sn_int sna_nil))) sn_int) (sna_cons sn_int sna_nil))) (sna_cons (sn_call (C := C_law_fraction) (sna_cons (sn_op snr_I (sn_call (C := C_law_draw) (sna_cons (sn_var (i := 0)) (sna_cons sn_int sna_nil))) sn_int) (sna_cons sn_int sna_nil))) sna_nil)))) (sng_name (i := 11)))
      (sns_ret (sn_lst (sna_cons (sn_var (i := 7)) (sna_cons (sn_var (i := 10)) (sna_cons (sn_var (i := 11)) (sna_cons (sn_var (i := 8)) sna_nil))))))))))))))) ?_
  · exact Con.lenN fun _ => rfl
  · rintro ds t Q ⟨⟨l, r⟩, rfl, ⟨hl, hr, ht⟩, q⟩
    have hl : l.Ok := hl
    have hr : r.Ok := hr
    have ht : t ≤ 9400 := ht
    have two := hl.two
    have nine := hl.nine
    have L := pieces_len two
    have L9 := pieces_len9 two
    have L1 : 1 ≤ l.pieces.length := by rw [L]; split <;> omega
    have bh := hr.bh
    refine ⟨l, rfl, hl, ?_⟩
    refine draw (m := ((l.pieces.map dWay).length : Int)) (by rw [List.length_map]; omega) (by rw [List.length_map]; omega) (by omega) fun r1 a1 b1 => ?_
    refine pick a1 b1 fun d hd => ?_
    obtain ⟨e, he, rfl⟩ := List.mem_map.mp hd
    have hc : PcE e := hl.ex e he
    have c := pc_of hc
    refine draw (by decide) (by decide) (by omega) fun r2 a2 b2 => ?_
    have xB : Bd 5 (r2 - 3) := bdN (by omega) (by omega)
    have six : Bd 5 6 := by unfold Bd; decide
    refine ⟨(r2 - 3, 6), rfl, ⟨by show (6 : Int) ≠ 0; decide, xB.mono (by decide), six.mono (by decide)⟩, ?_⟩
    have fB : RB 5 (((r2 - 3 : Int) : Rat) / ((6 : Int) : Rat)) := rb_of xB six (by decide)
    refine ⟨(LOf e, ((r2 - 3 : Int) : Rat) / ((6 : Int) : Rat)), rfl, ⟨_, _, c.bL, fB, by decide⟩, ?_⟩
    have z0 : RB 24 0 := ⟨by unfold Bd; decide, by unfold Bd; decide⟩
    have f1 : RB 4 (⟨3, 5, by decide, by decide⟩ : Rat) := ⟨by unfold Bd; decide, by unfold Bd; decide⟩
    have f2 : RB 4 (⟨-5, 4, by decide, by decide⟩ : Rat) := ⟨by unfold Bd; decide, by unfold Bd; decide⟩
    refine ⟨r.half, rfl, trivial, (r.half, ⟨3, 5, by decide, by decide⟩), rfl, ⟨_, _, bh, f1, by decide⟩, (r.half, ⟨-5, 4, by decide, by decide⟩), rfl, ⟨_, _, bh, f2, by decide⟩, ?_⟩
    have shB := c.bL.mul fB
    have ba := c.ba
    refine ⟨(e.1, e, LOf e * (((r2 - 3 : Int) : Rat) / ((6 : Int) : Rat))), rfl, ⟨hc, _, _, ba, shB, by decide⟩, ?_⟩
    have alB := addP_pb ba (shB.mul c.bu.1) (shB.mul c.bu.2)
    refine draw (by decide) (by decide) (by omega) fun r3 a3 b3 => ?_
    refine pick a3 b3 fun d hd => ?_
    obtain ⟨far, rfl, farB⟩ : ∃ far : Rat, d = dR far ∧ RB 24 far := by
      simp only [List.mem_cons, List.not_mem_nil, or_false] at hd
      rcases hd with rfl | rfl | rfl | rfl | rfl
      · exact ⟨r.half, rfl, bh.mono (by decide)⟩
      · exact ⟨-r.half, rfl, bh.neg.mono (by decide)⟩
      · exact ⟨0, rfl, z0⟩
      · exact ⟨_, rfl, (bh.mul f1).mono (by decide)⟩
      · exact ⟨_, rfl, (bh.mul f2).mono (by decide)⟩
    refine ⟨(_, e, far), rfl, ⟨hc, _, _, alB, farB, by decide⟩, ?_⟩
    have oneB := addP_pb alB (farB.mul c.bu.2).neg (farB.mul c.bu.1)
    refine draw (m := ((l.pts.map dP).length : Int)) (by rw [List.length_map]; omega) (by rw [List.length_map]; omega) (by omega) fun r4 a4 b4 => ?_
    refine pick a4 b4 fun d hd => ?_
    obtain ⟨p, hp, rfl⟩ := List.mem_map.mp hd
    have bp : PB 90 p := pts_pb hl hp
    refine draw (by decide) (by decide) (by omega) fun r5 a5 b5 => ?_
    have three : Bd 5 3 := by unfold Bd; decide
    have yB : Bd 5 (r5 - 4) := bdN (by omega) (by omega)
    refine ⟨(r5 - 4, 3), rfl, ⟨by show (3 : Int) ≠ 0; decide, yB.mono (by decide), three.mono (by decide)⟩, ?_⟩
    have gB : RB 5 (((r5 - 4 : Int) : Rat) / ((3 : Int) : Rat)) := rb_of yB three (by decide)
    refine ⟨(r.half, ((r5 - 4 : Int) : Rat) / ((3 : Int) : Rat)), rfl, ⟨_, _, bh, gB, by decide⟩, ?_⟩
    refine draw (by decide) (by decide) (by omega) fun r6 a6 b6 => ?_
    have zB : Bd 5 (r6 - 4) := bdN (by omega) (by omega)
    refine ⟨(r6 - 4, 3), rfl, ⟨by show (3 : Int) ≠ 0; decide, zB.mono (by decide), three.mono (by decide)⟩, ?_⟩
    have hB : RB 5 (((r6 - 4 : Int) : Rat) / ((3 : Int) : Rat)) := rb_of zB three (by decide)
    refine ⟨(r.half, ((r6 - 4 : Int) : Rat) / ((3 : Int) : Rat)), rfl, ⟨_, _, bh, hB, by decide⟩, ?_⟩
    refine ⟨(p, r.half * (((r5 - 4 : Int) : Rat) / ((3 : Int) : Rat)), r.half * (((r6 - 4 : Int) : Rat) / ((3 : Int) : Rat))), rfl, gb bp (bh.mul gB) (bh.mul hB) (by decide), ?_⟩
    have otB := addP_pb bp (bh.mul gB) (bh.mul hB)
    have n1 : Bd 10 997 := by unfold Bd; decide
    have n2 : Bd 10 991 := by unfold Bd; decide
    refine draw (by decide) (by decide) (by omega) fun r7 a7 b7 => ?_
    have uB : Bd 10 (r7 - 1) := bdN (by omega) (by omega)
    refine ⟨(r7 - 1, 997), rfl, ⟨by show (997 : Int) ≠ 0; decide, uB.mono (by decide), n1.mono (by decide)⟩, ?_⟩
    refine draw (by decide) (by decide) (by omega) fun r8 a8 b8 => ?_
    have vB : Bd 10 (r8 - 1) := bdN (by omega) (by omega)
    refine ⟨(r8 - 1, 991), rfl, ⟨by show (991 : Int) ≠ 0; decide, vB.mono (by decide), n2.mono (by decide)⟩, ?_⟩
    have q7 : RB 10 (((r7 - 1 : Int) : Rat) / ((997 : Int) : Rat)) := rb_of uB n1 (by decide)
    have q8 : RB 10 (((r8 - 1 : Int) : Rat) / ((991 : Int) : Rat)) := rb_of vB n2 (by decide)
    refine ⟨(_, _, _), rfl, gb oneB q7 q8 (by decide), ?_⟩
    have nuB := addP_pb oneB q7 q8
    exact q _ _ ⟨_, _, _, p, rfl, pbs4 (oneB.mono (by decide)) (otB.mono (by decide)) (nuB.mono (by decide)) (bp.mono (by decide)), rfl⟩
end
end DL


/-! ## V15 -/
set_option maxRecDepth 100000
set_option maxHeartbeats 4000000
/-! a draw -/
namespace DL
open PySem PySem.Spec PyProof.Rows L2
open C8 (Cal pe_c pe_gc)
open W15
section
variable {P : Program} {w : World} {K : PySem.W.Frag} {mg : Str → Option Value} {base : Heap}
abbrev s_law_draw : Stmt := topS 52
abbrev N_law_draw : List Str := ["_law_feed_here", "_law_many", "_law_count", "_law_cells", "_law_cell", "_law_mixed", "_law_digit"]
theorem sc_law_draw : FnScope ["_law_feed_here", "_law_many", "_law_count", "_law_cells", "_law_cell", "_law_mixed", "_law_digit"] ["_law_feed_here", "_law_many"] (defScope s_law_draw) := ⟨rfl, rfl, rfl, by decide +kernel, rfl, by decide +kernel, by decide +kernel⟩
theorem ok_law_draw (N : Dn K mg "_law_draw" s_law_draw ["_law_feed_here", "_law_many"]) (B : Bt mg) : Cal P w K mg base 1 "_law_draw" (LSp K C_law_draw) [] := by
  refine N.ok sc_law_draw ?_ (fun f cdv A outer s H E hr => (pss_cons (ps_set (i := 2) sc_law_draw.nd rfl (.inl rfl) (pe_op op_addA (pe_dget (Nat.lt_of_le_of_lt (Nat.add_le_add_left (by decide) _) hr.units) (pv 0) pe_str (fun _ _ => rfl)) pe_int))
      (pss_cons (ps_dput (Nat.lt_of_le_of_lt (Nat.add_le_add_left (by decide) _) hr.units) (pv 0) pe_str (pv 2) rfl)
      (pss_cons (ps_if (pt_cmpR op_gt (pe_dget (Nat.lt_of_le_of_lt (Nat.add_le_add_left (by decide) _) hr.units) (pv 0) pe_str (fun _ _ => rfl)) pe_int (nomark _)) (pss_cons (ps_set (i := 6) sc_law_draw.nd rfl (.inl rfl) (pe_op op_modN (pe_dget (Nat.lt_of_le_of_lt (Nat.add_le_add_left (by decide) _) hr.units) (pv 0) pe_str (fun _ _ => rfl)) (pv 1)))
      (pss_cons (ps_dput (Nat.lt_of_le_of_lt (Nat.add_le_add_left (by decide) _) hr.units) (pv 0) pe_str (pe_op op_fdivB (pe_dget (Nat.lt_of_le_of_lt (Nat.add_le_add_left (by decide) _) hr.units) (pv 0) pe_str (fun _ _ => rfl)) (pv 1)) rfl)
      (pss_one (ps_ret (pv 6))))) pss_nil)
      (pss_cons (ps_set (i := 3) sc_law_draw.nd rfl (.inl rfl) (pe_dget (Nat.lt_of_le_of_lt (Nat.add_le_add_left (by decide) _) hr.units) (pv 0) pe_str (fun _ _ => rfl)))
      (pss_cons (ps_set (i := 4) sc_law_draw.nd rfl (.inl rfl) (pe_ifExp (pt_cmpR op_gt (pe_callB call_len_seq (by rfl) B.len (by decide +kernel) (pa_cons (pv 3) pa_nil)) pe_int (nomark _)) (pe_ix ix_A (pv 3) (pe_op op_modN (pe_dget (Nat.lt_of_le_of_lt (Nat.add_le_add_left (by decide) _) hr.units) (pv 0) pe_str (fun _ _ => rfl)) (pe_callB call_len_seq (by rfl) B.len (by decide +kernel) (pa_cons (pv 3) pa_nil))) (fun _ _ => rfl)) pe_int))
      (pss_cons (ps_dput (Nat.lt_of_le_of_lt (Nat.add_le_add_left (by decide) _) hr.units) (pv 0) pe_str (pe_op op_addA (pe_dget (Nat.lt_of_le_of_lt (Nat.add_le_add_left (by decide) _) hr.units) (pv 0) pe_str (fun _ _ => rfl)) pe_int) rfl)
      (pss_cons (ps_if (PW.pt (pw_and (pt_cmpR op_ge (pv 4) (pe_op op_pow pe_int pe_int) (nomark _)) (pw_and1 (pt_cmpR op_le (pe_dget (Nat.lt_of_le_of_lt (Nat.add_le_add_left (by decide) _) hr.units) (pv 0) pe_str (fun _ _ => rfl)) (pe_callB call_len_seq (by rfl) B.len (by decide +kernel) (pa_cons (pv 3) pa_nil)) (nomark _))))) (pss_cons (ps_dput (Nat.lt_of_le_of_lt (Nat.add_le_add_left (by decide) _) hr.units) (pv 0) pe_str (pe_op op_fdivB (pv 4) (pv 1)) rfl)
      (pss_one (ps_ret (pe_op op_modN (pv 4) (pv 1))))) pss_nil)
      (pss_cons (ps_set (i := 5) sc_law_draw.nd rfl (.inl rfl) (pe_op op_modN (pe_op op_mulB (pe_op op_addA (pe_op op_addA (pe_op op_addA (pe_op op_modN (pv 4) pe_int) (pe_op op_mulB (pe_op op_mulB pe_int (pv 2)) (pv 2))) (pe_op op_mulB pe_int (pv 2))) pe_int) pe_int) pe_int))
      (pss_cons (ps_set (i := 5) sc_law_draw.nd rfl (.inl rfl) (pe_op op_modN (pe_op op_addA (pe_op op_mulB (pe_op op_fdivB (pv 5) pe_int) pe_int) (pe_op op_mulB pe_int (pv 2))) pe_int))
      (pss_one (ps_ret (pe_op op_modN (pe_op op_fdivB (pv 5) pe_int) (pv 1))))))))))))))
    (sns_seq (sns_asg (sn_op snr_add (sn_fturn (i := 0)) sn_int) (sng_name (i := 2)))
      (sns_seq (sns_fputT (i := 0) (sn_var (i := 2)))
      (sns_seq (sns_if (snt_test (sn_op snr_B (sn_fleft (i := 0)) sn_int)) (sns_seq (sns_asg (sn_op snr_IC (sn_fleft (i := 0)) (sn_var (i := 1))) (sng_name (i := 6)))
      (sns_seq (sns_fputL (i := 0) (sn_op snr_IC (sn_fleft (i := 0)) (sn_var (i := 1))))
      (sns_ret (sn_var (i := 6))))) sns_nil)
      (sns_seq (sns_asg (sn_fcells (i := 0)) (sng_name (i := 3)))
      (sns_seq (sns_asg (sn_if (snt_test (sn_op snr_B (sn_cb snc_len (sna_cons (sn_var (i := 3)) sna_nil)) sn_int)) (sn_op snr_ix (sn_var (i := 3)) (sn_op snr_IC (sn_fat (i := 0)) (sn_cb snc_len (sna_cons (sn_var (i := 3)) sna_nil)))) sn_int) (sng_name (i := 4)))
      (sns_seq (sns_fputA (i := 0) (sn_op snr_add (sn_fat (i := 0)) sn_int))
      (sns_seq (sns_if (snt_and (snt_test (sn_op snr_B (sn_var (i := 4)) (sn_op snr_IC sn_int sn_int))) (snt_test (sn_op snr_B (sn_fat (i := 0)) (sn_cb snc_len (sna_cons (sn_var (i := 3)) sna_nil))))) (sns_seq (sns_fputL (i := 0) (sn_op snr_IC (sn_var (i := 4)) (sn_var (i := 1))))
      (sns_ret (sn_op snr_IC (sn_var (i := 4)) (sn_var (i := 1))))) sns_nil)
      (sns_seq (sns_asg (sn_op snr_IC (sn_op snr_IC (sn_op snr_add (sn_op snr_add (sn_op snr_add (sn_op snr_IC (sn_var (i := 4)) sn_int) (sn_op snr_IC (sn_op snr_IC sn_int (sn_var (i := 2))) (sn_var (i := 2)))) (sn_op snr_IC sn_int (sn_var (i := 2)))) sn_int) sn_int) sn_int) (sng_name (i := 5)))
      (sns_seq (sns_asg (sn_op snr_IC (sn_op snr_add (sn_op snr_IC (sn_op snr_IC (sn_var (i := 5)) sn_int) sn_int) (sn_op snr_IC sn_int (sn_var (i := 2)))) sn_int) (sng_name (i := 5)))
      (sns_ret (sn_op snr_IC (sn_op snr_IC (sn_var (i := 5)) sn_int) (sn_var (i := 1))))))))))))) ?_
  · exact Con.lenN fun _ => rfl
  · rintro ds t Q ⟨m, rfl, ⟨h1, h2, ht⟩, q⟩
    have h1 : 1 ≤ m := h1
    have h2 : m ≤ 1000 := h2
    have ht : t ≤ 10000 := ht
    have q : ∀ x : Int, Q (.int (x.fmod m)) (t + 1) := fun x => by
      obtain ⟨a, b⟩ := fmod_lt (x := x) (y := m) (by omega)
      exact q _ _ ⟨_, a, b, rfl, rfl⟩
    have m0 : m ≠ 0 := by omega
    have mB : Bd 10 m := bdN (by omega) (by omega)
    have dM : ∀ x : Int, CDivB x m := fun x => ⟨m0, .inl ⟨10, mB, by decide⟩⟩
    have nnd : ∀ x : Int, 0 ≤ x → 0 ≤ x.fdiv m := fun x hx => by
      rw [Int.fdiv_eq_ediv_of_nonneg _ (by omega)]
      exact Int.ediv_nonneg hx (by omega)
    have mixed : ∀ c : Int, (1000003 : Int) ≠ 0 ∧ CMulB 31 ((t : Int) + 1) ∧ CMulB (31 * ((t : Int) + 1)) ((t : Int) + 1) ∧ CMulB 7 ((t : Int) + 1) ∧ CMulB (c.fmod 1000003 + 31 * ((t : Int) + 1) * ((t : Int) + 1) + 7 * ((t : Int) + 1) + 11) 48271 ∧ (2147483647 : Int) ≠ 0 ∧
        CDivB (((c.fmod 1000003 + 31 * ((t : Int) + 1) * ((t : Int) + 1) + 7 * ((t : Int) + 1) + 11) * 48271).fmod 2147483647) 64 ∧ CMulB ((((c.fmod 1000003 + 31 * ((t : Int) + 1) * ((t : Int) + 1) + 7 * ((t : Int) + 1) + 11) * 48271).fmod 2147483647).fdiv 64) 69621 ∧ CMulB 7919 ((t : Int) + 1) ∧ (2147483587 : Int) ≠ 0 ∧ CDivB (((((c.fmod 1000003 + 31 * ((t : Int) + 1) * ((t : Int) + 1) + 7 * ((t : Int) + 1) + 11) * 48271).fmod 2147483647).fdiv 64 * 69621 + 7919 * ((t : Int) + 1)).fmod 2147483587) 64 ∧ m ≠ 0 ∧ Q (.int (((((((c.fmod 1000003 + 31 * ((t : Int) + 1) * ((t : Int) + 1) + 7 * ((t : Int) + 1) + 11) * 48271).fmod 2147483647).fdiv 64 * 69621 + 7919 * ((t : Int) + 1)).fmod 2147483587).fdiv 64).fmod m)) (t + 1) := fun c => by
      have cB : Bd 14 ((t : Int) + 1) := bdN (by omega) (by omega)
      have b31 : Bd 5 31 := by unfold Bd; decide
      have b7 : Bd 5 7 := by unfold Bd; decide
      have b48 : Bd 16 48271 := by unfold Bd; decide
      have b69 : Bd 17 69621 := by unfold Bd; decide
      have b79 : Bd 13 7919 := by unfold Bd; decide
      have b11 : Bd 5 11 := by unfold Bd; decide
      have d64 : ∀ x : Int, CDivB x 64 := fun x => ⟨by decide, .inl ⟨7, by unfold Bd; decide, by decide⟩⟩
      have f1 := fmod_lt (x := c) (y := 1000003) (by decide)
      have fB : Bd 20 (c.fmod 1000003) := bdN (by omega) (by omega)
      have xB := ((fB.add ((b31.mul cB).mul cB)).add (b7.mul cB)).add b11
      have f2 := fmod_lt (x := (c.fmod 1000003 + 31 * ((t : Int) + 1) * ((t : Int) + 1) + 7 * ((t : Int) + 1) + 11) * 48271) (y := 2147483647) (by decide)
      have mB1 : Bd 31 (((c.fmod 1000003 + 31 * ((t : Int) + 1) * ((t : Int) + 1) + 7 * ((t : Int) + 1) + 11) * 48271).fmod 2147483647) := bdN (by omega) (by omega)
      have mB2 : Bd 31 ((((c.fmod 1000003 + 31 * ((t : Int) + 1) * ((t : Int) + 1) + 7 * ((t : Int) + 1) + 11) * 48271).fmod 2147483647).fdiv 64) := by
        refine mB1.le ?_
        rw [Int.fdiv_eq_ediv_of_nonneg _ (by decide)]
        exact ediv_le _ 64
      exact ⟨by decide, mulB b31 cB (by decide), mulB (b31.mul cB) cB (by decide), mulB b7 cB (by decide), mulB xB b48 (by decide), by decide, d64 _, mulB mB2 b69 (by decide), mulB b79 cB (by decide), by decide, d64 _, m0, q _⟩
    refine ⟨rfl, ?_⟩
    intro l hl
    show if decide (0 < l) = true then _ else _
    refine ite2 (fun _ => ?_) (fun _ => ?_)
    · intro l2 hl2
      refine ⟨m0, ?_⟩
      intro l3 hl3
      refine ⟨dM l3, ?_⟩
      exact ⟨_, rfl, nnd l3 hl3, q l2⟩
    · intro ns hns
      have hL : ((ns.map D.int).length : Int) = (ns.length : Int) := by rw [List.length_map]
      show if decide ((0 : Int) < ((ns.map D.int).length : Int)) = true then _ else _
      refine ite2 (fun h => ?_) (fun _ => ?_)
      · have h := of_decide_eq_true h
        intro a ha
        refine ⟨by omega, ?_⟩
        have hf := fmod_lt (x := a) h
        refine pick hf.1 hf.2 fun d hd => ?_
        obtain ⟨c, _, rfl⟩ := List.mem_map.mp hd
        intro a2 ha2
        refine ⟨a2 + 1, rfl, by omega, ?_⟩
        refine ⟨⟨by decide, by decide, by decide⟩, ?_⟩
        show if decide ((10 : Int) ^ 18 ≤ c) = true then _ else _
        have mixed := mixed c
        refine ite2 (fun hc => ?_) (fun _ => ?_)
        · have hc : (10 : Int) ^ 18 ≤ c := of_decide_eq_true hc
          intro a3 ha3
          show if decide (a3 ≤ ((ns.map D.int).length : Int)) = true then _ else _
          refine ite2 (fun _ => ?_) (fun _ => ?_)
          · exact ⟨dM _, _, rfl, nnd _ (by omega), m0, q _⟩
          · exact mixed
        · exact mixed
      · intro a2 ha2
        refine ⟨a2 + 1, rfl, by omega, ?_⟩
        refine ⟨⟨by decide, by decide, by decide⟩, ?_⟩
        exact mixed 0
end
end DL


/-! ## V16 -/
set_option maxRecDepth 100000
set_option maxHeartbeats 4000000
/-! the law -/
namespace DL
open PySem PySem.Spec PyProof.Rows L2
open C8 (Cal pe_c pe_gc)
open W15
section
variable {P : Program} {w : World} {K : PySem.W.Frag} {mg : Str → Option Value} {base : Heap}
def spFeed (K : PySem.W.Frag) : Sp := fun vs H Q _ => ∃ (a : Addr) (ns : List Int), vs = [.ref a] ∧ SqL K H a (ns.map V.int) ∧ ns.length ≤ 63 ∧ ∀ (p c : Addr) (H' : Hp), p ≠ c → H' p = some (.dK (fdK c 0 0 0)) → H' c = some (.lst (ns.map V.int)) → Q (.ref p) H'
theorem cut63 (ns : List Int) (h : ns.length ≤ 63) : cutV (ns.map V.int) none (some 63) = ns.map V.int := by
  unfold cutV
  have e : HT.sIx (ns.map V.int).length (ns.map V.int).length (some 63) = min 63 (ns.map V.int).length := HT.sIx_nat _ _ 63
  rw [e, HT.sIx_none, List.drop_zero, Nat.sub_zero, List.take_of_length_le]
  rw [List.length_map]
  omega
abbrev s_law_feed : Stmt := topS 51
abbrev N_law_feed : List Str := ["_law_script"]
theorem sc_law_feed : FnScope ["_law_script"] ["_law_script"] (defScope s_law_feed) := ⟨rfl, rfl, rfl, by decide +kernel, rfl, by decide +kernel, by decide +kernel⟩
theorem ok_law_feed (N : Dn K mg "_law_feed" s_law_feed ["_law_script"]) : Cal P w K mg base 1 "_law_feed" (spFeed K) [] := by
  obtain ⟨f, fd, F, hm, b⟩ := N.ex
  refine ⟨f, fd, _, [], F.ok sc_law_feed (fun vs H Q E h => ?_) (fun cdv A outer s H vs Q E hr h => ?_), hm, F.kp, b, .nil⟩
  · obtain ⟨a, ns, rfl, _⟩ := h
    rfl
  · obtain ⟨a, ns, rfl, hS, hlen, q⟩ := h
    refine ⟨_, pss_one (ps_ret (pe_disp (pps_cons pe_str (pe_slice sl_list (pv 0) po_none (po_some pe_int)) (pps_cons pe_str pe_int (pps_cons pe_str pe_int (pps_cons pe_str pe_int pps_nil)))) rfl rfl (by simp) (by decide))), ?_⟩
    intro p hp
    have hS' : SqL K (upd H p (.dK [])) a (ns.map V.int) := (show Same H (upd H p (.dK [])) from fun b o e => by rw [upd_ne (ne_of_none e hp)]; exact e).seq hS
    refine ⟨.ref a, rfl, 63, rfl, a, _, rfl, hS', fun c hc => ?_⟩
    rw [cut63 ns hlen]
    have ne : c ≠ p := fun z => by
      rw [z, upd_same] at hc
      cases hc
    refine ⟨by rw [upd_ne ne.symm, upd_same], fdK c 0 0 0, rfl, by show 4 ≤ 15; decide, ?_⟩
    exact q p c _ ne.symm upd_same (by rw [upd_ne ne, upd_same])
end
end DL


/-! ## V17 -/
set_option maxRecDepth 100000
set_option maxHeartbeats 4000000
/-! the law itself -/
namespace DL
open PySem PySem.Spec PyProof.Rows L2
open C8 (Cal pe_c pe_gc)
open W15
section
variable {P : Program} {w : World} {K : PySem.W.Frag} {mg : Str → Option Value} {base : Heap}
theorem forW_keep {α : Type} {wg : WG} {wb : WS} {E : ED} {f : α → D} {R : Nat → List Sl → Nat → Prop} : ∀ (xs : List α) (δ : List Sl) (t : Nat), R xs.length δ t →
    (∀ x ∈ xs, ∀ n δ t, R (n + 1) δ t → ∀ N : List Sl → Nat → Prop, (∀ δ' t', R n δ' t' → N δ' t') → wg (f x) δ fun δ' => wb { nx := N, rt := E.rt, bk := E.nx, ct := N } δ' t) →
    (∀ δ t, R 0 δ t → E.nx δ t) → forW wg wb E (xs.map f) δ t
  | [], δ, t, hR, _, hF => hF δ t hR
  | x :: xs, δ, t, hR, hb, hF => hb x List.mem_cons_self xs.length δ t hR _ fun δ' t' h => forW_keep xs δ' t' h (fun y hy => hb y (List.mem_cons_of_mem _ hy)) hF
abbrev s_law : Stmt := topS 91
abbrev N_law : List Str := ["_law_script", "_law_feed_here", "_law_k", "_law_line_here", "_law_rule_here", "_law_shapes", "_law_turn_here", "_law_one"]
theorem sc_law : FnScope ["_law_script", "_law_feed_here", "_law_k", "_law_line_here", "_law_rule_here", "_law_shapes", "_law_turn_here", "_law_one"] ["_law_script"] (defScope s_law) := ⟨rfl, rfl, rfl, by decide +kernel, rfl, by decide +kernel, by decide +kernel⟩
def spLaw (K : PySem.W.Frag) : Sp := fun vs H Q _ => ∃ (a : Addr) (ns : List Int), vs = [.ref a] ∧ SqL K H a (ns.map V.int) ∧ ns.length ≤ 63 ∧ ∀ H', Q (.bl true) H'
theorem ok_law {f : Addr} {fd : FuncData} (F : Fun K "law" "law" s_law f fd) (B : Bt mg) (c_law_feed : Cal P w K mg base 1 "_law_feed" (spFeed K) []) (c_law_line : Cal P w K mg base 5 "_law_line" (LSp K C_law_line) [])
    (c_law_folded_line : Cal P w K mg base 4 "_law_folded_line" (LSp K C_law_folded_line) []) (c_law_rule : Cal P w K mg base 2 "_law_rule" (LSp K C_law_rule) []) (c_widened : Cal P w K mg base 9 "widened" (LSp K C_widened) [])
    (c_law_asked : Cal P w K mg base 5 "_law_asked" (LSp K C_law_asked) []) (c_in_area : Cal P w K mg base 4 "in_area" (LSp K C_in_area) []) (c_law_in_wide : Cal P w K mg base 7 "_law_in_wide" (LSp K C_law_in_wide) []) :
    FnOk P w K mg base CX0 10 f fd ["_law_script"] (spLaw K) := by
  refine F.ok sc_law (fun vs H Q E h => ?_) (fun cdv A outer s H vs Q E hr h => ?_)
  · obtain ⟨a, ns, rfl, _⟩ := h
    rfl
  · obtain ⟨a, ns, rfl, hS, hlen, q⟩ := h
    refine ⟨_, pss_cons (ps_set (i := 1) sc_law.nd rfl (.inl rfl) (pe_c c_law_feed hr (by decide) (by rfl) (pa_cons (pv 0) pa_nil))) ((pss_cons (ps_for PassesOwn.never rfl (pi_range1 (by rfl) B.range (pa_cons pe_int pa_nil)) (pg_name (i := 2) sc_law.nd rfl (.inl rfl)) (pss_cons (ps_set (i := 3) sc_law.nd rfl (.inl rfl) (pe_ifExp (pt_cmpR op_lt (pv 2) pe_int (nomark _)) (pe_c c_law_line hr (by decide) (by rfl) (pa_cons (pv 1) (pa_cons pe_int pa_nil))) (pe_c c_law_folded_line hr (by decide) (by rfl) (pa_cons (pv 1) pa_nil))))
      (pss_cons (ps_set (i := 4) sc_law.nd rfl (.inl rfl) (pe_c c_law_rule hr (by decide) (by rfl) (pa_cons (pv 1) pa_nil)))
      (pss_cons (ps_set (i := 5) sc_law.nd rfl (.inl rfl) (pe_c c_widened hr (by decide) (by rfl) (pa_cons (pv 3) (pa_cons (pv 4) pa_nil))))
      (pss_one (ps_for PassesOwn.never rfl (pi_range1 (by rfl) B.range (pa_cons pe_int pa_nil)) (pg_name (i := 6) sc_law.nd rfl (.inl rfl)) (pss_one (ps_for PassesOwn.never rfl (pi_seq (pe_c c_law_asked hr (by decide) (by rfl) (pa_cons (pv 1) (pa_cons (pv 3) (pa_cons (pv 4) pa_nil))))) (pg_name (i := 7) sc_law.nd rfl (.inl rfl)) (pss_one (ps_if (pt_cmpR (op_neA hr.units) (pe_callB call_repr_bl (by rfl) B.repr (by decide +kernel) (pa_cons (pe_c c_in_area hr (by decide) (by rfl) (pa_cons (pv 5) (pa_cons (pv 7) pa_nil))) pa_nil)) (pe_callB call_repr_bl (by rfl) B.repr (by decide +kernel) (pa_cons (pe_c c_law_in_wide hr (by decide) (by rfl) (pa_cons (pv 3) (pa_cons (pv 4) (pa_cons (pv 7) pa_nil)))) pa_nil)) (nomark _)) (pss_one (ps_ret pe_bl)) pss_nil))))))))))
      (pss_one (ps_ret pe_bl)))), ?_⟩
    refine ⟨.ref a, rfl, a, ns, rfl, hS, hlen, fun p c H1 hpc e1 e2 => ?_⟩
    refine ((sns_seq (sns_for (sni_rng (sna_cons sn_int sna_nil)) (sng_name (i := 2)) (sns_seq (sns_asg (sn_if (snt_test (sn_op snr_B (sn_var (i := 2)) sn_int)) (sn_call (C := C_law_line) (sna_cons (sn_var (i := 1)) (sna_cons sn_int sna_nil))) (sn_call (C := C_law_folded_line) (sna_cons (sn_var (i := 1)) sna_nil))) (sng_name (i := 3)))
      (sns_seq (sns_asg (sn_call (C := C_law_rule) (sna_cons (sn_var (i := 1)) sna_nil)) (sng_name (i := 4)))
      (sns_seq (sns_asg (sn_call (C := C_widened) (sna_cons (sn_var (i := 3)) (sna_cons (sn_var (i := 4)) sna_nil))) (sng_name (i := 5)))
      (sns_for (sni_rng (sna_cons sn_int sna_nil)) (sng_name (i := 6)) (sns_for (sni_seq (sn_call (C := C_law_asked) (sna_cons (sn_var (i := 1)) (sna_cons (sn_var (i := 3)) (sna_cons (sn_var (i := 4)) sna_nil))))) (sng_name (i := 7)) (sns_if (snt_test (sn_op snr_ne (sn_cb snc_repr (sna_cons (sn_call (C := C_in_area) (sna_cons (sn_var (i := 5)) (sna_cons (sn_var (i := 7)) sna_nil))) sna_nil)) (sn_cb snc_repr (sna_cons (sn_call (C := C_law_in_wide) (sna_cons (sn_var (i := 3)) (sna_cons (sn_var (i := 4)) (sna_cons (sn_var (i := 7)) sna_nil)))) sna_nil)))) (sns_ret sn_bl) sns_nil)))))))
      (sns_ret sn_bl)) : SnS K _ _) (some (p, c)) (fun b => if b = c then some (.lst (ns.map V.int)) else none) H1 { nx := fun _ _ => False, rt := fun d _ => d = .bl true } _ [.no, .dat .feed, .no, .no, .no, .no, .no, .no] 0 _ (fun b => if b = c then some (.lst (ns.map V.int)) else none) H1 ?_ ?_ ?_ ?_ ?_
    · refine ⟨fun δ t σ G H q _ _ _ => q.elim, fun δ t σ G H q _ _ _ => q.elim, fun δ t σ G H q _ _ _ => q.elim, fun d t v G H hd r _ _ => ?_⟩
      have hd : d = .bl true := hd
      subst hd
      cases r
      exact q H
    · have sub : Same (fun b => if b = c then some (HO.lst (ns.map V.int)) else none) H1 := fun b o e => by
        have e : (if b = c then some (HO.lst (ns.map V.int)) else none) = some o := e
        split at e
        · rename_i hb
          rw [hb, e2]
          exact e
        · cases e
      refine ⟨sub, fun fc e => ?_, rfl, fun i d h => ?_, fun i ds h => ?_, fun i j ds es pp _ h => ?_⟩
      · cases e
        show (if p = c then _ else none) = none
        rw [if_neg hpc]
      · match i, h with
        | 1, h =>
          cases h
          exact ⟨_, rfl, .feed (fc := (p, c)) rfl (ns := ns) (if_pos rfl)⟩
        | 0, h => cases h
        | 2, h => cases h
        | 3, h => cases h
        | 4, h => cases h
        | 5, h => cases h
        | 6, h => cases h
        | 7, h => cases h
        | i + 8, h => cases h
      · match i, h with
        | 0, h => cases h
        | 1, h => cases h
        | 2, h => cases h
        | 3, h => cases h
        | 4, h => cases h
        | 5, h => cases h
        | 6, h => cases h
        | 7, h => cases h
        | i + 8, h => cases h
      · match i, h with
        | 0, h => cases h
        | 1, h => cases h
        | 2, h => cases h
        | 3, h => cases h
        | 4, h => cases h
        | 5, h => cases h
        | 6, h => cases h
        | 7, h => cases h
        | i + 8, h => cases h
    · intro fc e
      cases e
      exact ⟨ns, 0, 0, e1, e2, hlen, by decide, by decide⟩
    · refine Step.refl fun b o e => ?_
      have e : (if b = c then some (HO.lst (ns.map V.int)) else none) = some o := e
      split at e
      · rename_i hb
        rw [hb, e2]
        exact e
      · cases e
    · refine ⟨⟨by decide, by decide⟩, ?_⟩
      refine forW_keep (f := fun (k : Nat) => D.int (k : Int)) (R := fun n δ t => t + 200 * n ≤ 1100 ∧ ∃ s2 s3 s4 s5 s6 s7, δ = [.no, .dat .feed, s2, s3, s4, s5, s6, s7]) (List.range 5) _ 0 ⟨by decide, _, _, _, _, _, _, rfl⟩ ?_ ?_
      · rintro k hk n _ t ⟨hT, s2, s3, s4, s5, s6, s7, rfl⟩ N hN
        show if decide ((k : Int) < 4) = true then _ else _
        refine ite2 (fun _ => ?_) (fun _ => ?_)
        · skip
          refine ⟨(), rfl, by show t ≤ 9400; omega, ?_⟩
          rintro _ t1 ⟨l, rfl, hl, h1⟩
          refine ⟨(), rfl, by show t1 ≤ 9800; omega, ?_⟩
          rintro _ _ ⟨r, rfl, hr, rfl⟩
          have few := few_widened hl hr
          refine ⟨(l, r), rfl, ⟨hl, hr⟩, ?_⟩
          refine ⟨⟨by decide, by decide⟩, ?_⟩
          refine forW_keep (f := fun (k : Nat) => D.int (k : Int)) (R := fun n' δ t' => t' + 8 * n' + 200 * n ≤ 1100 ∧ ∃ s6 s7, δ = [.no, .dat .feed, .dat (.int (k : Int)), .dat (dLine l), .dat (dRule r), .dat (dLs (widenedP l r)), s6, s7]) (List.range 5) _ (t1 + 6) ⟨by rw [List.length_range]; omega, _, _, rfl⟩ ?_ ?_
          · rintro k' hk' n' _ t2 ⟨hT2, s6', s7', rfl⟩ N' hN'
            refine ⟨(l, r), rfl, ⟨hl, hr, by show t2 ≤ 9400; omega⟩, ?_⟩
            rintro _ _ ⟨a1, a2, a3, a4, hd, hb, rfl⟩
            generalize [a1, a2, a3, a4] = qs at hd hb
            subst hd
            refine forW_keep (f := dP) (R := fun _ δ t' => t' = t2 + 8 ∧ ∃ s6 s7, δ = [.no, .dat .feed, .dat (.int (k : Int)), .dat (dLine l), .dat (dRule r), .dat (dLs (widenedP l r)), s6, s7]) qs _ _ ⟨rfl, _, _, rfl⟩ ?_ ?_
            · rintro z hz m _ _ ⟨rfl, s6'', s7'', rfl⟩ N'' hN''
              have hz6 := hb z hz
              refine ⟨(widenedP l r, z), rfl, ⟨few.1, few.2, hz6.mono (by decide)⟩, ?_⟩
              refine ⟨(l, r, z), rfl, ⟨hl, hr, hz6⟩, ?_⟩
              show if (!decide ((if inArea (widenedP l r) z = true then ("True" : Str) else ("False" : Str)) = (if inWide l r z = true then ("True" : Str) else ("False" : Str)))) = true then _ else _
              rw [wide_spec hl hr z]
              refine ite2 (fun h => ?_) (fun _ => ?_)
              · rw [decide_eq_true rfl] at h
                cases h
              · exact hN'' _ _ ⟨rfl, _, _, rfl⟩
            · rintro _ _ ⟨rfl, s6'', s7'', rfl⟩
              exact hN' _ _ ⟨by omega, _, _, rfl⟩
          · rintro _ t2 ⟨hT2, s6', s7', rfl⟩
            exact hN _ _ ⟨by omega, _, _, _, _, _, _, rfl⟩
        · skip
          refine ⟨(), rfl, by show t ≤ 9400; omega, ?_⟩
          rintro _ t1 ⟨l, rfl, hl, h1⟩
          refine ⟨(), rfl, by show t1 ≤ 9800; omega, ?_⟩
          rintro _ _ ⟨r, rfl, hr, rfl⟩
          have few := few_widened hl hr
          refine ⟨(l, r), rfl, ⟨hl, hr⟩, ?_⟩
          refine ⟨⟨by decide, by decide⟩, ?_⟩
          refine forW_keep (f := fun (k : Nat) => D.int (k : Int)) (R := fun n' δ t' => t' + 8 * n' + 200 * n ≤ 1100 ∧ ∃ s6 s7, δ = [.no, .dat .feed, .dat (.int (k : Int)), .dat (dLine l), .dat (dRule r), .dat (dLs (widenedP l r)), s6, s7]) (List.range 5) _ (t1 + 6) ⟨by rw [List.length_range]; omega, _, _, rfl⟩ ?_ ?_
          · rintro k' hk' n' _ t2 ⟨hT2, s6', s7', rfl⟩ N' hN'
            refine ⟨(l, r), rfl, ⟨hl, hr, by show t2 ≤ 9400; omega⟩, ?_⟩
            rintro _ _ ⟨a1, a2, a3, a4, hd, hb, rfl⟩
            generalize [a1, a2, a3, a4] = qs at hd hb
            subst hd
            refine forW_keep (f := dP) (R := fun _ δ t' => t' = t2 + 8 ∧ ∃ s6 s7, δ = [.no, .dat .feed, .dat (.int (k : Int)), .dat (dLine l), .dat (dRule r), .dat (dLs (widenedP l r)), s6, s7]) qs _ _ ⟨rfl, _, _, rfl⟩ ?_ ?_
            · rintro z hz m _ _ ⟨rfl, s6'', s7'', rfl⟩ N'' hN''
              have hz6 := hb z hz
              refine ⟨(widenedP l r, z), rfl, ⟨few.1, few.2, hz6.mono (by decide)⟩, ?_⟩
              refine ⟨(l, r, z), rfl, ⟨hl, hr, hz6⟩, ?_⟩
              show if (!decide ((if inArea (widenedP l r) z = true then ("True" : Str) else ("False" : Str)) = (if inWide l r z = true then ("True" : Str) else ("False" : Str)))) = true then _ else _
              rw [wide_spec hl hr z]
              refine ite2 (fun h => ?_) (fun _ => ?_)
              · rw [decide_eq_true rfl] at h
                cases h
              · exact hN'' _ _ ⟨rfl, _, _, rfl⟩
            · rintro _ _ ⟨rfl, s6'', s7'', rfl⟩
              exact hN' _ _ ⟨by omega, _, _, rfl⟩
          · rintro _ t2 ⟨hT2, s6', s7', rfl⟩
            exact hN _ _ ⟨by omega, _, _, _, _, _, _, rfl⟩
      · rintro _ t ⟨_, s2, s3, s4, s5, s6, s7, rfl⟩
        rfl
end
end DL


/-! ## E1 -/
set_option maxRecDepth 100000
set_option maxHeartbeats 4000000
/-! a def of the text from the head's facts -/
namespace DL
open PySem PySem.Spec PyProof.Rows L2
theorem fun_of {K : PySem.W.Frag} {x : Str} {st : Stmt} {f : Addr} {fd : FuncData} (F : FunD K x x (defArgs st) (defBody st) (defScope st) [] [] f fd) : Fun K x x st f fd := by
  obtain ⟨oc, od, dV, kV, doc, pm, an, cdv, ct, osl, e, lk, hc, hD, _⟩ := F.ex
  rcases hD with ⟨_, rfl⟩ | ⟨n, _⟩
  · exact ⟨⟨oc, od, kV, doc, pm, an, cdv, ct, osl, e, lk, hc⟩, F.kp⟩
  · exact absurd rfl n
theorem dn_of {K : PySem.W.Frag} {mg : Str → Option Value} {x : Str} {st : Stmt} {ps : List Str} {f : Addr} {fd : FuncData} (F : FunD K x x (defArgs st) (defBody st) (defScope st) [] [] f fd) (hm : mg x = some (.ref f))
    (h : ∀ (kV doc pm : Value) (an : Option Addr) (cdv ct : Value) (us : List Value), us.length = ps.length → bindArgs (PySem.W.fnOf x x (defArgs st) (defBody st) (defScope st) .none kV doc pm an cdv ct) ⟨us, []⟩ = pure (ps.zip us)) : Dn K mg x st ps :=
  ⟨f, fd, fun_of F, hm, FunD.bindsN F h⟩
end DL

/-! ## E2 -/
set_option maxRecDepth 100000
set_option maxHeartbeats 4000000
/-! each def of the text, by its datum; the promises, from the least up -/
namespace DL
open PySem PySem.Spec PyProof.Rows L2
open C8 (Cal pe_c pe_gc)
open W15
def dD (x : Str) (i : Nat) : He.DefD := ⟨(x, none), x, x, defArgs (topS i), defBody (topS i), defScope (topS i), [], []⟩
def fn0 : List He.DefD := [dD "divisor" 1, dD "fraction" 2, dD "less" 3, dD "times" 4, dD "over" 5, dD "is_below" 6, dD "whole_root" 7, dD "root" 8, dD "place_of" 10, dD "across" 11, dD "up" 12, dD "is_lesser" 13, dD "way" 14, dD "cross" 15, dD "turn" 16, dD "squared" 17, dD "shifted" 18, dD "turns_of" 20, dD "pieces" 21, dD "edges" 24, dD "sorted_places" 25, dD "half_round" 26, dD "shape_of" 27, dD "meeting" 28, dD "cut_off" 29, dD "twelve" 30, dD "belongs" 31, dD "in_area" 32, dD "contrary" 34, dD "off" 35]
def fa0 : List He.Fa := [.glo "divisor", .glo "fraction", .glo "less", .glo "times", .glo "over", .glo "is_below", .glo "whole_root", .glo "root", .glo "place_of", .glo "across", .glo "up", .glo "is_lesser", .glo "way", .glo "cross", .glo "turn", .glo "squared", .glo "shifted", .glo "turns_of", .glo "pieces", .glo "edges", .glo "sorted_places", .glo "half_round", .glo "shape_of", .glo "meeting", .glo "cut_off", .glo "twelve", .glo "belongs", .glo "in_area", .glo "contrary", .glo "off"]
def fn1 : List He.DefD := [dD "moved_by" 36, dD "to_left" 37, dD "to_right" 38, dD "rims" 39, dD "strip" 40, dD "ahead_part" 41, dD "wedge" 42, dD "folded_join" 43, dD "join" 44, dD "tip_of" 45, dD "shifted_way" 46, dD "end_of" 47, dD "ends_of" 48, dD "widened" 49, dD "_law_feed" 51, dD "_law_draw" 52, dD "_law_fraction" 53, dD "_law_sum" 54, dD "_law_product" 55, dD "_law_minus" 56, dD "_law_at" 57, dD "_law_xy" 58, dD "_law_gone" 59, dD "_law_turn" 60, dD "_law_number" 61, dD "_law_place" 62, dD "_law_way" 63, dD "_law_goes_on" 64, dD "_law_open_line" 65, dD "_law_closed_line" 66]
def fa1 : List He.Fa := [.glo "moved_by", .glo "to_left", .glo "to_right", .glo "rims", .glo "strip", .glo "ahead_part", .glo "wedge", .glo "folded_join", .glo "join", .glo "tip_of", .glo "shifted_way", .glo "end_of", .glo "ends_of", .glo "widened", .glo "_law_feed", .glo "_law_draw", .glo "_law_fraction", .glo "_law_sum", .glo "_law_product", .glo "_law_minus", .glo "_law_at", .glo "_law_xy", .glo "_law_gone", .glo "_law_turn", .glo "_law_number", .glo "_law_place", .glo "_law_way", .glo "_law_goes_on", .glo "_law_open_line", .glo "_law_closed_line"]
def fn2 : List He.DefD := [dD "_law_line" 67, dD "_law_folded_line" 68, dD "_law_rule" 69, dD "_law_squared" 70, dD "_law_line_place" 71, dD "_law_apart" 72, dD "_law_athwart" 73, dD "_law_ways" 74, dD "_law_root" 75, dD "_law_over" 76, dD "_law_beside" 77, dD "_law_along" 78, dD "_law_ends_of_strip" 79, dD "_law_twelve" 80, dD "_law_outer" 81, dD "_law_lies" 82, dD "_law_most" 83, dD "_law_between" 84, dD "_law_in_rims" 85, dD "_law_in_convex" 86, dD "_law_in_join" 87, dD "_law_in_end" 88, dD "_law_in_wide" 89, dD "_law_asked" 90, dD "law" 91]
def fa2 : List He.Fa := [.glo "_law_line", .glo "_law_folded_line", .glo "_law_rule", .glo "_law_squared", .glo "_law_line_place", .glo "_law_apart", .glo "_law_athwart", .glo "_law_ways", .glo "_law_root", .glo "_law_over", .glo "_law_beside", .glo "_law_along", .glo "_law_ends_of_strip", .glo "_law_twelve", .glo "_law_outer", .glo "_law_lies", .glo "_law_most", .glo "_law_between", .glo "_law_in_rims", .glo "_law_in_convex", .glo "_law_in_join", .glo "_law_in_end", .glo "_law_in_wide", .glo "_law_asked", .glo "law"]
def faB : List He.Fa := [.free "abs", .free "len", .free "range", .free "zip", .free "list", .free "tuple", .free "all", .free "any", .free "int", .free "min", .free "max", .free "repr"]
def fn : List He.DefD := fn0 ++ fn1 ++ fn2
def fa : List He.Fa := faB ++ (fa0 ++ fa1 ++ fa2)
section
variable {P : Program} {w : World} {K : PySem.W.Frag} {mg : Str → Option Value} {h : Heap}
theorem bt_of (X : K.In h) (G : h.Ns mainGlobals mg) (c : He.SaysD fa fn K) : Bt mg :=
  ⟨He.free_ok X G (c.fact 0 (f := .free "abs") rfl), He.free_ok X G (c.fact 1 (f := .free "len") rfl), He.free_ok X G (c.fact 2 (f := .free "range") rfl), He.free_ok X G (c.fact 3 (f := .free "zip") rfl), He.free_ok X G (c.fact 4 (f := .free "list") rfl), He.free_ok X G (c.fact 5 (f := .free "tuple") rfl), He.free_ok X G (c.fact 6 (f := .free "all") rfl), He.free_ok X G (c.fact 7 (f := .free "any") rfl), He.free_ok X G (c.fact 8 (f := .free "int") rfl), He.free_ok X G (c.fact 9 (f := .free "min") rfl), He.free_ok X G (c.fact 10 (f := .free "max") rfl), He.free_ok X G (c.fact 11 (f := .free "repr") rfl)⟩
theorem dn_divisor (X : K.In h) (G : h.Ns mainGlobals mg) (c : He.SaysD fa fn K) : Dn K mg "divisor" s_divisor ["one", "other"] := by
  obtain ⟨fd, F⟩ := c.def_ 0 (d := dD "divisor" 1) rfl
  exact dn_of F (He.glo_ok X G (c.fact 12 (f := .glo "divisor") rfl)) fun _ _ _ _ _ _ us hl => match us, hl with | [_, _], _ => rfl
theorem dn_fraction (X : K.In h) (G : h.Ns mainGlobals mg) (c : He.SaysD fa fn K) : Dn K mg "fraction" s_fraction ["top", "bottom"] := by
  obtain ⟨fd, F⟩ := c.def_ 1 (d := dD "fraction" 2) rfl
  exact dn_of F (He.glo_ok X G (c.fact 13 (f := .glo "fraction") rfl)) fun _ _ _ _ _ _ us hl => match us, hl with | [_, _], _ => rfl
theorem dn_less (X : K.In h) (G : h.Ns mainGlobals mg) (c : He.SaysD fa fn K) : Dn K mg "less" s_less ["one", "other"] := by
  obtain ⟨fd, F⟩ := c.def_ 2 (d := dD "less" 3) rfl
  exact dn_of F (He.glo_ok X G (c.fact 14 (f := .glo "less") rfl)) fun _ _ _ _ _ _ us hl => match us, hl with | [_, _], _ => rfl
theorem dn_times (X : K.In h) (G : h.Ns mainGlobals mg) (c : He.SaysD fa fn K) : Dn K mg "times" s_times ["one", "other"] := by
  obtain ⟨fd, F⟩ := c.def_ 3 (d := dD "times" 4) rfl
  exact dn_of F (He.glo_ok X G (c.fact 15 (f := .glo "times") rfl)) fun _ _ _ _ _ _ us hl => match us, hl with | [_, _], _ => rfl
theorem dn_over (X : K.In h) (G : h.Ns mainGlobals mg) (c : He.SaysD fa fn K) : Dn K mg "over" s_over ["one", "other"] := by
  obtain ⟨fd, F⟩ := c.def_ 4 (d := dD "over" 5) rfl
  exact dn_of F (He.glo_ok X G (c.fact 16 (f := .glo "over") rfl)) fun _ _ _ _ _ _ us hl => match us, hl with | [_, _], _ => rfl
theorem dn_is_below (X : K.In h) (G : h.Ns mainGlobals mg) (c : He.SaysD fa fn K) : Dn K mg "is_below" s_is_below ["one", "other"] := by
  obtain ⟨fd, F⟩ := c.def_ 5 (d := dD "is_below" 6) rfl
  exact dn_of F (He.glo_ok X G (c.fact 17 (f := .glo "is_below") rfl)) fun _ _ _ _ _ _ us hl => match us, hl with | [_, _], _ => rfl
theorem dn_whole_root (X : K.In h) (G : h.Ns mainGlobals mg) (c : He.SaysD fa fn K) : Dn K mg "whole_root" s_whole_root ["number"] := by
  obtain ⟨fd, F⟩ := c.def_ 6 (d := dD "whole_root" 7) rfl
  exact dn_of F (He.glo_ok X G (c.fact 18 (f := .glo "whole_root") rfl)) fun _ _ _ _ _ _ us hl => match us, hl with | [_], _ => rfl
theorem dn_root (X : K.In h) (G : h.Ns mainGlobals mg) (c : He.SaysD fa fn K) : Dn K mg "root" s_root ["one"] := by
  obtain ⟨fd, F⟩ := c.def_ 7 (d := dD "root" 8) rfl
  exact dn_of F (He.glo_ok X G (c.fact 19 (f := .glo "root") rfl)) fun _ _ _ _ _ _ us hl => match us, hl with | [_], _ => rfl
theorem dn_place_of (X : K.In h) (G : h.Ns mainGlobals mg) (c : He.SaysD fa fn K) : Dn K mg "place_of" s_place_of ["x", "y", "bottom"] := by
  obtain ⟨fd, F⟩ := c.def_ 8 (d := dD "place_of" 10) rfl
  exact dn_of F (He.glo_ok X G (c.fact 20 (f := .glo "place_of") rfl)) fun _ _ _ _ _ _ us hl => match us, hl with | [_, _, _], _ => rfl
theorem dn_across (X : K.In h) (G : h.Ns mainGlobals mg) (c : He.SaysD fa fn K) : Dn K mg "across" s_across ["one"] := by
  obtain ⟨fd, F⟩ := c.def_ 9 (d := dD "across" 11) rfl
  exact dn_of F (He.glo_ok X G (c.fact 21 (f := .glo "across") rfl)) fun _ _ _ _ _ _ us hl => match us, hl with | [_], _ => rfl
theorem dn_up (X : K.In h) (G : h.Ns mainGlobals mg) (c : He.SaysD fa fn K) : Dn K mg "up" s_up ["one"] := by
  obtain ⟨fd, F⟩ := c.def_ 10 (d := dD "up" 12) rfl
  exact dn_of F (He.glo_ok X G (c.fact 22 (f := .glo "up") rfl)) fun _ _ _ _ _ _ us hl => match us, hl with | [_], _ => rfl
theorem dn_is_lesser (X : K.In h) (G : h.Ns mainGlobals mg) (c : He.SaysD fa fn K) : Dn K mg "is_lesser" s_is_lesser ["one", "other"] := by
  obtain ⟨fd, F⟩ := c.def_ 11 (d := dD "is_lesser" 13) rfl
  exact dn_of F (He.glo_ok X G (c.fact 23 (f := .glo "is_lesser") rfl)) fun _ _ _ _ _ _ us hl => match us, hl with | [_, _], _ => rfl
theorem dn_way (X : K.In h) (G : h.Ns mainGlobals mg) (c : He.SaysD fa fn K) : Dn K mg "way" s_way ["one", "other"] := by
  obtain ⟨fd, F⟩ := c.def_ 12 (d := dD "way" 14) rfl
  exact dn_of F (He.glo_ok X G (c.fact 24 (f := .glo "way") rfl)) fun _ _ _ _ _ _ us hl => match us, hl with | [_, _], _ => rfl
theorem dn_cross (X : K.In h) (G : h.Ns mainGlobals mg) (c : He.SaysD fa fn K) : Dn K mg "cross" s_cross ["one", "other"] := by
  obtain ⟨fd, F⟩ := c.def_ 13 (d := dD "cross" 15) rfl
  exact dn_of F (He.glo_ok X G (c.fact 25 (f := .glo "cross") rfl)) fun _ _ _ _ _ _ us hl => match us, hl with | [_, _], _ => rfl
theorem dn_turn (X : K.In h) (G : h.Ns mainGlobals mg) (c : He.SaysD fa fn K) : Dn K mg "turn" s_turn ["a", "b", "c"] := by
  obtain ⟨fd, F⟩ := c.def_ 14 (d := dD "turn" 16) rfl
  exact dn_of F (He.glo_ok X G (c.fact 26 (f := .glo "turn") rfl)) fun _ _ _ _ _ _ us hl => match us, hl with | [_, _, _], _ => rfl
theorem dn_squared (X : K.In h) (G : h.Ns mainGlobals mg) (c : He.SaysD fa fn K) : Dn K mg "squared" s_squared ["one", "other"] := by
  obtain ⟨fd, F⟩ := c.def_ 15 (d := dD "squared" 17) rfl
  exact dn_of F (He.glo_ok X G (c.fact 27 (f := .glo "squared") rfl)) fun _ _ _ _ _ _ us hl => match us, hl with | [_, _], _ => rfl
theorem dn_shifted (X : K.In h) (G : h.Ns mainGlobals mg) (c : He.SaysD fa fn K) : Dn K mg "shifted" s_shifted ["one", "x", "y"] := by
  obtain ⟨fd, F⟩ := c.def_ 16 (d := dD "shifted" 18) rfl
  exact dn_of F (He.glo_ok X G (c.fact 28 (f := .glo "shifted") rfl)) fun _ _ _ _ _ _ us hl => match us, hl with | [_, _, _], _ => rfl
theorem dn_turns_of (X : K.In h) (G : h.Ns mainGlobals mg) (c : He.SaysD fa fn K) : Dn K mg "turns_of" s_turns_of ["line"] := by
  obtain ⟨fd, F⟩ := c.def_ 17 (d := dD "turns_of" 20) rfl
  exact dn_of F (He.glo_ok X G (c.fact 29 (f := .glo "turns_of") rfl)) fun _ _ _ _ _ _ us hl => match us, hl with | [_], _ => rfl
theorem dn_pieces (X : K.In h) (G : h.Ns mainGlobals mg) (c : He.SaysD fa fn K) : Dn K mg "pieces" s_pieces ["line"] := by
  obtain ⟨fd, F⟩ := c.def_ 18 (d := dD "pieces" 21) rfl
  exact dn_of F (He.glo_ok X G (c.fact 30 (f := .glo "pieces") rfl)) fun _ _ _ _ _ _ us hl => match us, hl with | [_], _ => rfl
theorem dn_edges (X : K.In h) (G : h.Ns mainGlobals mg) (c : He.SaysD fa fn K) : Dn K mg "edges" s_edges ["shape"] := by
  obtain ⟨fd, F⟩ := c.def_ 19 (d := dD "edges" 24) rfl
  exact dn_of F (He.glo_ok X G (c.fact 31 (f := .glo "edges") rfl)) fun _ _ _ _ _ _ us hl => match us, hl with | [_], _ => rfl
theorem dn_sorted_places (X : K.In h) (G : h.Ns mainGlobals mg) (c : He.SaysD fa fn K) : Dn K mg "sorted_places" s_sorted_places ["some"] := by
  obtain ⟨fd, F⟩ := c.def_ 20 (d := dD "sorted_places" 25) rfl
  exact dn_of F (He.glo_ok X G (c.fact 32 (f := .glo "sorted_places") rfl)) fun _ _ _ _ _ _ us hl => match us, hl with | [_], _ => rfl
theorem dn_half_round (X : K.In h) (G : h.Ns mainGlobals mg) (c : He.SaysD fa fn K) : Dn K mg "half_round" s_half_round ["some"] := by
  obtain ⟨fd, F⟩ := c.def_ 21 (d := dD "half_round" 26) rfl
  exact dn_of F (He.glo_ok X G (c.fact 33 (f := .glo "half_round") rfl)) fun _ _ _ _ _ _ us hl => match us, hl with | [_], _ => rfl
theorem dn_shape_of (X : K.In h) (G : h.Ns mainGlobals mg) (c : He.SaysD fa fn K) : Dn K mg "shape_of" s_shape_of ["some"] := by
  obtain ⟨fd, F⟩ := c.def_ 22 (d := dD "shape_of" 27) rfl
  exact dn_of F (He.glo_ok X G (c.fact 34 (f := .glo "shape_of") rfl)) fun _ _ _ _ _ _ us hl => match us, hl with | [_], _ => rfl
theorem dn_meeting (X : K.In h) (G : h.Ns mainGlobals mg) (c : He.SaysD fa fn K) : Dn K mg "meeting" s_meeting ["a", "b", "c", "d"] := by
  obtain ⟨fd, F⟩ := c.def_ 23 (d := dD "meeting" 28) rfl
  exact dn_of F (He.glo_ok X G (c.fact 35 (f := .glo "meeting") rfl)) fun _ _ _ _ _ _ us hl => match us, hl with | [_, _, _, _], _ => rfl
theorem dn_cut_off (X : K.In h) (G : h.Ns mainGlobals mg) (c : He.SaysD fa fn K) : Dn K mg "cut_off" s_cut_off ["shape", "a", "b"] := by
  obtain ⟨fd, F⟩ := c.def_ 24 (d := dD "cut_off" 29) rfl
  exact dn_of F (He.glo_ok X G (c.fact 36 (f := .glo "cut_off") rfl)) fun _ _ _ _ _ _ us hl => match us, hl with | [_, _, _], _ => rfl
theorem dn_twelve (X : K.In h) (G : h.Ns mainGlobals mg) (c : He.SaysD fa fn K) : Dn K mg "twelve" s_twelve ["one", "half"] := by
  obtain ⟨fd, F⟩ := c.def_ 25 (d := dD "twelve" 30) rfl
  exact dn_of F (He.glo_ok X G (c.fact 37 (f := .glo "twelve") rfl)) fun _ _ _ _ _ _ us hl => match us, hl with | [_, _], _ => rfl
theorem dn_belongs (X : K.In h) (G : h.Ns mainGlobals mg) (c : He.SaysD fa fn K) : Dn K mg "belongs" s_belongs ["shape", "one"] := by
  obtain ⟨fd, F⟩ := c.def_ 26 (d := dD "belongs" 31) rfl
  exact dn_of F (He.glo_ok X G (c.fact 38 (f := .glo "belongs") rfl)) fun _ _ _ _ _ _ us hl => match us, hl with | [_, _], _ => rfl
theorem dn_in_area (X : K.In h) (G : h.Ns mainGlobals mg) (c : He.SaysD fa fn K) : Dn K mg "in_area" s_in_area ["shapes", "one"] := by
  obtain ⟨fd, F⟩ := c.def_ 27 (d := dD "in_area" 32) rfl
  exact dn_of F (He.glo_ok X G (c.fact 39 (f := .glo "in_area") rfl)) fun _ _ _ _ _ _ us hl => match us, hl with | [_, _], _ => rfl
theorem dn_contrary (X : K.In h) (G : h.Ns mainGlobals mg) (c : He.SaysD fa fn K) : Dn K mg "contrary" s_contrary ["one"] := by
  obtain ⟨fd, F⟩ := c.def_ 28 (d := dD "contrary" 34) rfl
  exact dn_of F (He.glo_ok X G (c.fact 40 (f := .glo "contrary") rfl)) fun _ _ _ _ _ _ us hl => match us, hl with | [_], _ => rfl
theorem dn_off (X : K.In h) (G : h.Ns mainGlobals mg) (c : He.SaysD fa fn K) : Dn K mg "off" s_off ["a", "b", "half"] := by
  obtain ⟨fd, F⟩ := c.def_ 29 (d := dD "off" 35) rfl
  exact dn_of F (He.glo_ok X G (c.fact 41 (f := .glo "off") rfl)) fun _ _ _ _ _ _ us hl => match us, hl with | [_, _, _], _ => rfl
theorem dn_moved_by (X : K.In h) (G : h.Ns mainGlobals mg) (c : He.SaysD fa fn K) : Dn K mg "moved_by" s_moved_by ["one", "some"] := by
  obtain ⟨fd, F⟩ := c.def_ 30 (d := dD "moved_by" 36) rfl
  exact dn_of F (He.glo_ok X G (c.fact 42 (f := .glo "moved_by") rfl)) fun _ _ _ _ _ _ us hl => match us, hl with | [_, _], _ => rfl
theorem dn_to_left (X : K.In h) (G : h.Ns mainGlobals mg) (c : He.SaysD fa fn K) : Dn K mg "to_left" s_to_left ["one", "some"] := by
  obtain ⟨fd, F⟩ := c.def_ 31 (d := dD "to_left" 37) rfl
  exact dn_of F (He.glo_ok X G (c.fact 43 (f := .glo "to_left") rfl)) fun _ _ _ _ _ _ us hl => match us, hl with | [_, _], _ => rfl
theorem dn_to_right (X : K.In h) (G : h.Ns mainGlobals mg) (c : He.SaysD fa fn K) : Dn K mg "to_right" s_to_right ["one", "some"] := by
  obtain ⟨fd, F⟩ := c.def_ 32 (d := dD "to_right" 38) rfl
  exact dn_of F (He.glo_ok X G (c.fact 44 (f := .glo "to_right") rfl)) fun _ _ _ _ _ _ us hl => match us, hl with | [_, _], _ => rfl
theorem dn_rims (X : K.In h) (G : h.Ns mainGlobals mg) (c : He.SaysD fa fn K) : Dn K mg "rims" s_rims ["one", "some", "side"] := by
  obtain ⟨fd, F⟩ := c.def_ 33 (d := dD "rims" 39) rfl
  exact dn_of F (He.glo_ok X G (c.fact 45 (f := .glo "rims") rfl)) fun _ _ _ _ _ _ us hl => match us, hl with | [_, _, _], _ => rfl
theorem dn_strip (X : K.In h) (G : h.Ns mainGlobals mg) (c : He.SaysD fa fn K) : Dn K mg "strip" s_strip ["a", "b", "rule"] := by
  obtain ⟨fd, F⟩ := c.def_ 34 (d := dD "strip" 40) rfl
  exact dn_of F (He.glo_ok X G (c.fact 46 (f := .glo "strip") rfl)) fun _ _ _ _ _ _ us hl => match us, hl with | [_, _, _], _ => rfl
theorem dn_ahead_part (X : K.In h) (G : h.Ns mainGlobals mg) (c : He.SaysD fa fn K) : Dn K mg "ahead_part" s_ahead_part ["shape", "one", "some"] := by
  obtain ⟨fd, F⟩ := c.def_ 35 (d := dD "ahead_part" 41) rfl
  exact dn_of F (He.glo_ok X G (c.fact 47 (f := .glo "ahead_part") rfl)) fun _ _ _ _ _ _ us hl => match us, hl with | [_, _, _], _ => rfl
theorem dn_wedge (X : K.In h) (G : h.Ns mainGlobals mg) (c : He.SaysD fa fn K) : Dn K mg "wedge" s_wedge ["shape", "one", "first", "last"] := by
  obtain ⟨fd, F⟩ := c.def_ 36 (d := dD "wedge" 42) rfl
  exact dn_of F (He.glo_ok X G (c.fact 48 (f := .glo "wedge") rfl)) fun _ _ _ _ _ _ us hl => match us, hl with | [_, _, _, _], _ => rfl
theorem dn_folded_join (X : K.In h) (G : h.Ns mainGlobals mg) (c : He.SaysD fa fn K) : Dn K mg "folded_join" s_folded_join ["p", "some", "rule"] := by
  obtain ⟨fd, F⟩ := c.def_ 37 (d := dD "folded_join" 43) rfl
  exact dn_of F (He.glo_ok X G (c.fact 49 (f := .glo "folded_join") rfl)) fun _ _ _ _ _ _ us hl => match us, hl with | [_, _, _], _ => rfl
theorem dn_join (X : K.In h) (G : h.Ns mainGlobals mg) (c : He.SaysD fa fn K) : Dn K mg "join" s_join ["first", "second", "rule"] := by
  obtain ⟨fd, F⟩ := c.def_ 38 (d := dD "join" 44) rfl
  exact dn_of F (He.glo_ok X G (c.fact 50 (f := .glo "join") rfl)) fun _ _ _ _ _ _ us hl => match us, hl with | [_, _, _], _ => rfl
theorem dn_tip_of (X : K.In h) (G : h.Ns mainGlobals mg) (c : He.SaysD fa fn K) : Dn K mg "tip_of" s_tip_of ["first", "second", "outer", "rule"] := by
  obtain ⟨fd, F⟩ := c.def_ 39 (d := dD "tip_of" 45) rfl
  exact dn_of F (He.glo_ok X G (c.fact 51 (f := .glo "tip_of") rfl)) fun _ _ _ _ _ _ us hl => match us, hl with | [_, _, _, _], _ => rfl
theorem dn_shifted_way (X : K.In h) (G : h.Ns mainGlobals mg) (c : He.SaysD fa fn K) : Dn K mg "shifted_way" s_shifted_way ["one", "piece"] := by
  obtain ⟨fd, F⟩ := c.def_ 40 (d := dD "shifted_way" 46) rfl
  exact dn_of F (He.glo_ok X G (c.fact 52 (f := .glo "shifted_way") rfl)) fun _ _ _ _ _ _ us hl => match us, hl with | [_, _], _ => rfl
theorem dn_end_of (X : K.In h) (G : h.Ns mainGlobals mg) (c : He.SaysD fa fn K) : Dn K mg "end_of" s_end_of ["one", "a", "b", "rule"] := by
  obtain ⟨fd, F⟩ := c.def_ 41 (d := dD "end_of" 47) rfl
  exact dn_of F (He.glo_ok X G (c.fact 53 (f := .glo "end_of") rfl)) fun _ _ _ _ _ _ us hl => match us, hl with | [_, _, _, _], _ => rfl
theorem dn_ends_of (X : K.In h) (G : h.Ns mainGlobals mg) (c : He.SaysD fa fn K) : Dn K mg "ends_of" s_ends_of ["line", "rule"] := by
  obtain ⟨fd, F⟩ := c.def_ 42 (d := dD "ends_of" 48) rfl
  exact dn_of F (He.glo_ok X G (c.fact 54 (f := .glo "ends_of") rfl)) fun _ _ _ _ _ _ us hl => match us, hl with | [_, _], _ => rfl
theorem dn_widened (X : K.In h) (G : h.Ns mainGlobals mg) (c : He.SaysD fa fn K) : Dn K mg "widened" s_widened ["line", "rule"] := by
  obtain ⟨fd, F⟩ := c.def_ 43 (d := dD "widened" 49) rfl
  exact dn_of F (He.glo_ok X G (c.fact 55 (f := .glo "widened") rfl)) fun _ _ _ _ _ _ us hl => match us, hl with | [_, _], _ => rfl
theorem dn_law_feed (X : K.In h) (G : h.Ns mainGlobals mg) (c : He.SaysD fa fn K) : Dn K mg "_law_feed" s_law_feed ["_law_script"] := by
  obtain ⟨fd, F⟩ := c.def_ 44 (d := dD "_law_feed" 51) rfl
  exact dn_of F (He.glo_ok X G (c.fact 56 (f := .glo "_law_feed") rfl)) fun _ _ _ _ _ _ us hl => match us, hl with | [_], _ => rfl
theorem dn_law_draw (X : K.In h) (G : h.Ns mainGlobals mg) (c : He.SaysD fa fn K) : Dn K mg "_law_draw" s_law_draw ["_law_feed_here", "_law_many"] := by
  obtain ⟨fd, F⟩ := c.def_ 45 (d := dD "_law_draw" 52) rfl
  exact dn_of F (He.glo_ok X G (c.fact 57 (f := .glo "_law_draw") rfl)) fun _ _ _ _ _ _ us hl => match us, hl with | [_, _], _ => rfl
theorem dn_law_fraction (X : K.In h) (G : h.Ns mainGlobals mg) (c : He.SaysD fa fn K) : Dn K mg "_law_fraction" s_law_fraction ["_law_top", "_law_bottom"] := by
  obtain ⟨fd, F⟩ := c.def_ 46 (d := dD "_law_fraction" 53) rfl
  exact dn_of F (He.glo_ok X G (c.fact 58 (f := .glo "_law_fraction") rfl)) fun _ _ _ _ _ _ us hl => match us, hl with | [_, _], _ => rfl
theorem dn_law_sum (X : K.In h) (G : h.Ns mainGlobals mg) (c : He.SaysD fa fn K) : Dn K mg "_law_sum" s_law_sum ["_law_one", "_law_other"] := by
  obtain ⟨fd, F⟩ := c.def_ 47 (d := dD "_law_sum" 54) rfl
  exact dn_of F (He.glo_ok X G (c.fact 59 (f := .glo "_law_sum") rfl)) fun _ _ _ _ _ _ us hl => match us, hl with | [_, _], _ => rfl
theorem dn_law_product (X : K.In h) (G : h.Ns mainGlobals mg) (c : He.SaysD fa fn K) : Dn K mg "_law_product" s_law_product ["_law_one", "_law_other"] := by
  obtain ⟨fd, F⟩ := c.def_ 48 (d := dD "_law_product" 55) rfl
  exact dn_of F (He.glo_ok X G (c.fact 60 (f := .glo "_law_product") rfl)) fun _ _ _ _ _ _ us hl => match us, hl with | [_, _], _ => rfl
theorem dn_law_minus (X : K.In h) (G : h.Ns mainGlobals mg) (c : He.SaysD fa fn K) : Dn K mg "_law_minus" s_law_minus ["_law_one"] := by
  obtain ⟨fd, F⟩ := c.def_ 49 (d := dD "_law_minus" 56) rfl
  exact dn_of F (He.glo_ok X G (c.fact 61 (f := .glo "_law_minus") rfl)) fun _ _ _ _ _ _ us hl => match us, hl with | [_], _ => rfl
theorem dn_law_at (X : K.In h) (G : h.Ns mainGlobals mg) (c : He.SaysD fa fn K) : Dn K mg "_law_at" s_law_at ["_law_x", "_law_y"] := by
  obtain ⟨fd, F⟩ := c.def_ 50 (d := dD "_law_at" 57) rfl
  exact dn_of F (He.glo_ok X G (c.fact 62 (f := .glo "_law_at") rfl)) fun _ _ _ _ _ _ us hl => match us, hl with | [_, _], _ => rfl
theorem dn_law_xy (X : K.In h) (G : h.Ns mainGlobals mg) (c : He.SaysD fa fn K) : Dn K mg "_law_xy" s_law_xy ["_law_one"] := by
  obtain ⟨fd, F⟩ := c.def_ 51 (d := dD "_law_xy" 58) rfl
  exact dn_of F (He.glo_ok X G (c.fact 63 (f := .glo "_law_xy") rfl)) fun _ _ _ _ _ _ us hl => match us, hl with | [_], _ => rfl
theorem dn_law_gone (X : K.In h) (G : h.Ns mainGlobals mg) (c : He.SaysD fa fn K) : Dn K mg "_law_gone" s_law_gone ["_law_one", "_law_x", "_law_y"] := by
  obtain ⟨fd, F⟩ := c.def_ 52 (d := dD "_law_gone" 59) rfl
  exact dn_of F (He.glo_ok X G (c.fact 64 (f := .glo "_law_gone") rfl)) fun _ _ _ _ _ _ us hl => match us, hl with | [_, _, _], _ => rfl
theorem dn_law_turn (X : K.In h) (G : h.Ns mainGlobals mg) (c : He.SaysD fa fn K) : Dn K mg "_law_turn" s_law_turn ["_law_a", "_law_b", "_law_c"] := by
  obtain ⟨fd, F⟩ := c.def_ 53 (d := dD "_law_turn" 60) rfl
  exact dn_of F (He.glo_ok X G (c.fact 65 (f := .glo "_law_turn") rfl)) fun _ _ _ _ _ _ us hl => match us, hl with | [_, _, _], _ => rfl
theorem dn_law_number (X : K.In h) (G : h.Ns mainGlobals mg) (c : He.SaysD fa fn K) : Dn K mg "_law_number" s_law_number ["_law_feed_here"] := by
  obtain ⟨fd, F⟩ := c.def_ 54 (d := dD "_law_number" 61) rfl
  exact dn_of F (He.glo_ok X G (c.fact 66 (f := .glo "_law_number") rfl)) fun _ _ _ _ _ _ us hl => match us, hl with | [_], _ => rfl
theorem dn_law_place (X : K.In h) (G : h.Ns mainGlobals mg) (c : He.SaysD fa fn K) : Dn K mg "_law_place" s_law_place ["_law_feed_here"] := by
  obtain ⟨fd, F⟩ := c.def_ 55 (d := dD "_law_place" 62) rfl
  exact dn_of F (He.glo_ok X G (c.fact 67 (f := .glo "_law_place") rfl)) fun _ _ _ _ _ _ us hl => match us, hl with | [_], _ => rfl
theorem dn_law_way (X : K.In h) (G : h.Ns mainGlobals mg) (c : He.SaysD fa fn K) : Dn K mg "_law_way" s_law_way ["_law_feed_here"] := by
  obtain ⟨fd, F⟩ := c.def_ 56 (d := dD "_law_way" 63) rfl
  exact dn_of F (He.glo_ok X G (c.fact 68 (f := .glo "_law_way") rfl)) fun _ _ _ _ _ _ us hl => match us, hl with | [_], _ => rfl
theorem dn_law_goes_on (X : K.In h) (G : h.Ns mainGlobals mg) (c : He.SaysD fa fn K) : Dn K mg "_law_goes_on" s_law_goes_on ["_law_first", "_law_second"] := by
  obtain ⟨fd, F⟩ := c.def_ 57 (d := dD "_law_goes_on" 64) rfl
  exact dn_of F (He.glo_ok X G (c.fact 69 (f := .glo "_law_goes_on") rfl)) fun _ _ _ _ _ _ us hl => match us, hl with | [_, _], _ => rfl
theorem dn_law_open_line (X : K.In h) (G : h.Ns mainGlobals mg) (c : He.SaysD fa fn K) : Dn K mg "_law_open_line" s_law_open_line ["_law_feed_here", "_law_most_here"] := by
  obtain ⟨fd, F⟩ := c.def_ 58 (d := dD "_law_open_line" 65) rfl
  exact dn_of F (He.glo_ok X G (c.fact 70 (f := .glo "_law_open_line") rfl)) fun _ _ _ _ _ _ us hl => match us, hl with | [_, _], _ => rfl
theorem dn_law_closed_line (X : K.In h) (G : h.Ns mainGlobals mg) (c : He.SaysD fa fn K) : Dn K mg "_law_closed_line" s_law_closed_line ["_law_feed_here"] := by
  obtain ⟨fd, F⟩ := c.def_ 59 (d := dD "_law_closed_line" 66) rfl
  exact dn_of F (He.glo_ok X G (c.fact 71 (f := .glo "_law_closed_line") rfl)) fun _ _ _ _ _ _ us hl => match us, hl with | [_], _ => rfl
theorem dn_law_line (X : K.In h) (G : h.Ns mainGlobals mg) (c : He.SaysD fa fn K) : Dn K mg "_law_line" s_law_line ["_law_feed_here", "_law_most_here"] := by
  obtain ⟨fd, F⟩ := c.def_ 60 (d := dD "_law_line" 67) rfl
  exact dn_of F (He.glo_ok X G (c.fact 72 (f := .glo "_law_line") rfl)) fun _ _ _ _ _ _ us hl => match us, hl with | [_, _], _ => rfl
theorem dn_law_folded_line (X : K.In h) (G : h.Ns mainGlobals mg) (c : He.SaysD fa fn K) : Dn K mg "_law_folded_line" s_law_folded_line ["_law_feed_here"] := by
  obtain ⟨fd, F⟩ := c.def_ 61 (d := dD "_law_folded_line" 68) rfl
  exact dn_of F (He.glo_ok X G (c.fact 73 (f := .glo "_law_folded_line") rfl)) fun _ _ _ _ _ _ us hl => match us, hl with | [_], _ => rfl
theorem dn_law_rule (X : K.In h) (G : h.Ns mainGlobals mg) (c : He.SaysD fa fn K) : Dn K mg "_law_rule" s_law_rule ["_law_feed_here"] := by
  obtain ⟨fd, F⟩ := c.def_ 62 (d := dD "_law_rule" 69) rfl
  exact dn_of F (He.glo_ok X G (c.fact 74 (f := .glo "_law_rule") rfl)) fun _ _ _ _ _ _ us hl => match us, hl with | [_], _ => rfl
theorem dn_law_squared (X : K.In h) (G : h.Ns mainGlobals mg) (c : He.SaysD fa fn K) : Dn K mg "_law_squared" s_law_squared ["_law_a", "_law_b"] := by
  obtain ⟨fd, F⟩ := c.def_ 63 (d := dD "_law_squared" 70) rfl
  exact dn_of F (He.glo_ok X G (c.fact 75 (f := .glo "_law_squared") rfl)) fun _ _ _ _ _ _ us hl => match us, hl with | [_, _], _ => rfl
theorem dn_law_line_place (X : K.In h) (G : h.Ns mainGlobals mg) (c : He.SaysD fa fn K) : Dn K mg "_law_line_place" s_law_line_place ["_law_a", "_law_b", "_law_c", "_law_d"] := by
  obtain ⟨fd, F⟩ := c.def_ 64 (d := dD "_law_line_place" 71) rfl
  exact dn_of F (He.glo_ok X G (c.fact 76 (f := .glo "_law_line_place") rfl)) fun _ _ _ _ _ _ us hl => match us, hl with | [_, _, _, _], _ => rfl
theorem dn_law_apart (X : K.In h) (G : h.Ns mainGlobals mg) (c : He.SaysD fa fn K) : Dn K mg "_law_apart" s_law_apart ["_law_a", "_law_b"] := by
  obtain ⟨fd, F⟩ := c.def_ 65 (d := dD "_law_apart" 72) rfl
  exact dn_of F (He.glo_ok X G (c.fact 77 (f := .glo "_law_apart") rfl)) fun _ _ _ _ _ _ us hl => match us, hl with | [_, _], _ => rfl
theorem dn_law_athwart (X : K.In h) (G : h.Ns mainGlobals mg) (c : He.SaysD fa fn K) : Dn K mg "_law_athwart" s_law_athwart ["_law_one", "_law_other"] := by
  obtain ⟨fd, F⟩ := c.def_ 66 (d := dD "_law_athwart" 73) rfl
  exact dn_of F (He.glo_ok X G (c.fact 78 (f := .glo "_law_athwart") rfl)) fun _ _ _ _ _ _ us hl => match us, hl with | [_, _], _ => rfl
theorem dn_law_ways (X : K.In h) (G : h.Ns mainGlobals mg) (c : He.SaysD fa fn K) : Dn K mg "_law_ways" s_law_ways ["_law_line_here"] := by
  obtain ⟨fd, F⟩ := c.def_ 67 (d := dD "_law_ways" 74) rfl
  exact dn_of F (He.glo_ok X G (c.fact 79 (f := .glo "_law_ways") rfl)) fun _ _ _ _ _ _ us hl => match us, hl with | [_], _ => rfl
theorem dn_law_root (X : K.In h) (G : h.Ns mainGlobals mg) (c : He.SaysD fa fn K) : Dn K mg "_law_root" s_law_root ["_law_number_here"] := by
  obtain ⟨fd, F⟩ := c.def_ 68 (d := dD "_law_root" 75) rfl
  exact dn_of F (He.glo_ok X G (c.fact 80 (f := .glo "_law_root") rfl)) fun _ _ _ _ _ _ us hl => match us, hl with | [_], _ => rfl
theorem dn_law_over (X : K.In h) (G : h.Ns mainGlobals mg) (c : He.SaysD fa fn K) : Dn K mg "_law_over" s_law_over ["_law_one", "_law_other"] := by
  obtain ⟨fd, F⟩ := c.def_ 69 (d := dD "_law_over" 76) rfl
  exact dn_of F (He.glo_ok X G (c.fact 81 (f := .glo "_law_over") rfl)) fun _ _ _ _ _ _ us hl => match us, hl with | [_, _], _ => rfl
theorem dn_law_beside (X : K.In h) (G : h.Ns mainGlobals mg) (c : He.SaysD fa fn K) : Dn K mg "_law_beside" s_law_beside ["_law_one", "_law_piece", "_law_far"] := by
  obtain ⟨fd, F⟩ := c.def_ 70 (d := dD "_law_beside" 77) rfl
  exact dn_of F (He.glo_ok X G (c.fact 82 (f := .glo "_law_beside") rfl)) fun _ _ _ _ _ _ us hl => match us, hl with | [_, _, _], _ => rfl
theorem dn_law_along (X : K.In h) (G : h.Ns mainGlobals mg) (c : He.SaysD fa fn K) : Dn K mg "_law_along" s_law_along ["_law_one", "_law_piece", "_law_far"] := by
  obtain ⟨fd, F⟩ := c.def_ 71 (d := dD "_law_along" 78) rfl
  exact dn_of F (He.glo_ok X G (c.fact 83 (f := .glo "_law_along") rfl)) fun _ _ _ _ _ _ us hl => match us, hl with | [_, _, _], _ => rfl
theorem dn_law_ends_of_strip (X : K.In h) (G : h.Ns mainGlobals mg) (c : He.SaysD fa fn K) : Dn K mg "_law_ends_of_strip" s_law_ends_of_strip ["_law_rule_here"] := by
  obtain ⟨fd, F⟩ := c.def_ 72 (d := dD "_law_ends_of_strip" 79) rfl
  exact dn_of F (He.glo_ok X G (c.fact 84 (f := .glo "_law_ends_of_strip") rfl)) fun _ _ _ _ _ _ us hl => match us, hl with | [_], _ => rfl
theorem dn_law_twelve (X : K.In h) (G : h.Ns mainGlobals mg) (c : He.SaysD fa fn K) : Dn K mg "_law_twelve" s_law_twelve ["_law_one", "_law_half"] := by
  obtain ⟨fd, F⟩ := c.def_ 73 (d := dD "_law_twelve" 80) rfl
  exact dn_of F (He.glo_ok X G (c.fact 85 (f := .glo "_law_twelve") rfl)) fun _ _ _ _ _ _ us hl => match us, hl with | [_, _], _ => rfl
theorem dn_law_outer (X : K.In h) (G : h.Ns mainGlobals mg) (c : He.SaysD fa fn K) : Dn K mg "_law_outer" s_law_outer ["_law_first", "_law_second", "_law_half"] := by
  obtain ⟨fd, F⟩ := c.def_ 74 (d := dD "_law_outer" 81) rfl
  exact dn_of F (He.glo_ok X G (c.fact 86 (f := .glo "_law_outer") rfl)) fun _ _ _ _ _ _ us hl => match us, hl with | [_, _, _], _ => rfl
theorem dn_law_lies (X : K.In h) (G : h.Ns mainGlobals mg) (c : He.SaysD fa fn K) : Dn K mg "_law_lies" s_law_lies ["_law_a", "_law_b", "_law_one"] := by
  obtain ⟨fd, F⟩ := c.def_ 75 (d := dD "_law_lies" 82) rfl
  exact dn_of F (He.glo_ok X G (c.fact 87 (f := .glo "_law_lies") rfl)) fun _ _ _ _ _ _ us hl => match us, hl with | [_, _, _], _ => rfl
theorem dn_law_most (X : K.In h) (G : h.Ns mainGlobals mg) (c : He.SaysD fa fn K) : Dn K mg "_law_most" s_law_most ["_law_one", "_law_other"] := by
  obtain ⟨fd, F⟩ := c.def_ 76 (d := dD "_law_most" 83) rfl
  exact dn_of F (He.glo_ok X G (c.fact 88 (f := .glo "_law_most") rfl)) fun _ _ _ _ _ _ us hl => match us, hl with | [_, _], _ => rfl
theorem dn_law_between (X : K.In h) (G : h.Ns mainGlobals mg) (c : He.SaysD fa fn K) : Dn K mg "_law_between" s_law_between ["_law_low", "_law_one", "_law_high"] := by
  obtain ⟨fd, F⟩ := c.def_ 77 (d := dD "_law_between" 84) rfl
  exact dn_of F (He.glo_ok X G (c.fact 89 (f := .glo "_law_between") rfl)) fun _ _ _ _ _ _ us hl => match us, hl with | [_, _, _], _ => rfl
theorem dn_law_in_rims (X : K.In h) (G : h.Ns mainGlobals mg) (c : He.SaysD fa fn K) : Dn K mg "_law_in_rims" s_law_in_rims ["_law_piece", "_law_rule_here", "_law_left"] := by
  obtain ⟨fd, F⟩ := c.def_ 78 (d := dD "_law_in_rims" 85) rfl
  exact dn_of F (He.glo_ok X G (c.fact 90 (f := .glo "_law_in_rims") rfl)) fun _ _ _ _ _ _ us hl => match us, hl with | [_, _, _], _ => rfl
theorem dn_law_in_convex (X : K.In h) (G : h.Ns mainGlobals mg) (c : He.SaysD fa fn K) : Dn K mg "_law_in_convex" s_law_in_convex ["_law_corners", "_law_one"] := by
  obtain ⟨fd, F⟩ := c.def_ 79 (d := dD "_law_in_convex" 86) rfl
  exact dn_of F (He.glo_ok X G (c.fact 91 (f := .glo "_law_in_convex") rfl)) fun _ _ _ _ _ _ us hl => match us, hl with | [_, _], _ => rfl
theorem dn_law_in_join (X : K.In h) (G : h.Ns mainGlobals mg) (c : He.SaysD fa fn K) : Dn K mg "_law_in_join" s_law_in_join ["_law_first", "_law_second", "_law_rule_here", "_law_one"] := by
  obtain ⟨fd, F⟩ := c.def_ 80 (d := dD "_law_in_join" 87) rfl
  exact dn_of F (He.glo_ok X G (c.fact 92 (f := .glo "_law_in_join") rfl)) fun _ _ _ _ _ _ us hl => match us, hl with | [_, _, _, _], _ => rfl
theorem dn_law_in_end (X : K.In h) (G : h.Ns mainGlobals mg) (c : He.SaysD fa fn K) : Dn K mg "_law_in_end" s_law_in_end ["_law_piece", "_law_at_last", "_law_rule_here", "_law_one"] := by
  obtain ⟨fd, F⟩ := c.def_ 81 (d := dD "_law_in_end" 88) rfl
  exact dn_of F (He.glo_ok X G (c.fact 93 (f := .glo "_law_in_end") rfl)) fun _ _ _ _ _ _ us hl => match us, hl with | [_, _, _, _], _ => rfl
theorem dn_law_in_wide (X : K.In h) (G : h.Ns mainGlobals mg) (c : He.SaysD fa fn K) : Dn K mg "_law_in_wide" s_law_in_wide ["_law_line_here", "_law_rule_here", "_law_one"] := by
  obtain ⟨fd, F⟩ := c.def_ 82 (d := dD "_law_in_wide" 89) rfl
  exact dn_of F (He.glo_ok X G (c.fact 94 (f := .glo "_law_in_wide") rfl)) fun _ _ _ _ _ _ us hl => match us, hl with | [_, _, _], _ => rfl
theorem dn_law_asked (X : K.In h) (G : h.Ns mainGlobals mg) (c : He.SaysD fa fn K) : Dn K mg "_law_asked" s_law_asked ["_law_feed_here", "_law_line_here", "_law_rule_here"] := by
  obtain ⟨fd, F⟩ := c.def_ 83 (d := dD "_law_asked" 90) rfl
  exact dn_of F (He.glo_ok X G (c.fact 95 (f := .glo "_law_asked") rfl)) fun _ _ _ _ _ _ us hl => match us, hl with | [_, _, _], _ => rfl
/-- the chain of promises -/
theorem chain (X : K.In h) (G : h.Ns mainGlobals mg) (c : He.SaysD fa fn K) (g_TWELVE_PAIRS : ∃ (v : V) (u : Value), mg "TWELVE_PAIRS" = some u ∧ RelV v u ∧ ∀ fo G, Rep K fo G d12 v) (base : Heap) {f : Addr} {fd : FuncData} (F : Fun K "law" "law" s_law f fd) : FnOk P w K mg base CX0 10 f fd ["_law_script"] (spLaw K) := by
  have B := bt_of X G c
  obtain ⟨v12, u12, g1, g2, r12⟩ := g_TWELVE_PAIRS
  have c_divisor : Cal P w K mg base 1 "divisor" (LSp K C_divisor) [] := ok_divisor (dn_divisor X G c) B
  have c_is_below : Cal P w K mg base 1 "is_below" (LSp K C_is_below) [] := ok_is_below (dn_is_below X G c) 
  have c_whole_root : Cal P w K mg base 1 "whole_root" (LSp K C_whole_root) [] := ok_whole_root (dn_whole_root X G c) 
  have c_is_lesser : Cal P w K mg base 1 "is_lesser" (LSp K C_is_lesser) [] := ok_is_lesser (dn_is_lesser X G c) 
  have c_way : Cal P w K mg base 1 "way" (LSp K C_way) [] := ok_way (dn_way X G c) 
  have c_cross : Cal P w K mg base 1 "cross" (LSp K C_cross) [] := ok_cross (dn_cross X G c) 
  have c_pieces : Cal P w K mg base 1 "pieces" (LSp K C_pieces) [] := ok_pieces (dn_pieces X G c) B
  have c_edges : Cal P w K mg base 1 "edges" (LSp K C_edges) [] := ok_edges (dn_edges X G c) B
  have c_contrary : Cal P w K mg base 1 "contrary" (LSp K C_contrary) [] := ok_contrary (dn_contrary X G c) 
  have c_law_feed : Cal P w K mg base 1 "_law_feed" (spFeed K) [] := ok_law_feed (dn_law_feed X G c) 
  have c_law_draw : Cal P w K mg base 1 "_law_draw" (LSp K C_law_draw) [] := ok_law_draw (dn_law_draw X G c) B
  have c_law_fraction : Cal P w K mg base 1 "_law_fraction" (LSp K C_law_fraction) [] := ok_law_fraction (dn_law_fraction X G c) B
  have c_law_minus : Cal P w K mg base 1 "_law_minus" (LSp K C_law_minus) [] := ok_law_minus (dn_law_minus X G c) 
  have c_law_turn : Cal P w K mg base 1 "_law_turn" (LSp K C_law_turn) [] := ok_law_turn (dn_law_turn X G c) B
  have c_law_root : Cal P w K mg base 1 "_law_root" (LSp K C_law_root) [] := ok_law_root (dn_law_root X G c) 
  have c_law_most : Cal P w K mg base 1 "_law_most" (LSp K C_law_most) [] := ok_law_most (dn_law_most X G c) 
  have c_fraction : Cal P w K mg base 2 "fraction" (LSp K C_fraction) [] := ok_fraction (dn_fraction X G c) c_divisor
  have c_root : Cal P w K mg base 2 "root" (LSp K C_root) [] := ok_root (dn_root X G c) c_whole_root
  have c_place_of : Cal P w K mg base 2 "place_of" (LSp K C_place_of) [] := ok_place_of (dn_place_of X G c) c_divisor
  have c_turn : Cal P w K mg base 2 "turn" (LSp K C_turn) [] := ok_turn (dn_turn X G c) B c_cross c_way
  have c_turns_of : Cal P w K mg base 2 "turns_of" (LSp K C_turns_of) [] := ok_turns_of (dn_turns_of X G c) B c_pieces
  have c_sorted_places : Cal P w K mg base 2 "sorted_places" (LSp K C_sorted_places) [] := ok_sorted_places (dn_sorted_places X G c) B c_is_lesser
  have c_law_sum : Cal P w K mg base 2 "_law_sum" (LSp K C_law_sum) [] := ok_law_sum (dn_law_sum X G c) c_law_fraction
  have c_law_product : Cal P w K mg base 2 "_law_product" (LSp K C_law_product) [] := ok_law_product (dn_law_product X G c) c_law_fraction
  have c_law_at : Cal P w K mg base 2 "_law_at" (LSp K C_law_at) [] := ok_law_at (dn_law_at X G c) c_law_fraction
  have c_law_xy : Cal P w K mg base 2 "_law_xy" (LSp K C_law_xy) [] := ok_law_xy (dn_law_xy X G c) c_law_fraction
  have c_law_number : Cal P w K mg base 2 "_law_number" (LSp K C_law_number) [] := ok_law_number (dn_law_number X G c) c_law_draw c_law_fraction
  have c_law_rule : Cal P w K mg base 2 "_law_rule" (LSp K C_law_rule) [] := ok_law_rule (dn_law_rule X G c) c_law_fraction c_law_draw
  have c_law_over : Cal P w K mg base 2 "_law_over" (LSp K C_law_over) [] := ok_law_over (dn_law_over X G c) c_law_fraction
  have c_law_ends_of_strip : Cal P w K mg base 2 "_law_ends_of_strip" (LSp K C_law_ends_of_strip) [] := ok_law_ends_of_strip (dn_law_ends_of_strip X G c) c_law_minus
  have c_law_between : Cal P w K mg base 2 "_law_between" (LSp K C_law_between) [] := ok_law_between (dn_law_between X G c) c_law_most
  have c_law_in_convex : Cal P w K mg base 2 "_law_in_convex" (LSp K C_law_in_convex) [] := ok_law_in_convex (dn_law_in_convex X G c) B c_law_turn
  have c_less : Cal P w K mg base 3 "less" (LSp K C_less) [] := ok_less (dn_less X G c) c_fraction
  have c_times : Cal P w K mg base 3 "times" (LSp K C_times) [] := ok_times (dn_times X G c) c_fraction
  have c_over : Cal P w K mg base 3 "over" (LSp K C_over) [] := ok_over (dn_over X G c) c_fraction
  have c_across : Cal P w K mg base 3 "across" (LSp K C_across) [] := ok_across (dn_across X G c) c_fraction
  have c_up : Cal P w K mg base 3 "up" (LSp K C_up) [] := ok_up (dn_up X G c) c_fraction
  have c_squared : Cal P w K mg base 3 "squared" (LSp K C_squared) [] := ok_squared (dn_squared X G c) c_way c_fraction
  have c_shifted : Cal P w K mg base 3 "shifted" (LSp K C_shifted) [] := ok_shifted (dn_shifted X G c) c_place_of
  have c_half_round : Cal P w K mg base 3 "half_round" (LSp K C_half_round) [] := ok_half_round (dn_half_round X G c) B c_turn
  have c_meeting : Cal P w K mg base 3 "meeting" (LSp K C_meeting) [] := ok_meeting (dn_meeting X G c) c_cross c_place_of c_way
  have c_belongs : Cal P w K mg base 3 "belongs" (LSp K C_belongs) [] := ok_belongs (dn_belongs X G c) B c_turn c_edges
  have c_law_gone : Cal P w K mg base 3 "_law_gone" (LSp K C_law_gone) [] := ok_law_gone (dn_law_gone X G c) c_law_xy c_law_at c_law_sum
  have c_law_place : Cal P w K mg base 3 "_law_place" (LSp K C_law_place) [] := ok_law_place (dn_law_place X G c) c_law_at c_law_number
  have c_law_way : Cal P w K mg base 3 "_law_way" (LSp K C_law_way) [] := ok_law_way (dn_law_way X G c) c_law_fraction c_law_draw c_law_product
  have c_law_goes_on : Cal P w K mg base 3 "_law_goes_on" (LSp K C_law_goes_on) [] := ok_law_goes_on (dn_law_goes_on X G c) c_law_product c_law_sum
  have c_law_squared : Cal P w K mg base 3 "_law_squared" (LSp K C_law_squared) [] := ok_law_squared (dn_law_squared X G c) c_law_sum c_law_minus c_law_product c_law_xy
  have c_law_apart : Cal P w K mg base 3 "_law_apart" (LSp K C_law_apart) [] := ok_law_apart (dn_law_apart X G c) c_law_xy c_law_sum c_law_minus
  have c_law_athwart : Cal P w K mg base 3 "_law_athwart" (LSp K C_law_athwart) [] := ok_law_athwart (dn_law_athwart X G c) c_law_sum c_law_product c_law_minus
  have c_law_ways : Cal P w K mg base 3 "_law_ways" (LSp K C_law_ways) [] := ok_law_ways (dn_law_ways X G c) B c_law_xy c_law_sum c_law_product c_law_minus c_law_root
  have c_law_in_rims : Cal P w K mg base 3 "_law_in_rims" (LSp K C_law_in_rims) [] := ok_law_in_rims (dn_law_in_rims X G c) c_law_ends_of_strip c_law_between c_law_product
  have c_shape_of : Cal P w K mg base 4 "shape_of" (LSp K C_shape_of) [] := ok_shape_of (dn_shape_of X G c) B c_sorted_places c_half_round
  have c_in_area : Cal P w K mg base 4 "in_area" (LSp K C_in_area) [] := ok_in_area (dn_in_area X G c) B c_belongs
  have c_off : Cal P w K mg base 4 "off" (LSp K C_off) [] := ok_off (dn_off X G c) c_root c_over c_squared c_less c_contrary c_times c_across c_up
  have c_moved_by : Cal P w K mg base 4 "moved_by" (LSp K C_moved_by) [] := ok_moved_by (dn_moved_by X G c) c_shifted
  have c_shifted_way : Cal P w K mg base 4 "shifted_way" (LSp K C_shifted_way) [] := ok_shifted_way (dn_shifted_way X G c) c_shifted c_less c_across c_up
  have c_law_open_line : Cal P w K mg base 4 "_law_open_line" (LSp K C_law_open_line) [] := ok_law_open_line (dn_law_open_line X G c) B c_law_place c_law_way c_law_draw c_law_minus c_law_goes_on c_law_gone
  have c_law_closed_line : Cal P w K mg base 4 "_law_closed_line" (LSp K C_law_closed_line) [] := ok_law_closed_line (dn_law_closed_line X G c) B c_law_way c_law_place c_law_fraction c_law_draw c_law_product c_law_gone
  have c_law_folded_line : Cal P w K mg base 4 "_law_folded_line" (LSp K C_law_folded_line) [] := ok_law_folded_line (dn_law_folded_line X G c) c_law_place c_law_draw c_law_way c_law_product c_law_gone
  have c_law_line_place : Cal P w K mg base 4 "_law_line_place" (LSp K C_law_line_place) [] := ok_law_line_place (dn_law_line_place X G c) c_law_apart c_law_athwart c_law_fraction c_law_gone c_law_product
  have c_law_beside : Cal P w K mg base 4 "_law_beside" (LSp K C_law_beside) [] := ok_law_beside (dn_law_beside X G c) c_law_over c_law_gone c_law_minus c_law_product
  have c_law_along : Cal P w K mg base 4 "_law_along" (LSp K C_law_along) [] := ok_law_along (dn_law_along X G c) c_law_over c_law_gone c_law_product
  have c_law_twelve : Cal P w K mg base 4 "_law_twelve" (LSp K C_law_twelve) [] := ok_law_twelve (dn_law_twelve X G c) B c_law_gone c_law_product c_law_fraction
  have c_law_lies : Cal P w K mg base 4 "_law_lies" (LSp K C_law_lies) [] := ok_law_lies (dn_law_lies X G c) c_law_apart c_law_sum c_law_product c_law_minus
  have c_cut_off : Cal P w K mg base 5 "cut_off" (LSp K C_cut_off) [] := ok_cut_off (dn_cut_off X G c) B c_edges c_shape_of c_turn c_meeting
  have c_twelve : Cal P w K mg base 5 "twelve" (LSp K C_twelve) [] := ok_twelve (dn_twelve X G c) ⟨u12, g1, g2⟩ r12 c_shape_of c_shifted
  have c_to_left : Cal P w K mg base 5 "to_left" (LSp K C_to_left) [] := ok_to_left (dn_to_left X G c) c_moved_by
  have c_to_right : Cal P w K mg base 5 "to_right" (LSp K C_to_right) [] := ok_to_right (dn_to_right X G c) c_moved_by c_contrary
  have c_tip_of : Cal P w K mg base 5 "tip_of" (LSp K C_tip_of) [] := ok_tip_of (dn_tip_of X G c) c_shifted_way c_meeting c_times c_is_below c_squared
  have c_law_line : Cal P w K mg base 5 "_law_line" (LSp K C_law_line) [] := ok_law_line (dn_law_line X G c) c_law_closed_line c_law_open_line c_law_draw
  have c_law_outer : Cal P w K mg base 5 "_law_outer" (LSp K C_law_outer) [] := ok_law_outer (dn_law_outer X G c) c_law_turn c_law_minus c_law_beside
  have c_law_in_end : Cal P w K mg base 5 "_law_in_end" (LSp K C_law_in_end) [] := ok_law_in_end (dn_law_in_end X G c) B c_law_lies c_law_in_convex c_law_sum c_law_minus c_law_twelve c_law_most c_law_in_rims c_law_product
  have c_law_asked : Cal P w K mg base 5 "_law_asked" (LSp K C_law_asked) [] := ok_law_asked (dn_law_asked X G c) B c_law_ways c_law_product c_law_beside c_law_gone c_law_draw c_law_fraction c_law_minus c_law_along
  have c_rims : Cal P w K mg base 6 "rims" (LSp K C_rims) [] := ok_rims (dn_rims X G c) c_to_right c_to_left
  have c_ahead_part : Cal P w K mg base 6 "ahead_part" (LSp K C_ahead_part) [] := ok_ahead_part (dn_ahead_part X G c) c_cut_off c_to_left
  have c_wedge : Cal P w K mg base 6 "wedge" (LSp K C_wedge) [] := ok_wedge (dn_wedge X G c) c_cut_off
  have c_law_in_join : Cal P w K mg base 6 "_law_in_join" (LSp K C_law_in_join) [] := ok_law_in_join (dn_law_in_join X G c) c_law_outer c_law_line_place c_law_product c_law_in_convex c_law_along c_law_most c_law_lies c_law_squared c_law_twelve c_law_turn
  have c_strip : Cal P w K mg base 7 "strip" (LSp K C_strip) [] := ok_strip (dn_strip X G c) c_off c_shape_of c_rims
  have c_folded_join : Cal P w K mg base 7 "folded_join" (LSp K C_folded_join) [] := ok_folded_join (dn_folded_join X G c) c_ahead_part c_twelve
  have c_end_of : Cal P w K mg base 7 "end_of" (LSp K C_end_of) [] := ok_end_of (dn_end_of X G c) B c_off c_ahead_part c_cut_off c_rims c_shape_of c_twelve c_shifted_way c_contrary c_moved_by
  have c_law_in_wide : Cal P w K mg base 7 "_law_in_wide" (LSp K C_law_in_wide) [] := ok_law_in_wide (dn_law_in_wide X G c) B c_law_ways c_law_lies c_law_in_join c_law_in_end c_law_between c_law_in_rims c_law_product
  have c_join : Cal P w K mg base 8 "join" (LSp K C_join) [] := ok_join (dn_join X G c) c_cross c_shape_of c_off c_way c_folded_join c_wedge c_to_right c_to_left c_twelve c_tip_of
  have c_ends_of : Cal P w K mg base 8 "ends_of" (LSp K C_ends_of) [] := ok_ends_of (dn_ends_of X G c) c_end_of c_pieces
  have c_widened : Cal P w K mg base 9 "widened" (LSp K C_widened) [] := ok_widened (dn_widened X G c) B c_strip c_ends_of c_pieces c_join c_turns_of
  exact ok_law F B c_law_feed c_law_line c_law_folded_line c_law_rule c_widened c_law_asked c_in_area c_law_in_wide
end
end DL

/-! ## E3 -/
set_option maxRecDepth 100000
set_option maxHeartbeats 4000000
/-! the constant of twelve pairs, from the head's facts -/
namespace DL
open PySem PySem.Spec PyProof.Rows L2
open W15
def pairB (K : PySem.W.Frag) (v : Value) (e : Int × Int) : Bool := match v with
  | .ref a => (match K.lookup a with
    | some o => decide (o.cls = .type "tuple") && (match o.data with
      | .seq its _ => (match its.toList with
        | [.int i _, .int j _] => decide (i = e.1) && decide (j = e.2)
        | _ => false)
      | _ => false)
    | none => false)
  | _ => false
def allB (K : PySem.W.Frag) : List Value → List (Int × Int) → Bool
  | [], [] => true
  | v :: vs, e :: es => pairB K v e && allB K vs es
  | _, _ => false
def tupB (K : PySem.W.Frag) : Bool := (He.Fa.glo "TWELVE_PAIRS").ok K && (match K.lookup (He.ga K "TWELVE_PAIRS") with
  | some o => decide (o.cls = .type "tuple") && (match o.data with
    | .seq its _ => decide (its.size ≤ 100) && allB K its.toList pairs12
    | _ => false)
  | none => false)
section
variable {K : PySem.W.Frag}
theorem pair_ok {v : Value} {e : Int × Int} (h : pairB K v e = true) : ∃ x : V, RelV x v ∧ ∀ fo G, Rep K fo G (dI e) x := by
  unfold pairB at h
  split at h
  · rename_i a
    split at h
    · rename_i o ho
      obtain ⟨h1, h2⟩ := Bool.and_eq_true_iff.mp h
      split at h2
      · rename_i its n hd
        split at h2
        · rename_i i ti j tj hl
          obtain ⟨e1, e2⟩ := Bool.and_eq_true_iff.mp h2
          have f1 : i = e.1 := of_decide_eq_true e1
          have f2 : j = e.2 := of_decide_eq_true e2
          have fe : e = (i, j) := by rw [f1, f2]
          subst fe
          refine ⟨.ref a, rfl, fun fo G => .tup (xs := [.int i, .int j]) (.inr ⟨o, its, n, ho, of_decide_eq_true h1, hd, ?_, ?_⟩) (.cons (.int i) (.cons (.int j) .nil))⟩
          · rw [← Array.length_toList, hl]
            show 2 ≤ sizeLine
            decide
          · rw [hl]
            exact .cons ⟨_, rfl⟩ (.cons ⟨_, rfl⟩ .nil)
        · cases h2
      · cases h2
    · cases h
  · cases h
theorem all_ok : ∀ {vs : List Value} {es : List (Int × Int)}, allB K vs es = true → ∃ xs : List V, Vals xs vs ∧ ∀ fo G, Reps K fo G (es.map dI) xs
  | [], [], _ => ⟨[], .nil, fun _ _ => .nil⟩
  | [], _ :: _, h => by cases h
  | _ :: _, [], h => by cases h
  | v :: vs, e :: es, h => by
    obtain ⟨h1, h2⟩ := Bool.and_eq_true_iff.mp (show (pairB K v e && allB K vs es) = true from h)
    obtain ⟨x, r, k⟩ := pair_ok h1
    obtain ⟨xs, rs, ks⟩ := all_ok h2
    exact ⟨x :: xs, .cons r rs, fun fo G => .cons (k fo G) (ks fo G)⟩
theorem tup_ok {h : Heap} {mg : Str → Option Value} (X : K.In h) (G : h.Ns mainGlobals mg) (c : tupB K = true) : ∃ (v : V) (u : Value), mg "TWELVE_PAIRS" = some u ∧ RelV v u ∧ ∀ fo G, Rep K fo G d12 v := by
  obtain ⟨h1, h2⟩ := Bool.and_eq_true_iff.mp c
  have hm := He.glo_ok X G h1
  split at h2
  · rename_i o ho
    obtain ⟨c1, c2⟩ := Bool.and_eq_true_iff.mp h2
    split at c2
    · rename_i its n hd
      obtain ⟨d1, d2⟩ := Bool.and_eq_true_iff.mp c2
      obtain ⟨xs, r, k⟩ := all_ok d2
      exact ⟨.ref _, _, hm, rfl, fun fo G => .tup (.inr ⟨o, its, n, ho, of_decide_eq_true c1, hd, Nat.le_trans (of_decide_eq_true d1) (by decide), r⟩) (k fo G)⟩
    · cases c2
  · cases h2
end
/-! ### the hook -/
abbrev Al : Type := He.AlD × Bool
def hk (n : Nat) : PySem.W.Hook where
  α := Al
  obs := fun s => (He.obsDG n fa fn s.heap.get?, tupB (He.frG s.heap.get? (He.asD s.heap.get? n)))
  val := fun _ => (He.valD fn, true)
  says := fun _ h => ∃ K : PySem.W.Frag, K.In h ∧ He.SaysD fa fn K ∧ tupB K = true
  of := fun _ _ e => ⟨_, He.frG_in, congrArg Prod.fst e, congrArg Prod.snd e⟩
  keeps := fun _ _ _ ⟨K, hK, c⟩ k => ⟨K, PySem.W.Frag.In.keeps hK k, c⟩
end DL

/-! ## E4 -/
set_option maxRecDepth 100000
set_option maxHeartbeats 0
/-! the run of the top, the row -/
namespace DL
open PySem PySem.Spec PyProof.Rows L2
abbrev Rw : PySem.W.OpenRow := PySem.W.OpenLaw.row PySem.Challenge.rw_widelines_k15_whole_a_place_by_the_told
def lo0 : List PySem.Str := ["TWELVE_PAIRS", "divisor", "fraction", "less", "times", "over", "is_below", "whole_root", "root", "place_of", "across", "up", "is_lesser", "way", "cross", "turn", "squared", "shifted", "turns_of", "pieces", "edges", "sorted_places", "half_round", "shape_of", "meeting", "cut_off", "twelve", "belongs", "in_area", "contrary"]
def lo1 : List PySem.Str := ["off", "moved_by", "to_left", "to_right", "rims", "strip", "ahead_part", "wedge", "folded_join", "join", "tip_of", "shifted_way", "end_of", "ends_of", "widened", "_law_feed", "_law_draw", "_law_fraction", "_law_sum", "_law_product", "_law_minus", "_law_at", "_law_xy", "_law_gone", "_law_turn", "_law_number", "_law_place", "_law_way", "_law_goes_on", "_law_open_line"]
def lo2 : List PySem.Str := ["_law_closed_line", "_law_line", "_law_folded_line", "_law_rule", "_law_squared", "_law_line_place", "_law_apart", "_law_athwart", "_law_ways", "_law_root", "_law_over", "_law_beside", "_law_along", "_law_ends_of_strip", "_law_twelve", "_law_outer", "_law_lies", "_law_most", "_law_between", "_law_in_rims", "_law_in_convex", "_law_in_join", "_law_in_end", "_law_in_wide", "_law_asked"]
def loose : List PySem.Str := lo0 ++ lo1 ++ lo2
def ob (s : PySem.W.SharedT) : Al := (He.obsDG 2 fa fn (HandSHeadRun.getT s), tupB (He.frG (HandSHeadRun.getT s) (He.asD (HandSHeadRun.getT s) 2)))
theorem ob_eq (s : PySem.W.SharedT) : ob s = (hk 2).obs s.abs := by
  have e : HandSHeadRun.getT s = s.abs.heap.get? := funext (HandSHeadRun.getT_eq s)
  unfold ob
  rw [e]
  rfl
theorem run (w : World) : HandSHeadRun.RunEq Rw (PySem.W.view Rw.prog [91]) (hk 2) ob 3000 loose w := by
  intro os
  kernel_rfl
end DL

/-! ## E5 -/
set_option maxRecDepth 100000
set_option maxHeartbeats 0
open PySem PySem.W PySem.Calls PyProof.Rows
theorem PySem.Challenge.cw_widelines_k15_whole_a_place_by_the_told_holds : PySem.Challenge.rw_widelines_k15_whole_a_place_by_the_told.Holds := by
  w_on; o_law
  refine HandSHeadRun.head_any (r := OpenLaw.row PySem.Challenge.rw_widelines_k15_whole_a_place_by_the_told) (q := view (OpenLaw.row PySem.Challenge.rw_widelines_k15_whole_a_place_by_the_told).prog [91]) (H := DL.hk 2) (ob := DL.ob) (M := 3000) (loose := DL.loose) (d := HandSHeadRun.topDef (OpenLaw.row PySem.Challenge.rw_widelines_k15_whole_a_place_by_the_told).prog 91) (kwd := []) DL.ob_eq
    (by kernel_rfl) (fun s => by kernel_rfl) DL.run (by kernel_rfl) (by kernel_rfl) (by kernel_rfl) (by rfl) (by first | assumption | decide +kernel) (by decide +kernel) ⟨rfl, rfl, rfl, rfl, rfl, by decide +kernel⟩ ?hw ?hc
  case hw => w_witness2
  case hc =>
    refine L2.walk_ofE (l := PySem.Challenge.rw_widelines_k15_whole_a_place_by_the_told) (n := 63) (k := 10) (x := "_law_script") (CX := L2.CX0) rfl (by decide) (by kernel_rfl) ⟨rfl, by decide, by decide⟩ ?F (fun _ _ _ _ z => z)
    intro w mg fa h Y G hmg0
    obtain ⟨K, KX, c, ct⟩ := Y
    have hmg : mg ("law" : PySem.Str) = some (.ref fa) := by
      have e : (HandSHeadRun.topDef (OpenLaw.row PySem.Challenge.rw_widelines_k15_whole_a_place_by_the_told).prog 91).name = ("law" : PySem.Str) := by kernel_rfl
      rw [← e]
      exact hmg0
    obtain ⟨fd, F⟩ := c.def_ 84 (d := DL.dD "law" 91) rfl
    have e := hmg.symm.trans (He.glo_ok KX G (c.fact 96 (f := .glo "law") rfl))
    cases e
    have b := L2.FunD.bindsA (ps := ["_law_script"]) F fun _ _ _ _ _ _ us hl => match us, hl with | [_], _ => rfl
    exact ⟨K, fd, DL.spLaw K, KX, fun s v => b s [v] rfl, fun H a ns hl _ hS => ⟨a, ns, rfl, hS, hl, fun _ => rfl⟩, fun base KX' G' => DL.chain KX G c (DL.tup_ok KX G ct) base (DL.fun_of F)⟩

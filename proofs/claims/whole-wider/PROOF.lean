import PyProof.Rows.All
import Wide.All
import OpenK.AllK
import Wide.FinOn
import HandS.ForMost
import HandS.ForExc
import HandS.Wide
import HandS.Defaults
import PySem.Challenge.RW_roundsure_k31_whole_wider_entries_tell_w
import HandS.ExcInit
import HandS.ClsMeth
import KE.KDictZip
import HandS.Iter
import PyProof.ReprBulk
import HandS.Ends
import HandS.Head0
import HandS.Head1
import HandS.Head2
import HandS.HeadEnd
import HandS.HeadHook1
import HandS.HeadHook2
set_option Elab.async false
set_option linter.all false
set_option maxRecDepth 100000
set_option maxHeartbeats 0
/-! Law k31 of roundsure: whole, wider entries tell wider ones. By an AI agent; unjudged. -/
/-! part RSMath1 -/
namespace RS
/-- a ruler: base, figures, LOW, way (0 near, 1 down, 2 up, 3 nought) -/
structure Ruler where
  B : Int
  F : Int
  L : Int
  w : Nat
structure Ruler.Ok (r : Ruler) : Prop where
  b1 : 2 ≤ r.B
  b2 : r.B ≤ 16
  f1 : 1 ≤ r.F
  f2 : r.F ≤ 3
  l1 : -4 ≤ r.L
  l2 : r.L ≤ 1
  w3 : r.w ≤ 3
/-! ### powers -/
def pw (r : Ruler) (e : Int) : Rat := (r.B : Rat) ^ e
section
variable {r : Ruler}
theorem base_pos (h : r.Ok) : (0 : Rat) < (r.B : Rat) := by
  have := h.b1
  exact Rat.intCast_pos.mpr (by omega)
theorem base_ne (h : r.Ok) : (r.B : Rat) ≠ 0 := by
  have := base_pos h
  grind
theorem base_two (h : r.Ok) : (2 : Rat) ≤ (r.B : Rat) := by
  have := Rat.intCast_le_intCast.mpr h.b1
  simpa using this
theorem base_16 (h : r.Ok) : (r.B : Rat) ≤ 16 := by
  have := Rat.intCast_le_intCast.mpr h.b2
  simpa using this
theorem pw_pos (h : r.Ok) (e : Int) : 0 < pw r e := Rat.zpow_pos (base_pos h)
theorem pw_add (h : r.Ok) (a b : Int) : pw r (a + b) = pw r a * pw r b := Rat.zpow_add (base_ne h) a b
theorem pw_zero : pw r 0 = 1 := Rat.zpow_zero _
theorem pw_one : pw r 1 = (r.B : Rat) := Rat.zpow_one _
theorem pw_succ (h : r.Ok) (e : Int) : pw r (e + 1) = pw r e * (r.B : Rat) := by rw [pw_add h, pw_one]
theorem pw_nat (n : Nat) : pw r (n : Int) = ((r.B ^ n : Int) : Rat) := by
  unfold pw
  rw [Rat.zpow_natCast, Rat.intCast_pow]
theorem pw_double (h : r.Ok) (e : Int) : 2 * pw r e ≤ pw r (e + 1) := by
  rw [pw_succ h]
  have h1 := pw_pos h e
  have h2 := Rat.mul_le_mul_of_nonneg_left (base_two h) (Rat.le_of_lt h1)
  grind
theorem pw_le_succ (h : r.Ok) (e : Int) : pw r e ≤ pw r (e + 1) := by
  have h1 := pw_pos h e
  have h2 := pw_double h e
  grind
theorem pw_mono (h : r.Ok) {a b : Int} (hab : a ≤ b) : pw r a ≤ pw r b := by
  obtain ⟨n, rfl⟩ : ∃ n : Nat, b = a + n := ⟨(b - a).toNat, by omega⟩
  clear hab
  induction n with
  | zero => simp
  | succ n ih =>
    have := pw_le_succ h (a + n)
    have e : a + ((n + 1 : Nat) : Int) = a + n + 1 := by omega
    rw [e]
    grind
theorem pw_lt_of (h : r.Ok) {a b : Int} (hab : pw r a < pw r b) : a < b := by
  by_cases hb : b ≤ a
  · have := pw_mono h hb
    grind
  · omega
theorem pw_big (h : r.Ok) (n : Nat) : (n : Rat) < pw r n := by
  induction n with
  | zero => rw [show ((0 : Nat) : Int) = 0 from rfl, pw_zero]; decide +kernel
  | succ n ih =>
    have h1 := pw_double h n
    have e : ((n + 1 : Nat) : Int) = (n : Int) + 1 := by omega
    have e2 : ((n + 1 : Nat) : Rat) = (n : Rat) + 1 := Rat.natCast_add n 1
    have h3 : (1 : Rat) ≤ pw r n := by
      rw [← pw_zero (r := r)]
      exact pw_mono h (by omega)
    rw [e, e2]
    grind
theorem pw_big' (h : r.Ok) (x : Rat) (lo : Int) : ∃ n : Nat, x < pw r (lo + n) := by
  have h0 : x ≤ (x.ceil : Rat) := Rat.le_ceil
  have h1 : (x.ceil : Rat) ≤ ((x.ceil.toNat : Nat) : Rat) := by
    rw [← Rat.intCast_natCast]
    exact Rat.intCast_le_intCast.mpr (by omega)
  have h2 := pw_big h x.ceil.toNat
  refine ⟨x.ceil.toNat + (-lo).toNat, ?_⟩
  have h3 : pw r (x.ceil.toNat : Int) ≤ pw r (lo + ((x.ceil.toNat + (-lo).toNat : Nat) : Int)) := pw_mono h (by omega)
  grind
/-- a power from 0 on is whole -/
theorem pw_whole (h : r.Ok) {e : Int} (he : 0 ≤ e) : ∃ n : Int, pw r e = (n : Rat) ∧ 1 ≤ n := by
  obtain ⟨n, rfl⟩ : ∃ n : Nat, e = n := ⟨e.toNat, by omega⟩
  refine ⟨r.B ^ n, pw_nat n, ?_⟩
  have : 0 < r.B ^ n := Int.pow_pos (by have := h.b1; omega)
  omega
theorem pw_inv (h : r.Ok) (e : Int) : pw r e * pw r (-e) = 1 := by
  rw [← pw_add h, show e + -e = 0 by omega, pw_zero]
/-- x is a whole multiple of the power -/
def Mul (r : Ruler) (x : Rat) (e : Int) : Prop := ∃ n : Int, x = (n : Rat) * pw r e
theorem Mul.zero (e : Int) : Mul r 0 e := ⟨0, by simp⟩
theorem Mul.down (h : r.Ok) {x : Rat} {a b : Int} (m : Mul r x a) (hb : b ≤ a) : Mul r x b := by
  obtain ⟨n, rfl⟩ := m
  obtain ⟨k, hk, _⟩ := pw_whole h (e := a - b) (by omega)
  refine ⟨n * k, ?_⟩
  have e : a = (a - b) + b := by omega
  rw [e, pw_add h, hk, Rat.intCast_mul]
  grind
theorem Mul.add {x y : Rat} {a : Int} (m : Mul r x a) (m' : Mul r y a) : Mul r (x + y) a := by
  obtain ⟨n, rfl⟩ := m
  obtain ⟨k, rfl⟩ := m'
  exact ⟨n + k, by rw [Rat.intCast_add]; grind⟩
theorem Mul.neg {x : Rat} {a : Int} (m : Mul r x a) : Mul r (-x) a := by
  obtain ⟨n, rfl⟩ := m
  exact ⟨-n, by rw [Rat.intCast_neg]; grind⟩
theorem Mul.sub {x y : Rat} {a : Int} (m : Mul r x a) (m' : Mul r y a) : Mul r (x - y) a := by
  obtain ⟨n, rfl⟩ := m
  obtain ⟨k, rfl⟩ := m'
  exact ⟨n - k, by rw [Rat.intCast_sub]; grind⟩
theorem Mul.mul (h : r.Ok) {x y : Rat} {a b : Int} (m : Mul r x a) (m' : Mul r y b) : Mul r (x * y) (a + b) := by
  obtain ⟨n, rfl⟩ := m
  obtain ⟨k, rfl⟩ := m'
  exact ⟨n * k, by rw [Rat.intCast_mul, pw_add h]; grind⟩
theorem mul_pw (h : r.Ok) {a b : Int} (hab : b ≤ a) : Mul r (pw r a) b := Mul.down h ⟨1, by simp⟩ hab
/-! ### the place -/
def IsPlace (r : Ruler) (x : Rat) (p : Int) : Prop := r.L ≤ p ∧ x.abs < pw r (p + r.F) ∧ (p = r.L ∨ pw r (p - 1 + r.F) ≤ x.abs)
theorem IsPlace.unique (h : r.Ok) {x : Rat} {p q : Int} (hp : IsPlace r x p) (hq : IsPlace r x q) : p = q := by
  have key : ∀ {p q : Int}, IsPlace r x p → IsPlace r x q → ¬ p < q := by
    intro p q hp hq hl
    obtain ⟨h1, h2, h3⟩ := hp
    obtain ⟨h4, h5, h6⟩ := hq
    rcases h6 with h6 | h6
    · omega
    · have := pw_mono h (show p + r.F ≤ q - 1 + r.F by omega)
      grind
  have a := key hp hq
  have b := key hq hp
  omega
theorem place_some (h : r.Ok) (x : Rat) : ∃ p, IsPlace r x p := by
  obtain ⟨n, hn⟩ := pw_big' h x.abs (r.L + r.F)
  induction n with
  | zero => exact ⟨r.L, by omega, by simpa using hn, .inl rfl⟩
  | succ n ih =>
    by_cases hx : x.abs < pw r (r.L + r.F + n)
    · exact ih hx
    · refine ⟨r.L + (n + 1 : Nat), by omega, ?_, .inr ?_⟩
      · rw [show r.L + ((n + 1 : Nat) : Int) + r.F = r.L + r.F + ((n + 1 : Nat) : Int) by omega]
        exact hn
      · rw [show r.L + ((n + 1 : Nat) : Int) - 1 + r.F = r.L + r.F + (n : Int) by omega]
        grind
end
open Classical in
noncomputable def placeOf (r : Ruler) (x : Rat) : Int := if h : ∃ p, IsPlace r x p then h.choose else 0
section
variable {r : Ruler}
theorem placeOf_is (h : r.Ok) (x : Rat) : IsPlace r x (placeOf r x) := by
  unfold placeOf
  rw [dif_pos (place_some h x)]
  exact (place_some h x).choose_spec
theorem placeOf_eq (h : r.Ok) {x : Rat} {p : Int} (hp : IsPlace r x p) : placeOf r x = p := (placeOf_is h x).unique h hp
theorem placeOf_low (h : r.Ok) (x : Rat) : r.L ≤ placeOf r x := (placeOf_is h x).1
theorem placeOf_mono (h : r.Ok) {x y : Rat} (hxy : x.abs ≤ y.abs) : placeOf r x ≤ placeOf r y := by
  obtain ⟨a1, a2, a3⟩ := placeOf_is h x
  obtain ⟨b1, b2, b3⟩ := placeOf_is h y
  rcases a3 with a3 | a3
  · omega
  · have : pw r (placeOf r x - 1 + r.F) < pw r (placeOf r y + r.F) := by grind
    have := pw_lt_of h this
    omega
theorem abs_eq (x : Rat) : x.abs = if 0 ≤ x then x else -x := rfl
theorem placeOf_abs (h : r.Ok) (x : Rat) : placeOf r x.abs = placeOf r x := by
  have e : x.abs.abs = x.abs := Rat.abs_of_nonneg Rat.abs_nonneg
  have a := placeOf_mono h (x := x.abs) (y := x) (by rw [e]; exact Rat.le_refl)
  have b := placeOf_mono h (x := x) (y := x.abs) (by rw [e]; exact Rat.le_refl)
  omega
/-! ### whole numbers by a way -/
def isUp (w : Nat) (q : Rat) : Bool :=
  if w = 0 then decide (1 < 2 * (q - q.floor)) || (decide (2 * (q - q.floor) = 1) && decide (q.floor % 2 = 1))
  else if w = 3 then decide (q < 0) && decide ((q.floor : Rat) < q)
  else if w = 2 then decide ((q.floor : Rat) < q) else false
def whole (w : Nat) (q : Rat) : Int := q.floor + if isUp w q then 1 else 0
theorem floor_lt (q : Rat) : q < (q.floor : Rat) + 1 := by
  have := Rat.lt_floor_add_one q
  rw [Rat.intCast_add] at this
  exact this
theorem isUp_int {w : Nat} {n : Int} : isUp w (n : Rat) = false := by
  unfold isUp
  rw [Rat.floor_intCast]
  have a : (n : Rat) - (n : Rat) = 0 := Rat.sub_self
  rw [a, Rat.mul_zero]
  have b : decide ((1 : Rat) < 0) = false := by decide +kernel
  have c : decide ((0 : Rat) = 1) = false := by decide +kernel
  have d : decide ((n : Rat) < (n : Rat)) = false := decide_eq_false Rat.lt_irrefl
  rw [b, c, d]
  simp
theorem whole_int {w : Nat} {n : Int} : whole w (n : Rat) = n := by
  unfold whole
  rw [isUp_int, Rat.floor_intCast]
  simp
theorem whole_floor {w : Nat} {q : Rat} : q.floor ≤ whole w q := by
  unfold whole
  split <;> omega
theorem whole_succ {w : Nat} {q : Rat} : whole w q ≤ q.floor + 1 := by
  unfold whole
  split <;> omega
theorem whole_ge {w : Nat} {q : Rat} {n : Int} (h : (n : Rat) ≤ q) : n ≤ whole w q := by
  have := Rat.le_floor_iff.mpr h
  have := whole_floor (w := w) (q := q)
  omega
theorem whole_mono {w : Nat} {p q : Rat} (h : p ≤ q) : whole w p ≤ whole w q := by
  have hf := Rat.floor_monotone h
  by_cases he : p.floor = q.floor
  · have : isUp w p = true → isUp w q = true := by
      unfold isUp
      rw [he]
      intro hp
      split
      · rw [if_pos (by assumption)] at hp
        simp only [Bool.or_eq_true, decide_eq_true_eq, Bool.and_eq_true] at hp ⊢
        rcases hp with hp | ⟨hp1, hp2⟩
        · left; grind
        · by_cases e : p = q
          · right; subst e; exact ⟨hp1, hp2⟩
          · left; grind
      · rw [if_neg (by assumption)] at hp
        split
        · rw [if_pos (by assumption)] at hp
          simp only [decide_eq_true_eq, Bool.and_eq_true] at hp ⊢
          obtain ⟨h1, h2⟩ := hp
          refine ⟨?_, by grind⟩
          have f1 : p.floor < 0 := by
            have := Rat.floor_lt_iff (a := p) (x := 0) |>.mpr (by simpa using h1)
            exact this
          have f2 : q.floor < 0 := by omega
          have := Rat.floor_lt_iff.mp f2
          simpa using this
        · rw [if_neg (by assumption)] at hp
          split
          · rw [if_pos (by assumption)] at hp
            simp only [decide_eq_true_eq] at hp ⊢
            grind
          · rw [if_neg (by assumption)] at hp
            exact hp
    unfold whole
    rw [he]
    by_cases hp : isUp w p = true
    · rw [hp, this hp]; exact Int.le_refl _
    · have hp' : isUp w p = false := by simpa using hp
      rw [hp', if_neg Bool.false_ne_true]
      split <;> omega
  · have h1 := whole_succ (w := w) (q := p)
    have h2 := whole_floor (w := w) (q := q)
    omega
theorem whole_le {w : Nat} {q : Rat} {n : Int} (h : q ≤ (n : Rat)) : whole w q ≤ n := by
  have := whole_mono (w := w) h
  rw [whole_int] at this
  exact this
/-- how far the whole number may be off -/
theorem whole_off {w : Nat} {q : Rat} : ((whole w q : Rat) - q).abs ≤ if w = 0 then (1 : Rat) / 2 else 1 := by
  have h1 := Rat.floor_le q
  have h2 := floor_lt q
  have h3 : ((whole w q : Int) : Rat) = (q.floor : Rat) + if isUp w q then 1 else 0 := by
    unfold whole
    rw [Rat.intCast_add]
    split <;> rfl
  rw [h3, abs_eq]
  by_cases hw : w = 0
  · rw [if_pos hw]
    subst hw
    by_cases hu : isUp 0 q = true
    · rw [if_pos hu]
      unfold isUp at hu
      rw [if_pos rfl] at hu
      simp only [Bool.or_eq_true, decide_eq_true_eq, Bool.and_eq_true] at hu
      grind
    · rw [if_neg hu]
      unfold isUp at hu
      rw [if_pos rfl] at hu
      simp only [Bool.or_eq_true, decide_eq_true_eq, Bool.and_eq_true] at hu
      grind
  · rw [if_neg hw]
    grind
end
/-! ### rounding -/
noncomputable def step (r : Ruler) (x : Rat) : Rat := pw r (placeOf r x)
noncomputable def rnd (r : Ruler) (x : Rat) : Rat := (whole r.w (x / step r x) : Rat) * step r x
section
variable {r : Ruler}
theorem step_pos (h : r.Ok) (x : Rat) : 0 < step r x := pw_pos h _
theorem div_step (h : r.Ok) (x : Rat) : x / step r x * step r x = x := Rat.div_mul_cancel (by have := step_pos h x; grind)
theorem div_pw (h : r.Ok) (x : Rat) (e : Int) : x / pw r e * pw r e = x := Rat.div_mul_cancel (by have := pw_pos h e; grind)
theorem step_mono (h : r.Ok) {x y : Rat} (hxy : x.abs ≤ y.abs) : step r x ≤ step r y := pw_mono h (placeOf_mono h hxy)
/-- bounds by whole multiples of the step go over -/
theorem rnd_le (h : r.Ok) {x : Rat} {n : Int} (hx : x ≤ (n : Rat) * step r x) : rnd r x ≤ (n : Rat) * step r x := by
  have hs := step_pos h x
  have h1 : x / step r x ≤ (n : Rat) := by
    apply Rat.le_of_mul_le_mul_right (c := step r x) _ hs
    rw [div_step h]
    exact hx
  exact Rat.mul_le_mul_of_nonneg_right (Rat.intCast_le_intCast.mpr (whole_le h1)) (Rat.le_of_lt hs)
theorem rnd_ge (h : r.Ok) {x : Rat} {n : Int} (hx : (n : Rat) * step r x ≤ x) : (n : Rat) * step r x ≤ rnd r x := by
  have hs := step_pos h x
  have h1 : (n : Rat) ≤ x / step r x := by
    apply Rat.le_of_mul_le_mul_right (c := step r x) _ hs
    rw [div_step h]
    exact hx
  exact Rat.mul_le_mul_of_nonneg_right (Rat.intCast_le_intCast.mpr (whole_ge h1)) (Rat.le_of_lt hs)
theorem rnd_le_mul (h : r.Ok) {x y : Rat} (m : Mul r y (placeOf r x)) (hx : x ≤ y) : rnd r x ≤ y := by
  obtain ⟨n, rfl⟩ := m
  exact rnd_le h hx
theorem rnd_ge_mul (h : r.Ok) {x y : Rat} (m : Mul r y (placeOf r x)) (hx : y ≤ x) : y ≤ rnd r x := by
  obtain ⟨n, rfl⟩ := m
  exact rnd_ge h hx
theorem rnd_fix (h : r.Ok) {x : Rat} (m : Mul r x (placeOf r x)) : rnd r x = x := by
  have a := rnd_le_mul h m Rat.le_refl
  have b := rnd_ge_mul h m Rat.le_refl
  grind
theorem rnd_mul (x : Rat) : Mul r (rnd r x) (placeOf r x) := ⟨_, rfl⟩
theorem rnd_zero (h : r.Ok) : rnd r 0 = 0 := rnd_fix h (Mul.zero _)
/-- |x| ≤ B^(p+F), so is the rounded one -/
theorem rnd_abs (h : r.Ok) (x : Rat) : (rnd r x).abs ≤ pw r (placeOf r x + r.F) := by
  obtain ⟨h1, h2, h3⟩ := placeOf_is h x
  have hf := h.f1
  have m : Mul r (pw r (placeOf r x + r.F)) (placeOf r x) := mul_pw h (by omega)
  have a := rnd_le_mul h (x := x) m (by rw [abs_eq] at h2; grind)
  have b := rnd_ge_mul h (x := x) m.neg (by rw [abs_eq] at h2; grind)
  rw [abs_eq]
  grind
theorem rnd_mono (h : r.Ok) {x y : Rat} (hxy : x ≤ y) : rnd r x ≤ rnd r y := by
  have hf := h.f1
  by_cases he : placeOf r x = placeOf r y
  · have hs := step_pos h y
    have es : step r x = step r y := by unfold step; rw [he]
    unfold rnd
    rw [es]
    refine Rat.mul_le_mul_of_nonneg_right (Rat.intCast_le_intCast.mpr (whole_mono ?_)) (Rat.le_of_lt hs)
    apply Rat.le_of_mul_le_mul_right (c := step r y) _ hs
    rw [div_step h y]
    rw [← es, div_step h x]
    exact hxy
  · obtain ⟨x1, x2, x3⟩ := placeOf_is h x
    obtain ⟨y1, y2, y3⟩ := placeOf_is h y
    have ax := rnd_abs h x
    have ay := rnd_abs h y
    by_cases hl : placeOf r x < placeOf r y
    · have hy : pw r (placeOf r y - 1 + r.F) ≤ y.abs := by
        rcases y3 with y3 | y3
        · omega
        · exact y3
      have hm := pw_mono h (show placeOf r x + r.F ≤ placeOf r y - 1 + r.F by omega)
      have hyp : pw r (placeOf r y - 1 + r.F) ≤ y := by
        rw [abs_eq] at *
        grind
      have := rnd_ge_mul h (x := y) (y := pw r (placeOf r y - 1 + r.F)) (mul_pw h (by omega)) hyp
      rw [abs_eq] at *
      grind
    · have hx : pw r (placeOf r x - 1 + r.F) ≤ x.abs := by
        rcases x3 with x3 | x3
        · omega
        · exact x3
      have hm := pw_mono h (show placeOf r y + r.F ≤ placeOf r x - 1 + r.F by omega)
      have hxn : x ≤ -pw r (placeOf r x - 1 + r.F) := by
        rw [abs_eq] at *
        grind
      have := rnd_le_mul h (x := x) (y := -pw r (placeOf r x - 1 + r.F)) (mul_pw h (by omega)).neg hxn
      rw [abs_eq] at *
      grind
/-- how far rounding goes -/
noncomputable def off (r : Ruler) (x : Rat) : Rat := (rnd r x - x).abs
noncomputable def slackStep (r : Ruler) (x : Rat) : Rat := if r.w = 0 then (1 / 2 : Rat) * step r x else step r x
theorem off_le (h : r.Ok) (x : Rat) : off r x ≤ slackStep r x := by
  have hs := step_pos h x
  have h1 := whole_off (w := r.w) (q := x / step r x)
  have h2 : rnd r x - x = ((whole r.w (x / step r x) : Rat) - x / step r x) * step r x := by
    have := div_step h x
    unfold rnd
    grind
  unfold off slackStep
  rw [h2]
  have h3 : ∀ a : Rat, (a * step r x).abs = a.abs * step r x := by
    intro a
    rw [abs_eq, abs_eq]
    by_cases ha : 0 ≤ a
    · rw [if_pos ha, if_pos (Rat.mul_nonneg ha (Rat.le_of_lt hs))]
    · rw [if_neg ha]
      have := (Rat.mul_neg_iff_of_pos_right (a := a) hs).mpr (by grind)
      rw [if_neg (by grind)]
      grind
  rw [h3]
  have := Rat.mul_le_mul_of_nonneg_right h1 (Rat.le_of_lt hs)
  split
  · rw [if_pos (by assumption)] at this; exact this
  · rw [if_neg (by assumption)] at this; grind
theorem slackStep_mono (h : r.Ok) {x y : Rat} (hxy : x.abs ≤ y.abs) : slackStep r x ≤ slackStep r y := by
  have := step_mono h hxy
  unfold slackStep
  split <;> grind
theorem slackStep_nonneg (h : r.Ok) (x : Rat) : 0 ≤ slackStep r x := by
  have := step_pos h x
  unfold slackStep
  split <;> grind
/-! ### marks -/
def IsMark (r : Ruler) (x : Rat) : Prop := ∃ (m e : Int), r.L ≤ e ∧ x = (m : Rat) * pw r e ∧ (m : Rat).abs < pw r r.F
theorem abs_mul_pos {a b : Rat} (hb : 0 < b) : (a * b).abs = a.abs * b := by
  rw [abs_eq, abs_eq]
  by_cases ha : 0 ≤ a
  · rw [if_pos ha, if_pos (Rat.mul_nonneg ha (Rat.le_of_lt hb))]
  · rw [if_neg ha]
    have := (Rat.mul_neg_iff_of_pos_right (a := a) hb).mpr (by grind)
    rw [if_neg (by grind)]
    grind
theorem IsMark.mul (h : r.Ok) {x : Rat} (m : IsMark r x) : Mul r x (placeOf r x) := by
  obtain ⟨m, e, he, rfl, hm⟩ := m
  refine Mul.down h ⟨m, rfl⟩ ?_
  obtain ⟨h1, h2, h3⟩ := placeOf_is h ((m : Rat) * pw r e)
  rcases h3 with h3 | h3
  · omega
  · have hp := pw_pos h e
    rw [abs_mul_pos hp] at h3
    have : (m : Rat).abs * pw r e < pw r r.F * pw r e := Rat.mul_lt_mul_of_pos_right hm hp
    rw [← pw_add h] at this
    have := pw_lt_of h (r := r) (a := placeOf r ((m : Rat) * pw r e) - 1 + r.F) (b := r.F + e) (by grind)
    omega
theorem IsMark.rnd (h : r.Ok) {x : Rat} (m : IsMark r x) : RS.rnd r x = x := rnd_fix h (m.mul h)
theorem IsMark.zero (h : r.Ok) : IsMark r 0 := ⟨0, r.L, by omega, by simp, by
  have := pw_pos h r.F
  rw [abs_eq]
  simpa using this⟩
theorem IsMark.neg {x : Rat} (m : IsMark r x) : IsMark r (-x) := by
  obtain ⟨m, e, he, rfl, hm⟩ := m
  refine ⟨-m, e, he, by rw [Rat.intCast_neg]; grind, ?_⟩
  rw [Rat.intCast_neg, Rat.abs_neg]
  exact hm
/-- whole multiples of a power, not beyond its figures, are marks -/
theorem mark_of (h : r.Ok) {x : Rat} {e : Int} (he : r.L ≤ e) (m : Mul r x e) (hx : x.abs ≤ pw r (e + r.F)) : IsMark r x := by
  have hf := h.f1
  have hp := pw_pos h e
  by_cases hl : x.abs < pw r (e + r.F)
  · obtain ⟨n, rfl⟩ := m
    refine ⟨n, e, he, rfl, ?_⟩
    rw [abs_mul_pos hp, Int.add_comm, pw_add h] at hl
    exact (Rat.mul_lt_mul_right hp).mp hl
  · have hxe : x.abs = pw r (e + r.F) := by grind
    have pos : IsMark r (pw r (e + r.F)) := by
      obtain ⟨k, hk, _⟩ := pw_whole h (e := r.F - 1) (by omega)
      refine ⟨k, e + 1, by omega, ?_, ?_⟩
      · rw [← hk, ← pw_add h]
        congr 1
        omega
      · rw [← hk, Rat.abs_of_nonneg (Rat.le_of_lt (pw_pos h _))]
        have h1 := pw_double h (r.F - 1)
        have h2 := pw_pos h (r.F - 1)
        rw [show r.F - 1 + 1 = r.F by omega] at h1
        grind
    rw [abs_eq] at hxe
    by_cases h0 : 0 ≤ x
    · rw [if_pos h0] at hxe
      rw [hxe]
      exact pos
    · rw [if_neg h0] at hxe
      have : x = -pw r (e + r.F) := by grind
      rw [this]
      exact pos.neg
theorem rnd_mark (h : r.Ok) (x : Rat) : IsMark r (rnd r x) := mark_of h (placeOf_low h x) (rnd_mul x) (rnd_abs h x)
theorem off_mark (h : r.Ok) {x : Rat} (m : IsMark r x) : off r x = 0 := by
  unfold off
  rw [m.rnd h, Rat.sub_self, Rat.abs_zero]
end
end RS
/-! part RSMath2 -/
namespace RS
/-! ### grains -/
def IsGrain (r : Ruler) (x : Rat) (g : Int) : Prop := placeOf r x ≤ g ∧ ¬ Mul r x (g + 1) ∧ ∀ k, placeOf r x < k → k ≤ g → Mul r x k
section
variable {r : Ruler}
theorem IsGrain.unique {x : Rat} {p q : Int} (hp : IsGrain r x p) (hq : IsGrain r x q) : p = q := by
  have key : ∀ {p q : Int}, IsGrain r x p → IsGrain r x q → ¬ p < q := fun {p q} hp hq hl => hp.2.1 (hq.2.2 (p + 1) (by have := hp.1; omega) (by omega))
  have a := key hp hq
  have b := key hq hp
  omega
/-- a multiple that is not 0 is no less in size than the power -/
theorem Mul.size (h : r.Ok) {x : Rat} {e : Int} (m : Mul r x e) (hx : x ≠ 0) : pw r e ≤ x.abs := by
  obtain ⟨n, rfl⟩ := m
  have hp := pw_pos h e
  rw [abs_mul_pos hp]
  have hn : n ≠ 0 := fun z => hx (by rw [z]; simp)
  have h1 : (1 : Rat) ≤ (n : Rat).abs := by
    rw [abs_eq]
    by_cases h0 : 0 ≤ n
    · rw [if_pos (Rat.intCast_nonneg.mpr h0)]
      have := Rat.intCast_le_intCast.mpr (show (1 : Int) ≤ n by omega)
      simpa using this
    · rw [if_neg (by rw [Rat.intCast_nonneg]; exact h0)]
      have := Rat.intCast_le_intCast.mpr (show n ≤ (-1 : Int) by omega)
      rw [Rat.intCast_neg] at this
      have e1 : ((1 : Int) : Rat) = 1 := rfl
      rw [e1] at this
      grind
  have := Rat.mul_le_mul_of_nonneg_right h1 (Rat.le_of_lt hp)
  rw [Rat.one_mul] at this
  exact this
theorem grain_some (h : r.Ok) {x : Rat} (hx : x ≠ 0) : ∃ g, IsGrain r x g := by
  obtain ⟨n, hn⟩ := pw_big' h x.abs (placeOf r x)
  have hno : ¬ Mul r x (placeOf r x + n + 1) := fun m => by
    have := m.size h hx
    have := pw_le_succ h (placeOf r x + n)
    grind
  clear hn
  induction n with
  | zero => exact ⟨placeOf r x, Int.le_refl _, by simpa using hno, fun k h1 h2 => by omega⟩
  | succ n ih =>
    by_cases hm : Mul r x (placeOf r x + n + 1)
    · refine ⟨placeOf r x + (n + 1 : Nat), by omega, hno, fun k h1 h2 => hm.down h (by omega)⟩
    · exact ih hm
end
open Classical in
noncomputable def grainUp (r : Ruler) (x : Rat) : Int := if h : ∃ g, IsGrain r x g then h.choose else 0
section
variable {r : Ruler}
theorem grainUp_is (h : r.Ok) {x : Rat} (hx : x ≠ 0) : IsGrain r x (grainUp r x) := by
  unfold grainUp
  rw [dif_pos (grain_some h hx)]
  exact (grain_some h hx).choose_spec
theorem grainUp_eq (h : r.Ok) {x : Rat} (hx : x ≠ 0) {g : Int} (hg : IsGrain r x g) : grainUp r x = g := (grainUp_is h hx).unique hg
end
/-! ### sizes of spans, grains of spans -/
def smallSize (lo hi : Rat) : Rat := if lo ≤ 0 ∧ 0 ≤ hi then 0 else min lo.abs hi.abs
def greatSize (lo hi : Rat) : Rat := max lo.abs hi.abs
open Classical in
noncomputable def grainSpan (r : Ruler) (lo hi : Rat) : Option Int :=
  if lo = hi then (if lo = 0 then none else some (grainUp r lo))
  else if lo ≤ 0 ∧ 0 ≤ hi then some r.L else some (placeOf r (smallSize lo hi))
def lessGrain : Option Int → Option Int → Option Int
  | none, b => b
  | some a, none => some a
  | some a, some b => some (min a b)
def greatGrain : Option Int → Option Int → Option Int
  | none, b => b
  | some a, none => some a
  | some a, some b => some (max a b)
def bothGrains : Option Int → Option Int → Option Int
  | some a, some b => some (a + b)
  | _, _ => none
def exactly (r : Ruler) (lo hi : Rat) (g : Option Int) : Prop := ∃ a, g = some a ∧ r.L ≤ a ∧ greatSize lo hi ≤ pw r (a + r.F)
open Classical in
noncomputable def slack (r : Ruler) (lo hi : Rat) (g : Option Int) : Rat :=
  if lo = hi then off r lo else if exactly r lo hi g then 0 else slackStep r (greatSize lo hi)
def apart (lo hi tlo thi : Rat) : Rat := max (hi - tlo) (thi - lo)
structure Ent where
  lo : Rat
  hi : Rat
  tlo : Rat
  thi : Rat
  err : Rat
  g : Option Int
noncomputable def lastGrain (r : Ruler) (lo hi : Rat) (g : Option Int) : Option Int := match grainSpan r lo hi with
  | none => none
  | some o => greatGrain (some o) g
noncomputable def lastEnt (r : Ruler) (lo hi tlo thi err : Rat) (g : Option Int) : Ent := ⟨lo, hi, tlo, thi, min err (apart lo hi tlo thi), lastGrain r lo hi g⟩
noncomputable def roundEnt (r : Ruler) (slo shi tlo thi err : Rat) (g : Option Int) : Ent := lastEnt r (rnd r slo) (rnd r shi) tlo thi (err + slack r slo shi g) g
/-- one holds another one that claims no less -/
structure Holds (W N : Ent) : Prop where
  lo : W.lo ≤ N.lo
  hi : N.hi ≤ W.hi
  tlo : W.tlo ≤ N.tlo
  thi : N.thi ≤ W.thi
  err : N.err ≤ W.err
  g : ∀ b, N.g = some b → ∃ a, W.g = some a ∧ a ≤ b
/-- an entry, and a wider one -/
structure Pair (r : Ruler) (W N : Ent) : Prop extends Holds W N where
  ord : N.lo ≤ N.hi
  tord : N.tlo ≤ N.thi
  epos : 0 ≤ N.err
  nz : N.g = none → N.lo = 0 ∧ N.hi = 0
  wz : W.g = none → W.lo = 0 ∧ W.hi = 0
  gm : ∀ b, N.g = some b → N.lo = N.hi → Mul r N.lo b
section
variable {r : Ruler} {lo hi lo' hi' tlo thi tlo' thi' err err' : Rat} {g g' : Option Int}
/-- the first ones wide, the primed ones narrow -/
theorem great_mono (h1 : lo ≤ lo') (h2 : lo' ≤ hi') (h3 : hi' ≤ hi) : greatSize lo' hi' ≤ greatSize lo hi := by
  unfold greatSize
  rw [abs_eq, abs_eq, abs_eq, abs_eq]
  grind
theorem small_mono (h1 : lo ≤ lo') (h2 : lo' ≤ hi') (h3 : hi' ≤ hi) : smallSize lo hi ≤ smallSize lo' hi' := by
  unfold smallSize
  rw [abs_eq, abs_eq, abs_eq, abs_eq]
  grind
theorem great_nonneg : 0 ≤ greatSize lo hi := by
  unfold greatSize
  rw [abs_eq, abs_eq]
  grind
theorem small_nonneg : 0 ≤ smallSize lo hi := by
  unfold smallSize
  rw [abs_eq, abs_eq]
  grind
theorem abs_nn {x : Rat} (h : 0 ≤ x) : x.abs = x := Rat.abs_of_nonneg h
theorem apart_mono (h1 : lo ≤ lo') (h3 : hi' ≤ hi) (t1 : tlo ≤ tlo') (t3 : thi' ≤ thi) : apart lo' hi' tlo' thi' ≤ apart lo hi tlo thi := by
  unfold apart
  grind
theorem grainSpan_mono (h : r.Ok) (h1 : lo ≤ lo') (h2 : lo' ≤ hi') (h3 : hi' ≤ hi) {b : Int} (hb : grainSpan r lo' hi' = some b) : ∃ a, grainSpan r lo hi = some a ∧ a ≤ b := by
  unfold grainSpan at hb ⊢
  by_cases e : lo = hi
  · have e1 : lo' = lo := by grind
    have e2 : hi' = lo := by grind
    rw [if_pos e]
    rw [e1, e2, if_pos rfl] at hb
    exact ⟨b, hb, Int.le_refl _⟩
  · rw [if_neg e]
    have low : r.L ≤ b := by
      by_cases e' : lo' = hi'
      · rw [if_pos e'] at hb
        by_cases z : lo' = 0
        · rw [if_pos z] at hb; cases hb
        · rw [if_neg z] at hb
          cases hb
          exact Int.le_trans (placeOf_low h _) (grainUp_is h z).1
      · rw [if_neg e'] at hb
        by_cases z : lo' ≤ 0 ∧ 0 ≤ hi'
        · rw [if_pos z] at hb
          cases hb
          exact Int.le_refl _
        · rw [if_neg z] at hb
          cases hb
          exact placeOf_low h _
    by_cases zw : lo ≤ 0 ∧ 0 ≤ hi
    · rw [if_pos zw]
      exact ⟨_, rfl, low⟩
    · rw [if_neg zw]
      refine ⟨_, rfl, ?_⟩
      have hs := small_mono h1 h2 h3
      have zn : ¬ (lo' ≤ 0 ∧ 0 ≤ hi') := by grind
      have hp : (smallSize lo hi).abs = smallSize lo hi := abs_nn small_nonneg
      have hp' : (smallSize lo' hi').abs = smallSize lo' hi' := abs_nn small_nonneg
      by_cases e' : lo' = hi'
      · rw [if_pos e'] at hb
        have z : lo' ≠ 0 := by grind
        rw [if_neg z] at hb
        cases hb
        refine Int.le_trans (placeOf_mono h ?_) (grainUp_is h z).1
        rw [hp]
        unfold smallSize at hs ⊢
        rw [if_neg zn] at hs
        grind
      · rw [if_neg e', if_neg zn] at hb
        cases hb
        exact placeOf_mono h (by rw [hp, hp']; exact hs)
theorem grainSpan_none (hb : grainSpan r lo hi = none) : lo = 0 ∧ hi = 0 := by
  unfold grainSpan at hb
  split at hb
  · split at hb
    · grind
    · cases hb
  · split at hb <;> cases hb
theorem grainSpan_zero : grainSpan r 0 0 = none := by
  unfold grainSpan
  rw [if_pos rfl, if_pos rfl]
theorem lastEnt_mono (h : r.Ok) (h1 : lo ≤ lo') (h2 : lo' ≤ hi') (h3 : hi' ≤ hi) (t1 : tlo ≤ tlo') (t3 : thi' ≤ thi) (he : err' ≤ err)
    (hg : ∀ a, g = some a → (∃ b, g' = some b ∧ a ≤ b) ∨ (lo' = 0 ∧ hi' = 0)) : Holds (lastEnt r lo hi tlo thi err g) (lastEnt r lo' hi' tlo' thi' err' g') := by
  refine ⟨h1, h3, t1, t3, ?_, ?_⟩
  · have := apart_mono h1 h3 t1 t3
    show min err' _ ≤ min err _
    grind
  · intro b hb
    have hb : lastGrain r lo' hi' g' = some b := hb
    show ∃ a, lastGrain r lo hi g = some a ∧ a ≤ b
    unfold lastGrain at hb ⊢
    cases e : grainSpan r lo' hi' with
    | none => rw [e] at hb; cases hb
    | some o' =>
      rw [e] at hb
      obtain ⟨o, eo, ho⟩ := grainSpan_mono h h1 h2 h3 e
      rw [eo]
      have hb : greatGrain (some o') g' = some b := hb
      show ∃ a, greatGrain (some o) g = some a ∧ a ≤ b
      have ob : o' ≤ b := by
        cases g' with
        | none => cases hb; exact Int.le_refl _
        | some c =>
          have : max o' c = b := Option.some.inj hb
          omega
      cases g with
      | none => exact ⟨o, rfl, by omega⟩
      | some a =>
        refine ⟨max o a, rfl, ?_⟩
        rcases hg a rfl with ⟨c, rfl, hc⟩ | ⟨z1, z2⟩
        · have : max o' c = b := Option.some.inj hb
          omega
        · rw [z1, z2, grainSpan_zero] at e
          cases e
theorem slack_nonneg (h : r.Ok) : 0 ≤ slack r lo hi g := by
  unfold slack
  split
  · exact Rat.abs_nonneg
  · split
    · exact Rat.le_refl
    · exact slackStep_nonneg h _
theorem slack_mono (h : r.Ok) (h1 : lo ≤ lo') (h2 : lo' ≤ hi') (h3 : hi' ≤ hi) (hg : ∀ a, g = some a → (∃ b, g' = some b ∧ a ≤ b) ∨ (lo' = 0 ∧ hi' = 0))
    (hm : lo' = hi' → ∀ a, g = some a → Mul r lo' a) : slack r lo' hi' g' ≤ slack r lo hi g := by
  by_cases e' : lo' = hi'
  · by_cases e : lo = hi
    · have : lo' = lo := by grind
      subst this
      unfold slack
      rw [if_pos e', if_pos e]
      exact Rat.le_refl
    · unfold slack
      rw [if_pos e', if_neg e]
      have hgr : lo'.abs ≤ greatSize lo hi := by
        unfold greatSize
        rw [abs_eq, abs_eq, abs_eq]
        grind
      by_cases ex : exactly r lo hi g
      · rw [if_pos ex]
        obtain ⟨a, ea, ha, hp⟩ := ex
        rw [off_mark h (mark_of h ha (hm e' a ea) (by grind))]
        exact Rat.le_refl
      · rw [if_neg ex]
        refine Rat.le_trans (off_le h _) (slackStep_mono h ?_)
        rw [abs_nn (x := greatSize lo hi) great_nonneg]
        exact hgr
  · have e : ¬ lo = hi := by grind
    unfold slack
    rw [if_neg e', if_neg e]
    have hgr := great_mono h1 h2 h3
    by_cases ex' : exactly r lo' hi' g'
    · rw [if_pos ex']
      split
      · exact Rat.le_refl
      · exact slackStep_nonneg h _
    · rw [if_neg ex']
      have ex : ¬ exactly r lo hi g := fun ⟨a, ea, ha, hp⟩ => ex' (by
        rcases hg a ea with ⟨b, eb, hb⟩ | ⟨z1, z2⟩
        · have := pw_mono h (show a + r.F ≤ b + r.F by omega)
          exact ⟨b, eb, by omega, by grind⟩
        · exact absurd (z1.trans z2.symm) e')
      rw [if_neg ex]
      refine slackStep_mono h ?_
      rw [abs_nn (x := greatSize lo hi) great_nonneg, abs_nn (x := greatSize lo' hi') great_nonneg]
      exact hgr
theorem roundEnt_mono (h : r.Ok) (h1 : lo ≤ lo') (h2 : lo' ≤ hi') (h3 : hi' ≤ hi) (t1 : tlo ≤ tlo') (t3 : thi' ≤ thi) (he : err' ≤ err) (hg : ∀ a, g = some a → (∃ b, g' = some b ∧ a ≤ b) ∨ (lo' = 0 ∧ hi' = 0))
    (hm : lo' = hi' → ∀ a, g = some a → Mul r lo' a) : Holds (roundEnt r lo hi tlo thi err g) (roundEnt r lo' hi' tlo' thi' err' g') := by
  have hs := slack_mono h h1 h2 h3 hg hm
  refine lastEnt_mono h (rnd_mono h h1) (rnd_mono h h2) (rnd_mono h h3) t1 t3 (by grind) fun a ha => ?_
  rcases hg a ha with z | ⟨z1, z2⟩
  · exact .inl z
  · refine .inr ⟨?_, ?_⟩
    · rw [z1]; exact rnd_zero h
    · rw [z2]; exact rnd_zero h
end
end RS
/-! part RSMath3 -/
namespace RS
/-! ### the rule, word by word -/
def lo4 (a b c d : Rat) : Rat := min (min (min a b) c) d
def hi4 (a b c d : Rat) : Rat := max (max (max a b) c) d
def mulLo (a b c d : Rat) : Rat := lo4 (a * c) (a * d) (b * c) (b * d)
def mulHi (a b c d : Rat) : Rat := hi4 (a * c) (a * d) (b * c) (b * d)
def divLo (a b c d : Rat) : Rat := lo4 (a / c) (a / d) (b / c) (b / d)
def divHi (a b c d : Rat) : Rat := hi4 (a / c) (a / d) (b / c) (b / d)
section
variable (r : Ruler) (x y u v : Ent)
noncomputable def numEnt (c : Rat) : Ent := roundEnt r c c c c 0 none
noncomputable def sumEnt : Ent := roundEnt r (x.lo + y.lo) (x.hi + y.hi) (x.tlo + y.tlo) (x.thi + y.thi) (x.err + y.err) (lessGrain x.g y.g)
noncomputable def diffEnt : Ent := roundEnt r (x.lo + -y.hi) (x.hi + -y.lo) (x.tlo + -y.thi) (x.thi + -y.tlo) (x.err + y.err) (lessGrain x.g y.g)
noncomputable def prodEnt : Ent := roundEnt r (mulLo x.lo x.hi y.lo y.hi) (mulHi x.lo x.hi y.lo y.hi) (mulLo x.tlo x.thi y.tlo y.thi) (mulHi x.tlo x.thi y.tlo y.thi)
  (greatSize x.lo x.hi * y.err + greatSize y.tlo y.thi * x.err) (bothGrains x.g y.g)
/-- whether nought lies in what divides -/
def byNought : Prop := (y.lo ≤ 0 ∧ 0 ≤ y.hi) ∨ (y.tlo ≤ 0 ∧ 0 ≤ y.thi)
noncomputable def quotEnt : Ent := roundEnt r (divLo x.lo x.hi y.lo y.hi) (divHi x.lo x.hi y.lo y.hi) (divLo x.tlo x.thi y.tlo y.thi) (divHi x.tlo x.thi y.tlo y.thi)
  ((greatSize (divLo x.lo x.hi y.lo y.hi) (divHi x.lo x.hi y.lo y.hi) * y.err + x.err) / smallSize y.tlo y.thi) none
noncomputable def turnedEnt : Ent := lastEnt r (-x.hi) (-x.lo) (-x.thi) (-x.tlo) x.err x.g
noncomputable def sizeEnt : Ent := lastEnt r (smallSize x.lo x.hi) (greatSize x.lo x.hi) (smallSize x.tlo x.thi) (greatSize x.tlo x.thi) x.err x.g
noncomputable def leastEnt : Ent := lastEnt r (min x.lo y.lo) (min x.hi y.hi) (min x.tlo y.tlo) (min x.thi y.thi) (max x.err y.err) (lessGrain x.g y.g)
noncomputable def mostEnt : Ent := lastEnt r (max x.lo y.lo) (max x.hi y.hi) (max x.tlo y.tlo) (max x.thi y.thi) (max x.err y.err) (lessGrain x.g y.g)
/-- which sides may be taken: the first, the last -/
def sides (a b c d : Rat) : Bool × Bool := if b < c then (false, false) else if d ≤ a then (true, true) else (false, true)
def sideList (p : Bool × Bool) : List Bool := if p.1 = p.2 then [p.1] else [p.1, p.2]
def sel (s : Bool) : Ent := if s then v else u
def far (same : Bool) (s t : Bool) : Rat := if (same || s == t) = true then (sel u v s).err else apart (sel u v s).lo (sel u v s).hi (sel u v t).tlo (sel u v t).thi
def pickErr (same : Bool) (mine its : List Bool) : Rat := mine.foldl (fun e s => its.foldl (fun e t => max e (far u v same s t)) e) 0
noncomputable def pickEnt (same : Bool) : Ent :=
  lastEnt r (min (sel u v (sides x.lo x.hi y.lo y.hi).1).lo (sel u v (sides x.lo x.hi y.lo y.hi).2).lo) (max (sel u v (sides x.lo x.hi y.lo y.hi).1).hi (sel u v (sides x.lo x.hi y.lo y.hi).2).hi)
    (min (sel u v (sides x.tlo x.thi y.tlo y.thi).1).tlo (sel u v (sides x.tlo x.thi y.tlo y.thi).2).tlo) (max (sel u v (sides x.tlo x.thi y.tlo y.thi).1).thi (sel u v (sides x.tlo x.thi y.tlo y.thi).2).thi)
    (pickErr u v same (sideList (sides x.lo x.hi y.lo y.hi)) (sideList (sides x.tlo x.thi y.tlo y.thi))) (lessGrain (sel u v (sides x.lo x.hi y.lo y.hi).1).g (sel u v (sides x.lo x.hi y.lo y.hi).2).g)
end
section
variable {r : Ruler} {X x Y y U u V v : Ent}
/-! ### grains of two -/
theorem less_gle (p : Pair r X x) (q : Pair r Y y) : ∀ a, lessGrain X.g Y.g = some a → (∃ b, lessGrain x.g y.g = some b ∧ a ≤ b) ∨ (x.g = none ∧ y.g = none) := by
  intro a ha
  have hx := p.g
  have hy := q.g
  cases e1 : x.g with
  | none =>
    cases e2 : y.g with
    | none => exact .inr ⟨rfl, rfl⟩
    | some b =>
      obtain ⟨c, ec, hc⟩ := hy b e2
      rw [ec] at ha
      left
      refine ⟨b, rfl, ?_⟩
      cases e3 : X.g with
      | none => rw [e3] at ha; cases ha; exact hc
      | some d =>
        rw [e3] at ha
        have : min d c = a := Option.some.inj ha
        omega
  | some b1 =>
    obtain ⟨c1, ec1, hc1⟩ := hx b1 e1
    rw [ec1] at ha
    left
    cases e2 : y.g with
    | none =>
      refine ⟨b1, rfl, ?_⟩
      cases e3 : Y.g with
      | none => rw [e3] at ha; cases ha; exact hc1
      | some d =>
        rw [e3] at ha
        have : min c1 d = a := Option.some.inj ha
        omega
    | some b =>
      obtain ⟨c, ec, hc⟩ := hy b e2
      rw [ec] at ha
      have : min c1 c = a := Option.some.inj ha
      exact ⟨min b1 b, rfl, by omega⟩
theorem less_le1 {a b c : Int} {g g' : Option Int} (h : lessGrain g g' = some a) (e : g = some b) : a ≤ b := by
  subst e
  cases g' with
  | none => cases h; exact Int.le_refl _
  | some d =>
    have : min b d = a := Option.some.inj h
    omega
theorem less_le2 {a b : Int} {g g' : Option Int} (h : lessGrain g g' = some a) (e : g' = some b) : a ≤ b := by
  subst e
  cases g with
  | none => cases h; exact Int.le_refl _
  | some d =>
    have : min d b = a := Option.some.inj h
    omega
/-- a single narrow number is a multiple of any known power of the wide one's grain -/
theorem Pair.single (h : r.Ok) (p : Pair r X x) (e : x.lo = x.hi) {a : Int} (ha : ∀ b, X.g = some b → a ≤ b) (hz : X.g = none → True) : Mul r x.lo a := by
  cases e1 : x.g with
  | none => rw [(p.nz e1).1]; exact Mul.zero _
  | some b =>
    obtain ⟨c, ec, hc⟩ := p.g b e1
    exact (p.gm b e1 e).down h (by have := ha c ec; omega)
theorem sum_holds (h : r.Ok) (p : Pair r X x) (q : Pair r Y y) : Holds (sumEnt r X Y) (sumEnt r x y) := by
  have p1 := p.lo; have p2 := p.hi; have p3 := p.tlo; have p4 := p.thi; have p5 := p.err; have p6 := p.ord
  have q1 := q.lo; have q2 := q.hi; have q3 := q.tlo; have q4 := q.thi; have q5 := q.err; have q6 := q.ord
  refine roundEnt_mono h (by grind) (by grind) (by grind) (by grind) (by grind) (by grind) (fun a ha => ?_) fun e a ha => ?_
  · rcases less_gle p q a ha with z | ⟨z1, z2⟩
    · exact .inl z
    · have n1 := p.nz z1
      have n2 := q.nz z2
      right
      grind
  · have ex : x.lo = x.hi := by grind
    have ey : y.lo = y.hi := by grind
    exact (p.single h ex (fun b hb => less_le1 (c := 0) ha hb) fun _ => trivial).add (q.single h ey (fun b hb => less_le2 ha hb) fun _ => trivial)
theorem diff_holds (h : r.Ok) (p : Pair r X x) (q : Pair r Y y) : Holds (diffEnt r X Y) (diffEnt r x y) := by
  have p1 := p.lo; have p2 := p.hi; have p3 := p.tlo; have p4 := p.thi; have p5 := p.err; have p6 := p.ord
  have q1 := q.lo; have q2 := q.hi; have q3 := q.tlo; have q4 := q.thi; have q5 := q.err; have q6 := q.ord
  refine roundEnt_mono h (by grind) (by grind) (by grind) (by grind) (by grind) (by grind) (fun a ha => ?_) fun e a ha => ?_
  · rcases less_gle p q a ha with z | ⟨z1, z2⟩
    · exact .inl z
    · have n1 := p.nz z1
      have n2 := q.nz z2
      right
      grind
  · have ex : x.lo = x.hi := by grind
    have ey : y.lo = y.hi := by grind
    rw [← ey]
    exact (p.single h ex (fun b hb => less_le1 (c := 0) ha hb) fun _ => trivial).add (q.single h ey (fun b hb => less_le2 ha hb) fun _ => trivial).neg
/-! ### products -/
theorem mul_between {a b x y : Rat} (h1 : a ≤ x) (h2 : x ≤ b) : min (a * y) (b * y) ≤ x * y ∧ x * y ≤ max (a * y) (b * y) := by
  rcases Rat.le_total (a := 0) (b := y) with h | h
  · have := Rat.mul_le_mul_of_nonneg_right h1 h
    have := Rat.mul_le_mul_of_nonneg_right h2 h
    grind
  · have h' : 0 ≤ -y := by grind
    have := Rat.mul_le_mul_of_nonneg_right h1 h'
    have := Rat.mul_le_mul_of_nonneg_right h2 h'
    grind
theorem corner {a b c d x y : Rat} (h1 : a ≤ x) (h2 : x ≤ b) (h3 : c ≤ y) (h4 : y ≤ d) : mulLo a b c d ≤ x * y ∧ x * y ≤ mulHi a b c d := by
  have e1 := mul_between (y := y) h1 h2
  have e2 := mul_between (y := a) h3 h4
  have e3 := mul_between (y := b) h3 h4
  unfold mulLo mulHi lo4 hi4
  grind
theorem lo4_ge {a b c d z : Rat} (h1 : z ≤ a) (h2 : z ≤ b) (h3 : z ≤ c) (h4 : z ≤ d) : z ≤ lo4 a b c d := by unfold lo4; grind
theorem hi4_le {a b c d z : Rat} (h1 : a ≤ z) (h2 : b ≤ z) (h3 : c ≤ z) (h4 : d ≤ z) : hi4 a b c d ≤ z := by unfold hi4; grind
theorem lo_hi4 {a b c d : Rat} : lo4 a b c d ≤ hi4 a b c d := by unfold lo4 hi4; grind
theorem mul_incl {A B C D a b c d : Rat} (h1 : A ≤ a) (h2 : a ≤ b) (h3 : b ≤ B) (h4 : C ≤ c) (h5 : c ≤ d) (h6 : d ≤ D) : mulLo A B C D ≤ mulLo a b c d ∧ mulHi a b c d ≤ mulHi A B C D := by
  have a2 : a ≤ B := by grind
  have b1 : A ≤ b := by grind
  have cd : c ≤ D := by grind
  have d1 : C ≤ d := by grind
  have c1 := corner (x := a) (y := c) h1 a2 h4 cd
  have c2 := corner (x := a) (y := d) h1 a2 d1 h6
  have c3 := corner (x := b) (y := c) b1 h3 h4 cd
  have c4 := corner (x := b) (y := d) b1 h3 d1 h6
  exact ⟨lo4_ge c1.1 c2.1 c3.1 c4.1, hi4_le c1.2 c2.2 c3.2 c4.2⟩
theorem mul_mono2 {a b c d : Rat} (h1 : 0 ≤ a) (h2 : a ≤ b) (h3 : 0 ≤ c) (h4 : c ≤ d) : a * c ≤ b * d := by
  have e1 := Rat.mul_le_mul_of_nonneg_right h2 h3
  have e2 := Rat.mul_le_mul_of_nonneg_left h4 (show 0 ≤ b by grind)
  grind
/-- one product alone: one factor is nought, or both are single -/
theorem mul_one_of {a b c d : Rat} (h2 : a ≤ b) (h5 : c ≤ d) (e : mulLo a b c d = mulHi a b c d) : (a = b ∧ c = d) ∨ (a = 0 ∧ b = 0) ∨ (c = 0 ∧ d = 0) := by
  have e1 : a * c = a * d := by unfold mulLo mulHi lo4 hi4 at e; grind
  have e2 : a * c = b * c := by unfold mulLo mulHi lo4 hi4 at e; grind
  have e3 : b * c = b * d := by unfold mulLo mulHi lo4 hi4 at e; grind
  have e4 : a * d = b * d := by unfold mulLo mulHi lo4 hi4 at e; grind
  by_cases hab : a = b
  · by_cases hcd : c = d
    · exact .inl ⟨hab, hcd⟩
    · have : a * (c - d) = 0 := by grind
      rcases Rat.mul_eq_zero.mp this with z | z <;> grind
  · have z1 : (a - b) * c = 0 := by grind
    have z2 : (a - b) * d = 0 := by grind
    rcases Rat.mul_eq_zero.mp z1 with z | z
    · grind
    · rcases Rat.mul_eq_zero.mp z2 with z' | z' <;> grind
theorem both_some {g g' : Option Int} {a : Int} (h : bothGrains g g' = some a) : ∃ b c, g = some b ∧ g' = some c ∧ a = b + c := by
  cases g with
  | none => cases h
  | some b =>
    cases g' with
    | none => cases h
    | some c => cases h; exact ⟨b, c, rfl, rfl, rfl⟩
theorem prod_holds (h : r.Ok) (p : Pair r X x) (q : Pair r Y y) : Holds (prodEnt r X Y) (prodEnt r x y) := by
  have m1 := mul_incl p.lo p.ord p.hi q.lo q.ord q.hi
  have m2 := mul_incl p.tlo p.tord p.thi q.tlo q.tord q.thi
  have g1 := great_mono p.lo p.ord p.hi
  have g2 := great_mono q.tlo q.tord q.thi
  have k1 := mul_mono2 great_nonneg g1 q.epos q.err
  have k2 := mul_mono2 great_nonneg g2 p.epos p.err
  refine roundEnt_mono h m1.1 lo_hi4 m1.2 m2.1 m2.2 (by grind) (fun a ha => ?_) fun e a ha => ?_
  · obtain ⟨b, c, eb, ec, rfl⟩ := both_some ha
    cases e1 : x.g with
    | none =>
      have n1 := p.nz e1
      right
      rw [n1.1, n1.2]
      unfold mulLo mulHi lo4 hi4
      grind
    | some b' =>
      cases e2 : y.g with
      | none =>
        have n1 := q.nz e2
        right
        rw [n1.1, n1.2]
        unfold mulLo mulHi lo4 hi4
        grind
      | some c' =>
        obtain ⟨b2, eb2, hb2⟩ := p.g b' e1
        obtain ⟨c2, ec2, hc2⟩ := q.g c' e2
        rw [eb] at eb2; cases eb2
        rw [ec] at ec2; cases ec2
        exact .inl ⟨b' + c', rfl, by omega⟩
  · obtain ⟨b, c, eb, ec, rfl⟩ := both_some ha
    rcases mul_one_of p.ord q.ord e with ⟨z1, z2⟩ | ⟨z1, z2⟩ | ⟨z1, z2⟩
    · have k1 := p.single h z1 (a := b) (fun b' hb' => by rw [eb] at hb'; cases hb'; exact Int.le_refl _) fun _ => trivial
      have k2 := q.single h z2 (a := c) (fun b' hb' => by rw [ec] at hb'; cases hb'; exact Int.le_refl _) fun _ => trivial
      have : mulLo x.lo x.hi y.lo y.hi = x.lo * y.lo := by
        rw [← z1, ← z2]
        unfold mulLo lo4
        grind
      rw [this]
      exact k1.mul h k2
    · have : mulLo x.lo x.hi y.lo y.hi = 0 := by
        rw [z1, z2]
        unfold mulLo lo4
        grind
      rw [this]
      exact Mul.zero _
    · have : mulLo x.lo x.hi y.lo y.hi = 0 := by
        rw [z1, z2]
        unfold mulLo lo4
        grind
      rw [this]
      exact Mul.zero _
/-! ### quotients -/
theorem inv_anti {a b : Rat} (ha : 0 < a) (hab : a ≤ b) : b⁻¹ ≤ a⁻¹ := by
  have hb : 0 < b := by grind
  have ia : 0 < a⁻¹ := Rat.inv_pos.mpr ha
  have ib : 0 < b⁻¹ := Rat.inv_pos.mpr hb
  have e1 : a * a⁻¹ = 1 := Rat.mul_inv_cancel a (by grind)
  have e2 : b * b⁻¹ = 1 := Rat.mul_inv_cancel b (by grind)
  have q := Rat.mul_le_mul_of_nonneg_right hab (Rat.le_of_lt (Rat.mul_pos ia ib))
  have q1 : a * (a⁻¹ * b⁻¹) = b⁻¹ := by rw [← Rat.mul_assoc, e1, Rat.one_mul]
  have q2 : b * (a⁻¹ * b⁻¹) = a⁻¹ := by rw [Rat.mul_comm a⁻¹, ← Rat.mul_assoc, e2, Rat.one_mul]
  rw [q1, q2] at q
  exact q
theorem inv_neg' (a : Rat) : (-a)⁻¹ = -a⁻¹ := by
  by_cases h : a = 0
  · subst h; decide +kernel
  · apply Rat.inv_eq_of_mul_eq_one
    have := Rat.mul_inv_cancel a h
    grind
/-- not across nought, the inverse falls -/
theorem inv_anti' {a b : Rat} (hn : ¬ (a ≤ 0 ∧ 0 ≤ b)) (hab : a ≤ b) : b⁻¹ ≤ a⁻¹ := by
  by_cases ha : 0 < a
  · exact inv_anti ha hab
  · have hb : b < 0 := by grind
    have := inv_anti (a := -b) (b := -a) (by grind) (by grind)
    rw [inv_neg', inv_neg'] at this
    grind
theorem div_mul (a b : Rat) : a / b = a * b⁻¹ := Rat.div_def a b
theorem div_as_mul (a b c d : Rat) : divLo a b c d = mulLo a b d⁻¹ c⁻¹ ∧ divHi a b c d = mulHi a b d⁻¹ c⁻¹ := by
  unfold divLo divHi mulLo mulHi lo4 hi4
  rw [div_mul, div_mul, div_mul, div_mul]
  grind
theorem div_incl {A B C D a b c d : Rat} (hn : ¬ (C ≤ 0 ∧ 0 ≤ D)) (h1 : A ≤ a) (h2 : a ≤ b) (h3 : b ≤ B) (h4 : C ≤ c) (h5 : c ≤ d) (h6 : d ≤ D) : divLo A B C D ≤ divLo a b c d ∧ divHi a b c d ≤ divHi A B C D := by
  rw [(div_as_mul A B C D).1, (div_as_mul A B C D).2, (div_as_mul a b c d).1, (div_as_mul a b c d).2]
  exact mul_incl h1 h2 h3 (inv_anti' (a := d) (b := D) (by grind) h6) (inv_anti' (by grind) h5) (inv_anti' (a := C) (b := c) (by grind) h4)
theorem div_mono2 {a b c d : Rat} (h1 : 0 ≤ a) (h2 : a ≤ b) (h3 : 0 < d) (h4 : d ≤ c) : a / c ≤ b / d := by
  rw [div_mul, div_mul]
  have h5 := inv_anti h3 h4
  have h6 : 0 < c⁻¹ := Rat.inv_pos.mpr (by grind)
  exact mul_mono2 h1 h2 (Rat.le_of_lt h6) h5
theorem small_pos {lo hi : Rat} (hn : ¬ (lo ≤ 0 ∧ 0 ≤ hi)) (h : lo ≤ hi) : 0 < smallSize lo hi := by
  unfold smallSize
  rw [if_neg hn, abs_eq, abs_eq]
  grind
theorem byNought_mono (q : Pair r Y y) (hn : ¬ byNought Y) : ¬ byNought y := by
  have q1 := q.lo; have q2 := q.hi; have q3 := q.tlo; have q4 := q.thi
  unfold byNought at *
  grind
theorem quot_holds (h : r.Ok) (p : Pair r X x) (q : Pair r Y y) (hn : ¬ byNought Y) : Holds (quotEnt r X Y) (quotEnt r x y) := by
  have hn1 : ¬ (Y.lo ≤ 0 ∧ 0 ≤ Y.hi) := fun z => hn (.inl z)
  have hn2 : ¬ (Y.tlo ≤ 0 ∧ 0 ≤ Y.thi) := fun z => hn (.inr z)
  have m1 := div_incl hn1 p.lo p.ord p.hi q.lo q.ord q.hi
  have m2 := div_incl hn2 p.tlo p.tord p.thi q.tlo q.tord q.thi
  have lh : divLo x.lo x.hi y.lo y.hi ≤ divHi x.lo x.hi y.lo y.hi := lo_hi4
  have lt : divLo x.tlo x.thi y.tlo y.thi ≤ divHi x.tlo x.thi y.tlo y.thi := lo_hi4
  have g1 := great_mono m1.1 lh m1.2
  have k1 := mul_mono2 great_nonneg g1 q.epos q.err
  have s1 := small_mono q.tlo q.tord q.thi
  have q3 := q.tlo; have q4 := q.thi; have q6 := q.tord
  have s2 := small_pos hn2 (by grind)
  have p5 := p.err; have p7 := p.epos
  have k0 : 0 ≤ greatSize (divLo x.lo x.hi y.lo y.hi) (divHi x.lo x.hi y.lo y.hi) * y.err := Rat.mul_nonneg great_nonneg q.epos
  have z1 : 0 ≤ greatSize (divLo x.lo x.hi y.lo y.hi) (divHi x.lo x.hi y.lo y.hi) * y.err + x.err := Rat.add_nonneg k0 p7
  have z2 : greatSize (divLo x.lo x.hi y.lo y.hi) (divHi x.lo x.hi y.lo y.hi) * y.err + x.err ≤ greatSize (divLo X.lo X.hi Y.lo Y.hi) (divHi X.lo X.hi Y.lo Y.hi) * Y.err + X.err :=
    Rat.le_trans (Rat.add_le_add_right.mpr k1) (Rat.add_le_add_left.mpr p5)
  exact roundEnt_mono h m1.1 lh m1.2 m2.1 m2.2 (div_mono2 z1 z2 s2 s1) (fun a ha => by cases ha) fun e a ha => by cases ha
/-! ### what isn't rounded -/
theorem turned_holds (h : r.Ok) (p : Pair r X x) : Holds (turnedEnt r X) (turnedEnt r x) := by
  have p1 := p.lo; have p2 := p.hi; have p3 := p.tlo; have p4 := p.thi; have p5 := p.err; have p6 := p.ord
  refine lastEnt_mono h (by grind) (by grind) (by grind) (by grind) (by grind) p5 fun a ha => ?_
  cases e : x.g with
  | none =>
    have := p.nz e
    right
    grind
  | some b =>
    obtain ⟨c, ec, hc⟩ := p.g b e
    rw [ha] at ec; cases ec
    exact .inl ⟨b, rfl, hc⟩
theorem size_holds (h : r.Ok) (p : Pair r X x) : Holds (sizeEnt r X) (sizeEnt r x) := by
  have p5 := p.err
  have s1 := small_mono p.lo p.ord p.hi
  have s2 := great_mono p.lo p.ord p.hi
  have t1 := small_mono p.tlo p.tord p.thi
  have t2 := great_mono p.tlo p.tord p.thi
  have sg : smallSize x.lo x.hi ≤ greatSize x.lo x.hi := by
    have := p.ord
    unfold smallSize greatSize
    rw [abs_eq, abs_eq]
    grind
  refine lastEnt_mono h s1 sg s2 t1 t2 p5 fun a ha => ?_
  cases e : x.g with
  | none =>
    have := p.nz e
    right
    unfold smallSize greatSize
    rw [this.1, this.2]
    decide +kernel
  | some b =>
    obtain ⟨c, ec, hc⟩ := p.g b e
    rw [ha] at ec; cases ec
    exact .inl ⟨b, rfl, hc⟩
theorem least_holds (h : r.Ok) (p : Pair r X x) (q : Pair r Y y) : Holds (leastEnt r X Y) (leastEnt r x y) := by
  have p1 := p.lo; have p2 := p.hi; have p3 := p.tlo; have p4 := p.thi; have p5 := p.err; have p6 := p.ord
  have q1 := q.lo; have q2 := q.hi; have q3 := q.tlo; have q4 := q.thi; have q5 := q.err; have q6 := q.ord
  refine lastEnt_mono h (by grind) (by grind) (by grind) (by grind) (by grind) (by grind) fun a ha => ?_
  rcases less_gle p q a ha with z | ⟨z1, z2⟩
  · exact .inl z
  · have n1 := p.nz z1
    have n2 := q.nz z2
    right
    grind
theorem most_holds (h : r.Ok) (p : Pair r X x) (q : Pair r Y y) : Holds (mostEnt r X Y) (mostEnt r x y) := by
  have p1 := p.lo; have p2 := p.hi; have p3 := p.tlo; have p4 := p.thi; have p5 := p.err; have p6 := p.ord
  have q1 := q.lo; have q2 := q.hi; have q3 := q.tlo; have q4 := q.thi; have q5 := q.err; have q6 := q.ord
  refine lastEnt_mono h (by grind) (by grind) (by grind) (by grind) (by grind) (by grind) fun a ha => ?_
  rcases less_gle p q a ha with z | ⟨z1, z2⟩
  · exact .inl z
  · have n1 := p.nz z1
    have n2 := q.nz z2
    right
    grind
/-! ### picks -/
/-- of sides -/
def Sub (p P : Bool × Bool) : Prop := p = P ∨ (P = (false, true) ∧ (p = (false, false) ∨ p = (true, true)))
theorem sides_sub {A B C D a b c d : Rat} (h1 : A ≤ a) (h2 : a ≤ b) (h3 : b ≤ B) (h4 : C ≤ c) (h5 : c ≤ d) (h6 : d ≤ D) : Sub (sides a b c d) (sides A B C D) := by
  unfold Sub sides
  grind
theorem sides_form (a b c d : Rat) : sides a b c d = (false, false) ∨ sides a b c d = (true, true) ∨ sides a b c d = (false, true) := by
  unfold sides
  grind
theorem fold_ge {α : Type} (f : α → Rat) : ∀ (l : List α) (e : Rat), e ≤ l.foldl (fun e t => max e (f t)) e
  | [], e => Rat.le_refl
  | t :: l, e => by
    have := fold_ge f l (max e (f t))
    rw [List.foldl_cons]
    grind
theorem fold_le {α : Type} (f : α → Rat) {c : Rat} : ∀ (l : List α) (e : Rat), e ≤ c → (∀ t ∈ l, f t ≤ c) → l.foldl (fun e t => max e (f t)) e ≤ c
  | [], e, h, _ => h
  | t :: l, e, h, hl => by
    rw [List.foldl_cons]
    have := hl t List.mem_cons_self
    exact fold_le f l _ (by grind) fun t' h' => hl t' (List.mem_cons_of_mem _ h')
theorem fold_mem {α : Type} (f : α → Rat) : ∀ (l : List α) (e : Rat) (t : α), t ∈ l → f t ≤ l.foldl (fun e t => max e (f t)) e
  | a :: l, e, t, h => by
    rw [List.foldl_cons]
    rcases List.mem_cons.mp h with h | h
    · have := fold_ge f l (max e (f a))
      subst h
      grind
    · exact fold_mem f l _ t h
theorem pickErr_ge (same : Bool) (its : List Bool) : ∀ (mine : List Bool) (e : Rat), e ≤ mine.foldl (fun e s => its.foldl (fun e t => max e (far u v same s t)) e) e
  | [], e => Rat.le_refl
  | s :: l, e => by
    have h1 := pickErr_ge same its l (its.foldl (fun e t => max e (far u v same s t)) e)
    have h2 := fold_ge (far u v same s) its e
    rw [List.foldl_cons]
    grind
theorem pickErr_mem (same : Bool) (its : List Bool) {s t : Bool} (ht : t ∈ its) : ∀ (mine : List Bool) (e : Rat), s ∈ mine → far u v same s t ≤ mine.foldl (fun e s => its.foldl (fun e t => max e (far u v same s t)) e) e
  | a :: l, e, h => by
    rw [List.foldl_cons]
    rcases List.mem_cons.mp h with h | h
    · have h1 := pickErr_ge (u := u) (v := v) same its l (its.foldl (fun e t => max e (far u v same a t)) e)
      have h2 := fold_mem (far u v same a) its e t ht
      subst h
      grind
    · exact pickErr_mem same its ht l _ h
theorem pickErr_le (same : Bool) (its : List Bool) {c : Rat} : ∀ (mine : List Bool) (e : Rat), e ≤ c → (∀ s ∈ mine, ∀ t ∈ its, far u v same s t ≤ c) → mine.foldl (fun e s => its.foldl (fun e t => max e (far u v same s t)) e) e ≤ c
  | [], e, h, _ => h
  | s :: l, e, h, hl => by
    rw [List.foldl_cons]
    exact pickErr_le same its l _ (fold_le _ _ _ h (hl s List.mem_cons_self)) fun s' h' => hl s' (List.mem_cons_of_mem _ h')
theorem sub_mem {p P : Bool × Bool} (h : Sub p P) {s : Bool} (hs : s ∈ sideList p) : s ∈ sideList P := by
  rcases h with rfl | ⟨rfl, rfl | rfl⟩
  · exact hs
  · revert hs; cases s <;> decide
  · revert hs; cases s <;> decide
theorem sel_pair (p : Pair r U u) (q : Pair r V v) (s : Bool) : Pair r (sel U V s) (sel u v s) := by
  cases s with
  | true => exact q
  | false => exact p
theorem far_mono (p : Pair r U u) (q : Pair r V v) (same s t : Bool) : far u v same s t ≤ far U V same s t := by
  unfold far
  split
  · exact (sel_pair p q s).err
  · exact apart_mono (sel_pair p q s).lo (sel_pair p q s).hi (sel_pair p q t).tlo (sel_pair p q t).thi
theorem hull_sub (p : Pair r U u) (q : Pair r V v) {m M : Bool × Bool} (h : Sub m M) :
    min (sel U V M.1).lo (sel U V M.2).lo ≤ min (sel u v m.1).lo (sel u v m.2).lo ∧ max (sel u v m.1).hi (sel u v m.2).hi ≤ max (sel U V M.1).hi (sel U V M.2).hi := by
  have p1 := p.lo; have p2 := p.hi; have q1 := q.lo; have q2 := q.hi
  rcases h with rfl | ⟨rfl, rfl | rfl⟩
  · have a1 := (sel_pair p q m.1).lo; have a2 := (sel_pair p q m.2).lo
    have a3 := (sel_pair p q m.1).hi; have a4 := (sel_pair p q m.2).hi
    grind
  · simp only [sel]; grind
  · simp only [sel]; grind
theorem hull_subT (p : Pair r U u) (q : Pair r V v) {m M : Bool × Bool} (h : Sub m M) :
    min (sel U V M.1).tlo (sel U V M.2).tlo ≤ min (sel u v m.1).tlo (sel u v m.2).tlo ∧ max (sel u v m.1).thi (sel u v m.2).thi ≤ max (sel U V M.1).thi (sel U V M.2).thi := by
  have p1 := p.tlo; have p2 := p.thi; have q1 := q.tlo; have q2 := q.thi
  rcases h with rfl | ⟨rfl, rfl | rfl⟩
  · have a1 := (sel_pair p q m.1).tlo; have a2 := (sel_pair p q m.2).tlo
    have a3 := (sel_pair p q m.1).thi; have a4 := (sel_pair p q m.2).thi
    grind
  · simp only [sel]; grind
  · simp only [sel]; grind
theorem lessGrain_none {a b : Option Int} (h : lessGrain a b = none) : a = none ∧ b = none := by
  cases a with
  | none => exact ⟨rfl, h⟩
  | some a => cases b <;> cases h
theorem pick_holds (h : r.Ok) (p : Pair r X x) (q : Pair r Y y) (p' : Pair r U u) (q' : Pair r V v) (same : Bool) : Holds (pickEnt r X Y U V same) (pickEnt r x y u v same) := by
  have s1 := sides_sub p.lo p.ord p.hi q.lo q.ord q.hi
  have s2 := sides_sub p.tlo p.tord p.thi q.tlo q.tord q.thi
  have h1 := hull_sub p' q' s1
  have h2 := hull_subT p' q' s2
  have o1 := (sel_pair p' q' (sides x.lo x.hi y.lo y.hi).1).ord
  refine lastEnt_mono h h1.1 (by grind) h1.2 h2.1 h2.2 ?_ fun a ha => ?_
  · refine pickErr_le same _ _ _ (pickErr_ge same _ _ _) fun s hs t ht => ?_
    exact Rat.le_trans (far_mono p' q' same s t) (pickErr_mem same _ (sub_mem s2 ht) _ _ (sub_mem s1 hs))
  · generalize hm : sides x.lo x.hi y.lo y.hi = m at *
    generalize hM : sides X.lo X.hi Y.lo Y.hi = M at *
    cases e : lessGrain (sel u v m.1).g (sel u v m.2).g with
    | none =>
      obtain ⟨e1, e2⟩ := lessGrain_none e
      have n1 := (sel_pair p' q' m.1).nz e1
      have n2 := (sel_pair p' q' m.2).nz e2
      right
      grind
    | some b =>
      left
      refine ⟨b, rfl, ?_⟩
      rcases s1 with rfl | ⟨rfl, hmm⟩
      · rcases less_gle (sel_pair p' q' m.1) (sel_pair p' q' m.2) a ha with ⟨b', e', hb'⟩ | ⟨z1, z2⟩
        · rw [e] at e'; cases e'; exact hb'
        · rw [z1, z2] at e; cases e
      · have one : ∀ s : Bool, m = (s, s) → ∃ c, (sel u v s).g = some c ∧ c = b := by
          intro s hs
          rw [hs] at e
          cases e1 : (sel u v s).g with
          | none => rw [e1] at e; cases e
          | some c =>
            rw [e1] at e
            have : min c c = b := Option.some.inj e
            exact ⟨c, rfl, by omega⟩
        have ha' : lessGrain U.g V.g = some a := ha
        rcases hmm with hmm | hmm
        · obtain ⟨c, ec, hc⟩ := one false hmm
          obtain ⟨d, ed, hd⟩ := p'.g c ec
          have := less_le1 (c := 0) ha' ed
          omega
        · obtain ⟨c, ec, hc⟩ := one true hmm
          obtain ⟨d, ed, hd⟩ := q'.g c ec
          have := less_le2 ha' ed
          omega
end
end RS
/-! part RSMath4 -/
namespace RS
/-! ### sizes of fractions -/
def Sz (n : Nat) (q : Rat) : Prop := q.num.natAbs < 2 ^ n ∧ q.den < 2 ^ n
theorem Sz.le {m n : Nat} {q : Rat} (h : Sz m q) (hmn : m ≤ n) : Sz n q := by
  have := Nat.pow_le_pow_right (show 0 < 2 by decide) hmn
  exact ⟨by have := h.1; omega, by have := h.2; omega⟩
theorem sz_mkRat {n : Int} {d k : Nat} (hn : n.natAbs < 2 ^ k) (hd : d < 2 ^ k) (h0 : d ≠ 0) : Sz k (mkRat n d) := by
  have h1 : 0 < 2 ^ k := Nat.pow_pos (by decide)
  refine ⟨?_, ?_⟩
  · rw [Rat.num_mkRat]
    split
    · exact h1
    · exact Nat.lt_of_le_of_lt (Int.natAbs_ediv_le_natAbs _ _) hn
  · rw [Rat.den_mkRat]
    split
    · rename_i hz
      exact absurd hz h0
    · exact Nat.lt_of_le_of_lt (Nat.div_le_self _ _) hd
theorem pow_mul_lt {a b m n : Nat} (ha : a < 2 ^ m) (hb : b < 2 ^ n) : a * b < 2 ^ (m + n) := by
  rw [Nat.pow_add]
  exact Nat.mul_lt_mul'' ha hb
theorem Sz.add {m n : Nat} {x y : Rat} (hx : Sz m x) (hy : Sz n y) : Sz (m + n + 1) (x + y) := by
  rw [Rat.add_def']
  have h1 := pow_mul_lt hx.1 hy.2
  have h2 := pow_mul_lt hy.1 hx.2
  have h3 := pow_mul_lt hx.2 hy.2
  have h4 : 2 ^ (m + n + 1) = 2 * 2 ^ (m + n) := by rw [Nat.pow_succ, Nat.mul_comm]
  rw [Nat.add_comm n m] at h2
  refine sz_mkRat ?_ (by omega) (Nat.mul_ne_zero x.den_nz y.den_nz)
  have a1 : (x.num * (y.den : Int)).natAbs = x.num.natAbs * y.den := by rw [Int.natAbs_mul]; rfl
  have a2 : (y.num * (x.den : Int)).natAbs = y.num.natAbs * x.den := by rw [Int.natAbs_mul]; rfl
  omega
theorem Sz.neg {n : Nat} {x : Rat} (h : Sz n x) : Sz n (-x) := ⟨by rw [Rat.neg_num, Int.natAbs_neg]; exact h.1, h.2⟩
theorem Sz.sub {m n : Nat} {x y : Rat} (hx : Sz m x) (hy : Sz n y) : Sz (m + n + 1) (x - y) := by
  rw [Rat.sub_eq_add_neg]
  exact hx.add hy.neg
theorem Sz.mul {m n : Nat} {x y : Rat} (hx : Sz m x) (hy : Sz n y) : Sz (m + n) (x * y) := by
  rw [Rat.mul_def']
  refine sz_mkRat ?_ (pow_mul_lt hx.2 hy.2) (Nat.mul_ne_zero x.den_nz y.den_nz)
  rw [Int.natAbs_mul]
  exact pow_mul_lt hx.1 hy.1
theorem Sz.inv {n : Nat} {x : Rat} (h : Sz n x) : Sz n x⁻¹ := by
  have h1 := h.1
  have h2 := h.2
  refine ⟨?_, ?_⟩
  · rw [Rat.num_inv, Int.natAbs_mul]
    have : (x.num.sign).natAbs ≤ 1 := by
      rcases Int.lt_trichotomy x.num 0 with h | h | h
      · rw [Int.sign_eq_neg_one_of_neg h]; decide
      · rw [h]; decide
      · rw [Int.sign_eq_one_of_pos h]; decide
    have e : ((x.den : Int)).natAbs = x.den := rfl
    rw [e]
    have := Nat.mul_le_mul_right x.den this
    omega
  · rw [Rat.den_inv]
    split
    · have : 0 < x.den := x.den_pos
      omega
    · exact h1
theorem Sz.div {m n : Nat} {x y : Rat} (hx : Sz m x) (hy : Sz n y) : Sz (m + n) (x / y) := by
  rw [Rat.div_def]
  exact hx.mul hy.inv
theorem Sz.abs {n : Nat} {x : Rat} (h : Sz n x) : Sz n x.abs := by
  rw [abs_eq]
  split
  · exact h
  · exact h.neg
theorem Sz.min {n : Nat} {x y : Rat} (hx : Sz n x) (hy : Sz n y) : Sz n (min x y) := by
  rw [Rat.min_def]
  split
  · exact hx
  · exact hy
theorem Sz.max {n : Nat} {x y : Rat} (hx : Sz n x) (hy : Sz n y) : Sz n (max x y) := by
  rw [Rat.max_def]
  split
  · exact hy
  · exact hx
theorem Sz.int {n : Nat} {i : Int} (h : i.natAbs < 2 ^ n) (h1 : 1 ≤ n) : Sz n (i : Rat) := ⟨h, by
  show 1 < 2 ^ n
  exact Nat.one_lt_two_pow (by omega)⟩
theorem Sz.zero : Sz 1 0 := ⟨by decide, by decide⟩
theorem Sz.lo4 {n : Nat} {a b c d : Rat} (h1 : Sz n a) (h2 : Sz n b) (h3 : Sz n c) (h4 : Sz n d) : Sz n (lo4 a b c d) := ((h1.min h2).min h3).min h4
theorem Sz.hi4 {n : Nat} {a b c d : Rat} (h1 : Sz n a) (h2 : Sz n b) (h3 : Sz n c) (h4 : Sz n d) : Sz n (hi4 a b c d) := ((h1.max h2).max h3).max h4
theorem Sz.great {n : Nat} {a b : Rat} (h1 : Sz n a) (h2 : Sz n b) : Sz n (greatSize a b) := h1.abs.max h2.abs
theorem Sz.small {n : Nat} {a b : Rat} (h1 : Sz n a) (h2 : Sz n b) (hn : 1 ≤ n) : Sz n (smallSize a b) := by
  unfold smallSize
  split
  · exact Sz.zero.le hn
  · exact h1.abs.min h2.abs
/-- the value's size -/
def twp (n : Nat) : Rat := ((2 ^ n : Int) : Rat)
theorem two_pos (n : Nat) : 0 < twp n := Rat.intCast_pos.mpr (Int.pow_pos (by decide))
theorem two_add (m n : Nat) : twp (m + n) = twp m * twp n := by
  unfold twp
  rw [Int.pow_add, Rat.intCast_mul]
theorem two_le {m n : Nat} (h : m ≤ n) : twp m ≤ twp n := by
  obtain ⟨k, rfl⟩ : ∃ k, n = m + k := ⟨n - m, by omega⟩
  rw [two_add]
  have h1 : (1 : Rat) ≤ twp k := by
    have : (1 : Int) ≤ 2 ^ k := by
      have : (0 : Int) < 2 ^ k := Int.pow_pos (by decide)
      omega
    have := Rat.intCast_le_intCast.mpr this
    exact this
  have := Rat.mul_le_mul_of_nonneg_left h1 (Rat.le_of_lt (two_pos m))
  grind
theorem abs_natAbs (i : Int) : (i : Rat).abs = ((i.natAbs : Int) : Rat) := by
  rw [abs_eq]
  by_cases h : 0 ≤ i
  · rw [if_pos (Rat.intCast_nonneg.mpr h)]
    have : (i.natAbs : Int) = i := by omega
    rw [this]
  · rw [if_neg (by rw [Rat.intCast_nonneg]; exact h)]
    have : (i.natAbs : Int) = -i := by omega
    rw [this, Rat.intCast_neg]
theorem num_den (x : Rat) : x * (x.den : Rat) = (x.num : Rat) := by
  have h := Rat.num_divInt_den x
  rw [Rat.divInt_eq_div] at h
  have hd : ((x.den : Int) : Rat) ≠ 0 := by
    have := x.den_pos
    intro z
    have := Rat.intCast_eq_zero_iff.mp z
    omega
  have := Rat.div_mul_cancel (a := (x.num : Rat)) hd
  rw [h] at this
  rw [Rat.intCast_natCast] at this
  exact this
theorem Sz.abs_lt {n : Nat} {x : Rat} (h : Sz n x) : x.abs < twp n := by
  have h1 := num_den x
  have hd : (1 : Rat) ≤ (x.den : Rat) := by
    have := Rat.natCast_le_natCast.mpr (show 1 ≤ x.den from x.den_pos)
    exact this
  have h2 : x.abs * (x.den : Rat) = (x.num : Rat).abs := by
    rw [← h1, abs_mul_pos (by grind)]
  have h3 : x.abs ≤ x.abs * (x.den : Rat) := by
    have := Rat.mul_le_mul_of_nonneg_left hd (Rat.abs_nonneg (x := x))
    grind
  rw [h2, abs_natAbs] at h3
  have h4 : (((x.num.natAbs : Int)) : Rat) < twp n := by
    unfold twp
    refine Rat.intCast_lt_intCast.mpr ?_
    have := h.1
    have e : ((2 ^ n : Nat) : Int) = (2 : Int) ^ n := by simp
    omega
  grind
section
variable {r : Ruler}
/-- a multiple of a power from LOW on, its value bounded -/
theorem sz_mul (h : r.Ok) {y : Rat} {p : Int} {k : Nat} (m : Mul r y p) (hp : r.L ≤ p) (hy : y.abs ≤ twp k) : Sz (k + 18) y := by
  have hl := h.l1
  -- y times 16^4's part is whole
  obtain ⟨n, hn⟩ : ∃ n : Int, y * pw r 4 = (n : Rat) := by
    obtain ⟨m, rfl⟩ := m
    obtain ⟨q, hq, _⟩ := pw_whole h (e := p + 4) (by omega)
    exact ⟨m * q, by rw [Rat.intCast_mul, ← hq, pw_add h]; grind⟩
  obtain ⟨w, hw, w1⟩ := pw_whole h (e := 4) (by omega)
  have hw16 : w ≤ 65536 := by
    have e : pw r 4 = ((r.B ^ 4 : Int) : Rat) := pw_nat 4
    have : w = r.B ^ 4 := Rat.intCast_inj.mp (hw.symm.trans e)
    rw [this]
    have b2 := h.b2
    have b1 := h.b1
    have c2 : r.B * r.B ≤ 16 * 16 := Int.mul_le_mul b2 b2 (by omega) (by omega)
    have c0 : 0 ≤ r.B * r.B := Int.mul_nonneg (by omega) (by omega)
    have c4 : (r.B * r.B) * (r.B * r.B) ≤ 256 * 256 := Int.mul_le_mul (by omega) (by omega) c0 (by omega)
    have e4 : r.B ^ 4 = (r.B * r.B) * (r.B * r.B) := by
      rw [show (4 : Nat) = 2 + 2 from rfl, Int.pow_add, Int.pow_succ, Int.pow_succ, Int.pow_zero, Int.one_mul]
    omega
  have hwpos : (0 : Rat) < (w : Rat) := Rat.intCast_pos.mpr (by omega)
  have ey : y = Rat.divInt n w := by
    rw [Rat.divInt_eq_div, ← hn, hw]
    exact (Rat.mul_div_cancel (by grind)).symm
  have hnb : n.natAbs ≤ 2 ^ k * 65536 := by
    have h1 : (n : Rat).abs = y.abs * (w : Rat) := by rw [← hn, hw, abs_mul_pos hwpos]
    have h2 : y.abs * (w : Rat) ≤ twp k * (65536 : Rat) := by
      have h3 : (w : Rat) ≤ (65536 : Rat) := Rat.intCast_le_intCast.mpr hw16
      exact mul_mono2 Rat.abs_nonneg hy (Rat.le_of_lt hwpos) h3
    rw [← h1, abs_natAbs] at h2
    have e : twp k * (65536 : Rat) = ((2 ^ k * 65536 : Int) : Rat) := by
      unfold twp
      rw [Rat.intCast_mul]
      rfl
    rw [e] at h2
    have h4 := Rat.intCast_le_intCast.mp h2
    have e2 : ((2 ^ k * 65536 : Nat) : Int) = (2 : Int) ^ k * 65536 := by simp
    omega
  have hk : 2 ^ (k + 18) = 2 ^ k * 65536 * 4 := by
    rw [Nat.pow_add]
    omega
  have hk0 : 0 < 2 ^ k := Nat.pow_pos (by decide)
  obtain ⟨wn, rfl⟩ : ∃ wn : Nat, w = wn := ⟨w.toNat, by omega⟩
  rw [ey, Rat.divInt_ofNat]
  exact sz_mkRat (by omega) (by omega) (by omega)
theorem pw_two (h : r.Ok) (n : Nat) : pw r (n : Int) ≤ twp (4 * n) := by
  rw [pw_nat]
  unfold twp
  refine Rat.intCast_le_intCast.mpr ?_
  rw [Int.pow_mul]
  induction n with
  | zero => simp
  | succ n ih =>
    rw [Int.pow_succ, Int.pow_succ]
    have h1 := h.b1
    have h2 := h.b2
    have h3 : 0 < r.B ^ n := Int.pow_pos (by omega)
    have e : (2 : Int) ^ 4 = 16 := by decide
    rw [e] at ih ⊢
    exact Int.mul_le_mul ih h2 (by omega) (by
      have : (0 : Int) < 16 ^ n := Int.pow_pos (by decide)
      omega)
/-- how far the figures of a place reach -/
theorem place_two (h : r.Ok) {x : Rat} {n : Nat} (hx : x.abs < twp n) : pw r (placeOf r x + r.F) ≤ twp (n + 16) := by
  obtain ⟨h1, h2, h3⟩ := placeOf_is h x
  have f1 := h.f1; have f2 := h.f2; have l1 := h.l1; have l2 := h.l2
  rcases h3 with h3 | h3
  · rw [h3]
    have a := pw_mono h (show r.L + r.F ≤ ((4 : Nat) : Int) by omega)
    have b := pw_two h 4
    have c := two_le (show 4 * 4 ≤ n + 16 by omega)
    grind
  · have e : placeOf r x + r.F = (placeOf r x - 1 + r.F) + 1 := by omega
    rw [e, pw_succ h, two_add]
    have hp := pw_pos h (placeOf r x - 1 + r.F)
    have hb : (r.B : Rat) ≤ twp 16 := by
      refine Rat.intCast_le_intCast.mpr ?_
      have := h.b2
      have e : (2 : Int) ^ 16 = 65536 := by decide
      omega
    exact mul_mono2 (Rat.le_of_lt hp) (by grind) (Rat.le_of_lt (base_pos h)) hb
theorem Sz.rnd (h : r.Ok) {x : Rat} {n : Nat} (hx : Sz n x) : Sz (n + 40) (rnd r x) := by
  have a := place_two h hx.abs_lt
  have b := rnd_abs h x
  exact (sz_mul h (rnd_mul x) (placeOf_low h x) (k := n + 16) (by grind)).le (by omega)
theorem Sz.step (h : r.Ok) {x : Rat} {n : Nat} (hx : Sz n x) : Sz (n + 40) (step r x) := by
  have a := place_two h hx.abs_lt
  have f1 := h.f1
  have b := pw_mono h (show placeOf r x ≤ placeOf r x + r.F by omega)
  have c := step_pos h x
  refine (sz_mul h (p := placeOf r x) (mul_pw h (Int.le_refl _)) (placeOf_low h x) (k := n + 16) ?_).le (by omega)
  rw [abs_nn (Rat.le_of_lt (pw_pos h _))]
  grind
theorem placeOf_le (h : r.Ok) {x : Rat} {n : Nat} (hx : x.abs < twp n) : placeOf r x ≤ (n : Int) + 16 := by
  have a := place_two h hx
  have f1 := h.f1
  have c : twp (n + 16) ≤ pw r ((n + 16 : Nat) : Int) := by
    rw [pw_nat]
    unfold twp
    refine Rat.intCast_le_intCast.mpr ?_
    have b1 := h.b1
    generalize n + 16 = k
    induction k with
    | zero => simp
    | succ k ih =>
      rw [Int.pow_succ, Int.pow_succ]
      exact Int.mul_le_mul ih b1 (by decide) (by
        have : (0 : Int) < r.B ^ k := Int.pow_pos (by omega)
        omega)
  by_cases hl : ((n + 16 : Nat) : Int) < placeOf r x
  · have d := pw_mono h (show ((n + 16 : Nat) : Int) + 1 ≤ placeOf r x + r.F by omega)
    have e := pw_double h ((n + 16 : Nat) : Int)
    have f := pw_pos h ((n + 16 : Nat) : Int)
    grind
  · omega
theorem Sz.pw (h : r.Ok) {e : Int} {n : Nat} (he : e.natAbs ≤ n) : Sz (4 * n + 2) (pw r e) := by
  have key : ∀ k : Nat, k ≤ n → (r.B ^ k).natAbs < 2 ^ (4 * n + 2) := by
    intro k hk
    have a := pw_two h k
    rw [pw_nat] at a
    have a2 := Rat.intCast_le_intCast.mp (show ((r.B ^ k : Int) : Rat) ≤ ((2 ^ (4 * k) : Int) : Rat) from a)
    have b1 := h.b1
    have c : 0 < r.B ^ k := Int.pow_pos (by omega)
    have d : 2 ^ (4 * k) ≤ 2 ^ (4 * n) := Nat.pow_le_pow_right (by decide) (by omega)
    have e2 : ((2 ^ (4 * k) : Nat) : Int) = (2 : Int) ^ (4 * k) := by simp
    have e3 : 2 ^ (4 * n + 2) = 2 ^ (4 * n) * 4 := by rw [Nat.pow_add]
    omega
  have one : 1 ≤ 4 * n + 2 := by omega
  by_cases h0 : 0 ≤ e
  · obtain ⟨k, rfl⟩ : ∃ k : Nat, e = k := ⟨e.toNat, by omega⟩
    rw [pw_nat]
    exact Sz.int (key k (by omega)) one
  · obtain ⟨k, rfl⟩ : ∃ k : Nat, e = -(k : Int) := ⟨(-e).toNat, by omega⟩
    unfold RS.pw
    rw [Rat.zpow_neg]
    refine Sz.inv ?_
    have : (r.B : Rat) ^ (k : Int) = RS.pw r (k : Int) := rfl
    rw [this, pw_nat]
    exact Sz.int (key k (by omega)) one
theorem Sz.slack (h : r.Ok) {lo hi : Rat} {n : Nat} {g : Option Int} (h1 : Sz n lo) (h2 : Sz n hi) : Sz (2 * n + 50) (slack r lo hi g) := by
  unfold RS.slack
  split
  · unfold off
    exact ((h1.rnd h).sub h1).abs.le (by omega)
  · split
    · exact Sz.zero.le (by omega)
    · unfold slackStep
      have a := (h1.great h2).step h
      split
      · have b : Sz 2 (1 / 2 : Rat) := ⟨by decide +kernel, by decide +kernel⟩
        exact (b.mul a).le (by omega)
      · exact a.le (by omega)
end
end RS
/-! part RSLay1 -/
namespace RS
open PySem L2
/-! ### data -/
/-- what a Python value of this program is, without the heap: dic: a dict that stands still; stt: the law's own state, its cells; scr: the law's script -/
inductive D where
  | non | bl (b : Bool) | int (i : Int) | str (x : Str) | tup (l : List D) | lst (l : List D) | dic (l : List (Key × D)) | stt (ns : List Int) | scr (ns : List Int)
/-- the law's state as a dict -/
def stD (c : V) (l m n : Int) : HO := .dK [(.inr "cells", c), (.inr "left", .int l), (.inr "mixed", .int m), (.inr "at", .int n)]
mutual
inductive Rp (K : PySem.W.Frag) (H : Hp) : D → V → Prop
  | non : Rp K H .non .non
  | bl (b : Bool) : Rp K H (.bl b) (.bl b)
  | int (i : Int) : Rp K H (.int i) (.int i)
  | str (x : Str) : Rp K H (.str x) (.str x)
  | tup {a : Addr} {xs : List V} {l : List D} : SqT K H a xs → RpL K H l xs → Rp K H (.tup l) (.ref a)
  | lst {a : Addr} {xs : List V} {l : List D} : H a = some (.lst xs) → RpL K H l xs → Rp K H (.lst l) (.ref a)
  | scr {a : Addr} {ns : List Int} : SqL K H a (ns.map V.int) → Rp K H (.scr ns) (.ref a)
  | dic {a : Addr} {kvs : List (Key × V)} {l : List (Key × D)} : H a = some (.dK kvs) → (∀ c x y z, HO.dK kvs ≠ stD c x y z) → RpK K H l kvs → Rp K H (.dic l) (.ref a)
  | stt {a c : Addr} {x y z : Int} {ns : List Int} : H a = some (stD (.ref c) x y z) → SqL K H c (ns.map V.int) → Rp K H (.stt ns) (.ref a)
inductive RpL (K : PySem.W.Frag) (H : Hp) : List D → List V → Prop
  | nil : RpL K H [] []
  | cons {d : D} {v : V} {l : List D} {xs : List V} : Rp K H d v → RpL K H l xs → RpL K H (d :: l) (v :: xs)
inductive RpK (K : PySem.W.Frag) (H : Hp) : List (Key × D) → List (Key × V) → Prop
  | nil : RpK K H [] []
  | cons {k : Key} {d : D} {v : V} {l : List (Key × D)} {kvs : List (Key × V)} : Rp K H d v → RpK K H l kvs → RpK K H ((k, d) :: l) ((k, v) :: kvs)
end
/-- how the heap goes on: all that is tracked stays, but the law's state, which stays one -/
def ExS (H H' : Hp) : Prop := ∀ a o, H a = some o → H' a = some o ∨ ∃ c x y z x' y' z', o = stD c x y z ∧ H' a = some (stD c x' y' z')
theorem ExS.refl (H : Hp) : ExS H H := fun _ _ h => .inl h
theorem ExS.trans {H H1 H2 : Hp} (a : ExS H H1) (b : ExS H1 H2) : ExS H H2 := fun p o h => by
  rcases a p o h with h1 | ⟨c, x, y, z, x', y', z', rfl, h1⟩
  · exact b p o h1
  · rcases b p _ h1 with h2 | ⟨c2, x2, y2, z2, x3, y3, z3, e, h2⟩
    · exact .inr ⟨c, x, y, z, x', y', z', rfl, h2⟩
    · have ec : c = c2 := by
        unfold stD at e
        injection e with e
        injection e with e _
        injection e with _ e
      subst ec
      exact .inr ⟨c, x, y, z, x3, y3, z3, rfl, h2⟩
theorem ExS.new {H : Hp} {p : Addr} {o : HO} (h : H p = none) : ExS H (upd H p o) := fun a u e => .inl (by
  rw [upd_ne (ne_of_none e h)]
  exact e)
theorem ExS.stay {H H' : Hp} {a : Addr} {o : HO} (e : ExS H H') (h : H a = some o) (hn : ∀ c x y z, o ≠ stD c x y z) : H' a = some o := by
  rcases e a o h with h1 | ⟨c, x, y, z, _, _, _, e1, _⟩
  · exact h1
  · exact absurd e1 (hn c x y z)
theorem ExS.free {H H' : Hp} {a : Addr} (e : ExS H H') (h : H' a = none) : H a = none := by
  cases q : H a with
  | none => rfl
  | some o =>
    rcases e a o q with h1 | ⟨_, _, _, _, _, _, _, _, h1⟩ <;> (rw [h] at h1; cases h1)
theorem ExS.seqT {K : PySem.W.Frag} {H H' : Hp} {a : Addr} {xs : List V} (e : ExS H H') (h : SqT K H a xs) : SqT K H' a xs := by
  rcases h with (h | ⟨o, h⟩) | h
  · exact .inl (.inl (e.stay h fun _ _ _ _ z => by cases z))
  · exact .inl (.inr ⟨o, e.stay h fun _ _ _ _ z => by cases z⟩)
  · exact .inr h
theorem ExS.seqL {K : PySem.W.Frag} {H H' : Hp} {a : Addr} {xs : List V} (e : ExS H H') (h : SqL K H a xs) : SqL K H' a xs := by
  rcases h with (h | ⟨o, h⟩) | h
  · exact .inl (.inl (e.stay h fun _ _ _ _ z => by cases z))
  · exact .inl (.inr ⟨o, e.stay h fun _ _ _ _ z => by cases z⟩)
  · exact .inr h
mutual
theorem Rp.mono {K : PySem.W.Frag} {H H' : Hp} (e : ExS H H') : ∀ {d : D} {v : V}, Rp K H d v → Rp K H' d v
  | _, _, .non => .non
  | _, _, .bl b => .bl b
  | _, _, .int i => .int i
  | _, _, .str x => .str x
  | _, _, .tup h r => .tup (e.seqT h) (RpL.mono e r)
  | _, _, .lst h r => .lst (e.stay h fun _ _ _ _ z => by cases z) (RpL.mono e r)
  | _, _, .scr h => .scr (e.seqL h)
  | _, _, .dic h n r => .dic (e.stay h n) n (RpK.mono e r)
  | _, _, .stt h r => by
    rcases e _ _ h with h1 | ⟨c, x, y, z, x', y', z', e1, h1⟩
    · exact .stt h1 (e.seqL r)
    · unfold stD at e1
      injection e1 with e1
      injection e1 with e1 _
      injection e1 with _ e1
      subst e1
      exact .stt h1 (e.seqL r)
theorem RpL.mono {K : PySem.W.Frag} {H H' : Hp} (e : ExS H H') : ∀ {l : List D} {xs : List V}, RpL K H l xs → RpL K H' l xs
  | _, _, .nil => .nil
  | _, _, .cons h r => .cons (Rp.mono e h) (RpL.mono e r)
theorem RpK.mono {K : PySem.W.Frag} {H H' : Hp} (e : ExS H H') : ∀ {l : List (Key × D)} {kvs : List (Key × V)}, RpK K H l kvs → RpK K H' l kvs
  | _, _, .nil => .nil
  | _, _, .cons h r => .cons (Rp.mono e h) (RpK.mono e r)
end
theorem RpL.len {K : PySem.W.Frag} {H : Hp} : ∀ {l : List D} {xs : List V}, RpL K H l xs → xs.length = l.length
  | _, _, .nil => rfl
  | _, _, .cons _ r => by rw [List.length_cons, List.length_cons, r.len]
theorem RpL.get {K : PySem.W.Frag} {H : Hp} : ∀ {l : List D} {xs : List V} {i : Nat} {d : D}, RpL K H l xs → l[i]? = some d → ∃ v, xs[i]? = some v ∧ Rp K H d v
  | _, _, _, _, .nil, h => by simp at h
  | _, _, 0, _, .cons r _, h => by simp at h; subst h; exact ⟨_, rfl, r⟩
  | _, _, i + 1, _, .cons _ r, h => by
    obtain ⟨v, h1, h2⟩ := r.get (i := i) (by simpa using h)
    exact ⟨v, by simpa using h1, h2⟩
theorem RpL.at' {K : PySem.W.Frag} {H : Hp} : ∀ {l : List D} {xs : List V} {i : Nat} {v : V}, RpL K H l xs → xs[i]? = some v → ∃ d, l[i]? = some d ∧ Rp K H d v
  | _, _, _, _, .nil, h => by simp at h
  | _, _, 0, _, .cons r _, h => by simp at h; subst h; exact ⟨_, rfl, r⟩
  | _, _, i + 1, _, .cons _ r, h => by
    obtain ⟨v, h1, h2⟩ := r.at' (i := i) (by simpa using h)
    exact ⟨v, by simpa using h1, h2⟩
theorem RpL.append {K : PySem.W.Frag} {H : Hp} : ∀ {l m : List D} {xs ys : List V}, RpL K H l xs → RpL K H m ys → RpL K H (l ++ m) (xs ++ ys)
  | _, _, _, _, .nil, q => q
  | _, _, _, _, .cons h r, q => .cons h (r.append q)
theorem RpL.take {K : PySem.W.Frag} {H : Hp} : ∀ (n : Nat) {l : List D} {xs : List V}, RpL K H l xs → RpL K H (l.take n) (xs.take n)
  | 0, _, _, _ => .nil
  | _ + 1, _, _, .nil => .nil
  | n + 1, _, _, .cons h r => .cons h (r.take n)
theorem RpL.drop {K : PySem.W.Frag} {H : Hp} : ∀ (n : Nat) {l : List D} {xs : List V}, RpL K H l xs → RpL K H (l.drop n) (xs.drop n)
  | 0, _, _, r => r
  | _ + 1, _, _, .nil => .nil
  | n + 1, _, _, .cons _ r => r.drop n
theorem RpL.ints {K : PySem.W.Frag} {H : Hp} : ∀ {ns : List Int} {xs : List V}, RpL K H (ns.map D.int) xs → xs = ns.map V.int
  | [], _, .nil => rfl
  | n :: ns, _, .cons h r => by
    cases h
    rw [List.map_cons, r.ints]
theorem RpL.of_ints {K : PySem.W.Frag} {H : Hp} : ∀ (ns : List Int), RpL K H (ns.map D.int) (ns.map V.int)
  | [] => .nil
  | n :: ns => .cons (.int n) (RpL.of_ints ns)
def dlook (l : List (Key × D)) (k : Key) : Option D := (l.find? fun p => decide (p.1 = k)).map (·.2)
theorem RpK.get {K : PySem.W.Frag} {H : Hp} {k : Key} : ∀ {l : List (Key × D)} {kvs : List (Key × V)} {d : D}, RpK K H l kvs → dlook l k = some d → ∃ v, valV kvs k = some v ∧ Rp K H d v
  | _, _, _, .nil, h => by cases h
  | _, _, _, .cons (k := k') (d := d') (v := v') (l := l') r rr, h => by
    by_cases e : k' = k
    · have h1 : dlook ((k', d') :: l') k = some d' := by simp [dlook, List.find?_cons, e]
      rw [h1] at h
      cases h
      exact ⟨v', valV_pos e, r⟩
    · have h1 : dlook ((k', d') :: l') k = dlook l' k := by simp [dlook, List.find?_cons, e]
      rw [h1] at h
      obtain ⟨v, h2, h3⟩ := rr.get h
      exact ⟨v, by rw [valV_neg e]; exact h2, h3⟩
/-! ### what stands in the slots, the state's bounds -/
abbrev Env' : Type := List (Option D)
def EnvR (K : PySem.W.Frag) (H : Hp) (σ : L2.St) (ρ : Env') : Prop := ρ.length = σ.length ∧ ∀ (i : Nat) (d : D), ρ[i]? = some (some d) → ∃ v, σ[i]? = some (some v) ∧ Rp K H d v
theorem EnvR.mono {K : PySem.W.Frag} {H H' : Hp} {σ : L2.St} {ρ : Env'} (h : EnvR K H σ ρ) (e : ExS H H') : EnvR K H' σ ρ := ⟨h.1, fun i d q => let ⟨v, a, b⟩ := h.2 i d q; ⟨v, a, b.mono e⟩⟩
theorem EnvR.set {K : PySem.W.Frag} {H : Hp} {σ : L2.St} {ρ : Env'} (h : EnvR K H σ ρ) {d : D} {v : V} (r : Rp K H d v) (i : Nat) : EnvR K H (σ.set i (some v)) (ρ.set i (some d)) := by
  refine ⟨by rw [List.length_set, List.length_set]; exact h.1, fun j e q => ?_⟩
  by_cases hi : i = j
  · subst hi
    have hl : i < ρ.length := by
      have := (List.getElem?_eq_some_iff.mp q).1
      rw [List.length_set] at this
      exact this
    rw [List.getElem?_set_self hl] at q
    cases q
    exact ⟨v, List.getElem?_set_self (by rw [← h.1]; exact hl), r⟩
  · rw [List.getElem?_set_ne hi] at q
    obtain ⟨u, a, b⟩ := h.2 j e q
    exact ⟨u, by rw [List.getElem?_set_ne hi]; exact a, b⟩
theorem envR_start {K : PySem.W.Frag} {H : Hp} {vs : List V} {ds : List D} (N : List Str) (r : RpL K H ds vs) : EnvR K H (L2.start N vs) (ds.map some ++ List.replicate (N.length - ds.length) none) := by
  unfold L2.start
  rw [r.len]
  refine ⟨by simp [r.len], fun i d q => ?_⟩
  by_cases hi : i < ds.length
  · rw [List.getElem?_append_left (by simpa using hi), List.getElem?_map] at q
    cases e : ds[i]? with
    | none => rw [e] at q; cases q
    | some d' =>
      rw [e] at q
      cases q
      obtain ⟨v, hv, rv⟩ := r.get e
      refine ⟨v, ?_, rv⟩
      rw [List.getElem?_append_left (by simpa [r.len] using hi), List.getElem?_map, hv]
      rfl
  · rw [List.getElem?_append_right (by simpa using hi), List.getElem?_replicate] at q
    split at q <;> cases q
/-- the state's numbers: none below nought, at most t draws -/
def HB (H : Hp) (t : Nat) : Prop := ∀ a c x y z, H a = some (stD c x y z) → 0 ≤ x ∧ 0 ≤ z ∧ z ≤ (t : Int)
theorem HB.le {H : Hp} {t t' : Nat} (h : HB H t) (e : t ≤ t') : HB H t' := fun a c x y z q => let ⟨h1, h2, h3⟩ := h a c x y z q; ⟨h1, h2, by omega⟩
theorem HB.new {H : Hp} {t : Nat} {p : Addr} {o : HO} (h : HB H t) (ho : ∀ c x y z, o ≠ stD c x y z) : HB (upd H p o) t := fun a c x y z q => by
  by_cases e : a = p
  · subst e
    rw [upd_same] at q
    exact absurd (Option.some.inj q) (ho c x y z)
  · rw [upd_ne e] at q
    exact h a c x y z q
theorem tup_st {xs : List V} (c : V) (x y z : Int) : HO.tup xs ≠ stD c x y z := fun e => by cases e
theorem lst_st {xs : List V} (c : V) (x y z : Int) : HO.lst xs ≠ stD c x y z := fun e => by cases e
/-! ### the sense of a piece of syntax, as a reading -/
def SemE (X : Cx) (e : Expr) : TE := fun σ H Q => ∀ (pins : List (Addr × Obj)) (s : Shared), Inv X pins σ H s → wpAny (model X.prog X.w) X.A (eval e X.env) (EP X pins σ Q) X.xe s
def SemT (X : Cx) (e : Expr) : TT := fun σ H Q => ∀ (pins : List (Addr × Obj)) (s : Shared), Inv X pins σ H s → wpAny (model X.prog X.w) X.A (isTrue e X.env (eval e X.env)) (TP X pins σ Q) X.xe s
def SemA (X : Cx) (es : List Expr) : TA := fun σ H Q => ∀ (pos : Pos) (pins : List (Addr × Obj)) (s : Shared), Inv X pins σ H s → wpAny (model X.prog X.w) X.A (spliced (backTo pos (starEach es X.env))) (AP X pins σ Q) X.xe s
def SemS (X : Cx) (st : Stmt) : TS := fun D σ H => ∀ (pins : List (Addr × Obj)) (s : Shared), Inv X pins σ H s → wpAny (model X.prog X.w) X.A (exec st X.env) (SP X pins D) X.xe s
def SemB (X : Cx) (st : List Stmt) : TS := fun D σ H => ∀ (pins : List (Addr × Obj)) (s : Shared), Inv X pins σ H s → wpAny (model X.prog X.w) X.A (execs st X.env) (SP X pins D) X.xe s
section
variable {X : Cx} {e : Expr} {es : List Expr} {st : Stmt} {sts : List Stmt} {σ : L2.St} {H : Hp}
theorem semE : PE X e (SemE X e) := ⟨fun pins s _ _ _ I h => h pins s I⟩
theorem semT : PT X e (SemT X e) := ⟨fun pins s _ _ _ I h => h pins s I⟩
theorem semA : PA X es (SemA X es) := ⟨fun pos pins s _ _ _ I h => h pos pins s I⟩
theorem semS : PS X st (SemS X st) := ⟨fun pins s _ _ _ I h => h pins s I⟩
theorem semB : PSs X sts (SemB X sts) := ⟨fun pins s _ _ _ I h => h pins s I⟩
theorem ofE {t : TE} (p : PE X e t) {Q : VK} (q : t σ H Q) : SemE X e σ H Q := fun pins s I => p.run pins s σ H Q I q
theorem ofT {t : TT} (p : PT X e t) {Q : Bool → Hp → Prop} (q : t σ H Q) : SemT X e σ H Q := fun pins s I => p.run pins s σ H Q I q
theorem ofA {t : TA} (p : PA X es t) {Q : List V → Hp → Prop} (q : t σ H Q) : SemA X es σ H Q := fun pos pins s I => p.run pos pins s σ H Q I q
theorem ofS {t : TS} (p : PS X st t) {D : Ends} (q : t D σ H) : SemS X st D σ H := fun pins s I => p.run pins s σ H D I q
theorem ofB {t : TS} (p : PSs X sts t) {D : Ends} (q : t D σ H) : SemB X sts D σ H := fun pins s I => p.run pins s σ H D I q
end
/-! ### the judgements over data: what is wanted behind (Φ: of the datum and the count of draws) -/
structure WE (X : Cx) (e : Expr) (ρ : Env') (t : Nat) (Φ : D → Nat → Prop) : Prop where
  run : ∀ σ H, EnvR X.K H σ ρ → HB H t → ∀ Q : VK, (∀ d v t' H', Φ d t' → ExS H H' → HB H' t' → Rp X.K H' d v → Q v H') → SemE X e σ H Q
instance {X : Cx} {e : Expr} {ρ : Env'} {t : Nat} {Φ : D → Nat → Prop} : CoeFun (WE X e ρ t Φ) (fun _ => ∀ σ H, EnvR X.K H σ ρ → HB H t → ∀ Q : VK, (∀ d v t' H', Φ d t' → ExS H H' → HB H' t' → Rp X.K H' d v → Q v H') → SemE X e σ H Q) := ⟨WE.run⟩
structure WT (X : Cx) (e : Expr) (ρ : Env') (t : Nat) (Φ : Bool → Nat → Prop) : Prop where
  run : ∀ σ H, EnvR X.K H σ ρ → HB H t → ∀ Q : Bool → Hp → Prop, (∀ b t' H', Φ b t' → ExS H H' → HB H' t' → Q b H') → SemT X e σ H Q
instance {X : Cx} {e : Expr} {ρ : Env'} {t : Nat} {Φ : Bool → Nat → Prop} : CoeFun (WT X e ρ t Φ) (fun _ => ∀ σ H, EnvR X.K H σ ρ → HB H t → ∀ Q : Bool → Hp → Prop, (∀ b t' H', Φ b t' → ExS H H' → HB H' t' → Q b H') → SemT X e σ H Q) := ⟨WT.run⟩
structure WA (X : Cx) (es : List Expr) (ρ : Env') (t : Nat) (Φ : List D → Nat → Prop) : Prop where
  run : ∀ σ H, EnvR X.K H σ ρ → HB H t → ∀ Q : List V → Hp → Prop, (∀ ds vs t' H', Φ ds t' → ExS H H' → HB H' t' → RpL X.K H' ds vs → Q vs H') → SemA X es σ H Q
instance {X : Cx} {es : List Expr} {ρ : Env'} {t : Nat} {Φ : List D → Nat → Prop} : CoeFun (WA X es ρ t Φ) (fun _ => ∀ σ H, EnvR X.K H σ ρ → HB H t → ∀ Q : List V → Hp → Prop, (∀ ds vs t' H', Φ ds t' → ExS H H' → HB H' t' → RpL X.K H' ds vs → Q vs H') → SemA X es σ H Q) := ⟨WA.run⟩
/-- what is wanted behind a statement: N goes on, R returns -/
def WEnds (X : Cx) (H : Hp) (N : Env' → Nat → Prop) (R : D → Nat → Prop) (E : Ends) : Prop :=
  (∀ ρ' t' σ' H', N ρ' t' → ExS H H' → HB H' t' → EnvR X.K H' σ' ρ' → E.nx σ' H') ∧ (∀ d v t' H', R d t' → ExS H H' → HB H' t' → Rp X.K H' d v → E.rt v H')
structure WS (X : Cx) (st : Stmt) (ρ : Env') (t : Nat) (N : Env' → Nat → Prop) (R : D → Nat → Prop) : Prop where
  run : ∀ σ H, EnvR X.K H σ ρ → HB H t → ∀ E : Ends, WEnds X H N R E → SemS X st E σ H
instance {X : Cx} {st : Stmt} {ρ : Env'} {t : Nat} {N : Env' → Nat → Prop} {R : D → Nat → Prop} : CoeFun (WS X st ρ t N R) (fun _ => ∀ σ H, EnvR X.K H σ ρ → HB H t → ∀ E : Ends, WEnds X H N R E → SemS X st E σ H) := ⟨WS.run⟩
structure WB (X : Cx) (sts : List Stmt) (ρ : Env') (t : Nat) (N : Env' → Nat → Prop) (R : D → Nat → Prop) : Prop where
  run : ∀ σ H, EnvR X.K H σ ρ → HB H t → ∀ E : Ends, WEnds X H N R E → SemB X sts E σ H
instance {X : Cx} {sts : List Stmt} {ρ : Env'} {t : Nat} {N : Env' → Nat → Prop} {R : D → Nat → Prop} : CoeFun (WB X sts ρ t N R) (fun _ => ∀ σ H, EnvR X.K H σ ρ → HB H t → ∀ E : Ends, WEnds X H N R E → SemB X sts E σ H) := ⟨WB.run⟩
theorem WEnds.mono {X : Cx} {H H' : Hp} {N : Env' → Nat → Prop} {R : D → Nat → Prop} {E : Ends} (h : WEnds X H N R E) (e : ExS H H') : WEnds X H' N R E :=
  ⟨fun ρ' t' σ' H2 n e2 => h.1 ρ' t' σ' H2 n (e.trans e2), fun d v t' H2 r e2 => h.2 d v t' H2 r (e.trans e2)⟩
end RS
/-! part RSLay2 -/
namespace RS
open PySem L2
/-! ### a def's promise over data -/
abbrev Pr : Type := List D → Nat → (D → Nat → Prop) → Prop
def spS (K : PySem.W.Frag) (p : Pr) : Sp := fun vs H Q _ => ∃ ds t Φ, RpL K H ds vs ∧ HB H t ∧ p ds t Φ ∧ ∀ d v t' H', Φ d t' → ExS H H' → HB H' t' → Rp K H' d v → Q v H'
structure Dfn (X : Cx) (name : Str) (k : Nat) (p : Pr) : Prop where
  ex : ∃ f fd ps, X.mg name = some (.ref f) ∧ PySem.W.keepIn X.K (.ref f) = true ∧ Binds X.K fd ps [] ∧ FnOk X.prog X.w X.K X.mg X.base CX0 k f fd ps (spS X.K p)
/-- where a def's body runs: its names by slot, its scope, room for calls -/
structure Bod (X : Cx) (N : List Str) (scp : Scope) (k : Nat) : Prop where
  n : X.N = N
  vis : ∀ x, Vis scp x → Vis X.env.scope x
  gl : ∀ x, scp.names.lookup x = some .globalImplicit → X.env.scope.names.lookup x = some .globalImplicit
  lo : ∀ x, scp.names.lookup x = some .local → X.env.scope.names.lookup x = some .local
  loc : ∀ x, L2.Loc scp x → L2.Loc X.env.scope x
  calm : X.calm = true
  nd : N.Nodup
  room : Room k X.A
  fn : ∀ x, L2.Loc scp x → X.fn x = true ∨ X.env.scope.names.lookup x = some .local
  pass : PassesOwn (model X.prog X.w) X.A X.env X.xe
section
variable {X : Cx} {N : List Str} {sc : Scope} {kk : Nat} {ρ : Env'} {t : Nat} {Φ : D → Nat → Prop} {Ψ : Bool → Nat → Prop} {x : Str} {pos p1 : Pos} {d : D} {a b c e : Expr} {es rest : List Expr}
theorem Bod.hu (B : Bod X N sc kk) : X.A.units + 1 < cLine := hu_of B.room
/-! ### names, constants -/
theorem we_var (B : Bod X N sc kk) (i : Nat) (hN : N[i]? = some x) (hv : Vis sc x) (hρ : ρ[i]? = some (some d)) (h : Φ d t)
    (hd : (x == ("__debug__" : Str)) = false := by decide) (hcd : (x == ("__classdict__" : Str)) = false := by decide) : WE X (.Name x pos) ρ t Φ := .mk fun σ H er hb Q q => by
  obtain ⟨v, e1, r⟩ := er.2 i d hρ
  exact ofE (pe_var (i := i) (by rw [B.n]; exact hN) (B.vis x hv) hd hcd) ⟨v, e1, q d v t H h (ExS.refl H) hb r⟩
theorem we_int {i : Int} {j} (h : Φ (.int i) t) : WE X (.Constant (.int i) j pos) ρ t Φ := .mk fun σ H er hb Q q => ofE pe_int (q _ _ t H h (ExS.refl H) hb (.int i))
theorem we_str {i : Str} {j} (h : Φ (.str i) t) : WE X (.Constant (.str i) j pos) ρ t Φ := .mk fun σ H er hb Q q => ofE pe_str (q _ _ t H h (ExS.refl H) hb (.str i))
theorem we_bl {i : Bool} {j} (h : Φ (.bl i) t) : WE X (.Constant (.bool i) j pos) ρ t Φ := .mk fun σ H er hb Q q => ofE pe_bl (q _ _ t H h (ExS.refl H) hb (.bl i))
theorem we_non {j} (h : Φ .non t) : WE X (.Constant .none j pos) ρ t Φ := .mk fun σ H er hb Q q => ofE pe_non (q _ _ t H h (ExS.refl H) hb .non)
/-- a constant of the module -/
structure Glb (X : Cx) (x : Str) (d : D) : Prop where
  ex : ∃ v u, X.mg x = some u ∧ RelV v u ∧ ∀ H, Rp X.K H d v
theorem we_glob (B : Bod X N sc kk) (hm : Glb X x d) (hg : sc.names.lookup x = some .globalImplicit) (h : Φ d t) (hd : (x == ("__debug__" : Str)) = false := by decide) : WE X (.Name x pos) ρ t Φ := .mk fun σ H er hb Q q => by
  obtain ⟨v, u, h1, h2, h3⟩ := hm.ex
  refine ofE (pe_glob (v := v) (show X.env.kindOf x = some .globalImplicit from ?_) h1 h2 hd) (q d v t H h (ExS.refl H) hb (h3 H))
  exact B.gl x hg
/-! ### operators -/
abbrev DOp : Type := D → D → (D → Prop) → Prop
def ROk (K : PySem.W.Frag) (r : R2) (f : DOp) : Prop := ∀ H x y u v Ψ, Rp K H x u → Rp K H y v → f x y Ψ → ∀ Q : VK, (∀ d w H', Ψ d → ExS H H' → (∀ t, HB H t → HB H' t) → Rp K H' d w → Q w H') → r u v H Q
theorem two {r : R2} {f : DOp} (ha : WE X a ρ t fun x t1 => WE X b ρ t1 fun y t2 => f x y fun d => Φ d t2) (hr : ROk X.K r f) {σ : L2.St} {H : Hp} (er : EnvR X.K H σ ρ) (hb : HB H t) {Q : VK}
    (q : ∀ d v t' H', Φ d t' → ExS H H' → HB H' t' → Rp X.K H' d v → Q v H') : tOp r (SemE X a) (SemE X b) σ H Q := by
  refine ha σ H er hb _ fun x u t1 H1 h1 e1 b1 r1 => ?_
  refine h1 σ H1 (er.mono e1) b1 _ fun y v t2 H2 h2 e2 b2 r2 => ?_
  exact hr H2 x y u v _ (r1.mono e2) r2 h2 Q fun d w H3 h3 e3 b3 r3 => q d w t2 H3 h3 ((e1.trans e2).trans e3) (b3 t2 b2) r3
theorem we_op {op : Operator} {r : R2} {f : DOp} (ho : OpR X (binaryOp op) r) (hr : ROk X.K r f) (h : WE X a ρ t fun x t1 => WE X b ρ t1 fun y t2 => f x y fun d => Φ d t2) : WE X (.BinOp a op b pos) ρ t Φ :=
  .mk fun σ H er hb Q q => ofE (pe_op ho semE semE) (two h hr er hb q)
theorem we_cmp {op : CmpOp} {r : R2} {f : DOp} (ho : OpR X (compareOp op) r) (hr : ROk X.K r f) (hm : behindInMarks op b = false) (h : WE X a ρ t fun x t1 => WE X b ρ t1 fun y t2 => f x y fun d => Φ d t2) : WE X (.Compare a [op] [b] pos) ρ t Φ :=
  .mk fun σ H er hb Q q => ofE (pe_cmpR ho semE semE hm) (two h hr er hb q)
theorem wt_cmp {op : CmpOp} {r : R2} {f : DOp} (ho : OpR X (compareOp op) r) (hr : ROk X.K r f) (hm : behindInMarks op b = false) (h : WE X a ρ t fun x t1 => WE X b ρ t1 fun y t2 => f x y fun d => ∃ k, d = .bl k ∧ Ψ k t2) : WT X (.Compare a [op] [b] pos) ρ t Ψ :=
  .mk fun σ H er hb Q q => ofT (pt_cmpR ho semE semE hm) (show tOp r (SemE X a) (SemE X b) σ H (fun x H' => ∃ k, x = .bl k ∧ Q k H') from
    two (Φ := fun d t2 => ∃ k, d = .bl k ∧ Ψ k t2) h hr er hb fun d v t' H' ⟨k, hk, h1⟩ e1 b1 r1 => by
      subst hk
      cases r1
      exact ⟨k, rfl, q k t' H' h1 e1 b1⟩)
/-- ints -/
def dI (C : Int → Int → Prop) (g : Int → Int → D) : DOp := fun x y Ψ => ∃ i j, x = .int i ∧ y = .int j ∧ C i j ∧ Ψ (g i j)
def dI0 (g : Int → Int → D) : DOp := fun x y Ψ => ∃ i j, x = .int i ∧ y = .int j ∧ Ψ (g i j)
theorem rok_I {K : PySem.W.Frag} {C : Int → Int → Prop} {g : Int → Int → Int} : ROk K (rI C fun i j => .int (g i j)) (dI C fun i j => .int (g i j)) := fun H x y u v Ψ r1 r2 ⟨i, j, e1, e2, hc, h⟩ Q q => by
  subst e1 e2
  cases r1; cases r2
  exact ⟨i, j, rfl, rfl, hc, q _ _ H h (ExS.refl H) (fun _ z => z) (.int _)⟩
theorem rok_I0 {K : PySem.W.Frag} {g : Int → Int → Int} : ROk K (rI0 fun i j => .int (g i j)) (dI0 fun i j => .int (g i j)) := fun H x y u v Ψ r1 r2 ⟨i, j, e1, e2, h⟩ Q q => by
  subst e1 e2
  cases r1; cases r2
  exact ⟨i, j, rfl, rfl, q _ _ H h (ExS.refl H) (fun _ z => z) (.int _)⟩
theorem rok_B0 {K : PySem.W.Frag} {g : Int → Int → Bool} : ROk K (rI0 fun i j => .bl (g i j)) (dI0 fun i j => .bl (g i j)) := fun H x y u v Ψ r1 r2 ⟨i, j, e1, e2, h⟩ Q q => by
  subst e1 e2
  cases r1; cases r2
  exact ⟨i, j, rfl, rfl, q _ _ H h (ExS.refl H) (fun _ z => z) (.bl _)⟩
/-- ints, texts compared by == and != -/
def D.scal : D → D → Option Bool
  | .int i, .int j => some (decide (i = j))
  | .str x, .str y => some (decide (x = y))
  | .bl x, .bl y => some (decide (x = y))
  | _, _ => none
def dEq : DOp := fun x y Ψ => ∃ k, D.scal x y = some k ∧ Ψ (.bl k)
def dNe : DOp := fun x y Ψ => ∃ k, D.scal x y = some k ∧ Ψ (.bl (!k))
theorem scal_rp {K : PySem.W.Frag} {H : Hp} {x y : D} {u v : V} {k : Bool} (r1 : Rp K H x u) (r2 : Rp K H y v) (h : D.scal x y = some k) : L2.scal u v = true ∧ decide (u = v) = k := by
  cases x <;> cases y <;> first | (cases h; done) | (cases r1; cases r2; cases h; refine ⟨rfl, ?_⟩; simp)
theorem rok_eq {K : PySem.W.Frag} : ROk K rEq dEq := fun H x y u v Ψ r1 r2 ⟨k, hk, h⟩ Q q => by
  obtain ⟨h1, h2⟩ := scal_rp r1 r2 hk
  exact ⟨h1, by rw [h2]; exact q _ _ H h (ExS.refl H) (fun _ z => z) (.bl k)⟩
theorem rok_ne {K : PySem.W.Frag} : ROk K rNe dNe := fun H x y u v Ψ r1 r2 ⟨k, hk, h⟩ Q q => by
  obtain ⟨h1, h2⟩ := scal_rp r1 r2 hk
  exact ⟨h1, by rw [h2]; exact q _ _ H h (ExS.refl H) (fun _ z => z) (.bl (!k))⟩
/-- is None -/
def D.isNon : D → Bool
  | .non => true
  | _ => false
theorem isNon_rp {K : PySem.W.Frag} {H : Hp} {x : D} {u : V} (r : Rp K H x u) : decide (u = .non) = x.isNon := by
  cases r <;> first | rfl | simp [D.isNon]
def dIs : DOp := fun x y Ψ => y = .non ∧ Ψ (.bl x.isNon)
def dIsNot : DOp := fun x y Ψ => y = .non ∧ Ψ (.bl (!x.isNon))
theorem rok_is {K : PySem.W.Frag} : ROk K (fun x y H Q => y = .non ∧ Q (.bl (decide (x = .non))) H) dIs := fun H x y u v Ψ r1 r2 ⟨e, h⟩ Q q => by
  subst e
  cases r2
  exact ⟨rfl, by rw [isNon_rp r1]; exact q _ _ H h (ExS.refl H) (fun _ z => z) (.bl _)⟩
theorem rok_isNot {K : PySem.W.Frag} : ROk K (fun x y H Q => y = .non ∧ Q (.bl (!decide (x = .non))) H) dIsNot := fun H x y u v Ψ r1 r2 ⟨e, h⟩ Q q => by
  subst e
  cases r2
  exact ⟨rfl, by rw [isNon_rp r1]; exact q _ _ H h (ExS.refl H) (fun _ z => z) (.bl _)⟩
/-! ### data at any depth, compared, shown -/
mutual
def D.py : D → PyData
  | .non => .none
  | .bl b => .bool b
  | .int i => .int i
  | .str x => .str x
  | .tup l => .tuple (D.pyL l)
  | .lst l => .list (D.pyL l)
  | .dic _ => .none
  | .stt _ => .none
  | .scr ns => .list (ns.map PyData.int)
def D.pyL : List D → List PyData
  | [] => []
  | d :: l => D.py d :: D.pyL l
end
mutual
def D.plain : D → Bool
  | .non => true
  | .bl _ => true
  | .int _ => true
  | .str _ => true
  | .tup l => D.plainL l
  | .lst l => D.plainL l
  | .dic _ => false
  | .stt _ => false
  | .scr _ => true
def D.plainL : List D → Bool
  | [] => true
  | d :: l => D.plain d && D.plainL l
end
theorem dp_ints {K : PySem.W.Frag} {H : Hp} : ∀ ns : List Int, DpAll K H (ns.map V.int) (ns.map PyData.int)
  | [] => .nil
  | n :: ns => .cons (.int n) (dp_ints ns)
mutual
theorem Rp.dp {K : PySem.W.Frag} {H : Hp} : ∀ {d : D} {v : V}, Rp K H d v → d.plain = true → Dp K H v d.py
  | _, _, .non, _ => .non
  | _, _, .bl b, _ => .bl b
  | _, _, .int i, _ => .int i
  | _, _, .str x, _ => .str x
  | _, _, .tup h r, p => .tup h (RpL.dp r p)
  | _, _, .lst h r, p => .lst (.inl (.inl h)) (RpL.dp r p)
  | _, _, .scr h, _ => .lst h (dp_ints _)
  | _, _, .dic _ _ _, p => by cases p
  | _, _, .stt _ _, p => by cases p
theorem RpL.dp {K : PySem.W.Frag} {H : Hp} : ∀ {l : List D} {xs : List V}, RpL K H l xs → D.plainL l = true → DpAll K H xs (D.pyL l)
  | _, _, .nil, _ => .nil
  | _, _, .cons h r, p => .cons (Rp.dp h (Bool.and_eq_true_iff.mp p).1) (RpL.dp r (Bool.and_eq_true_iff.mp p).2)
end
def dEqD : DOp := fun x y Ψ => x.plain = true ∧ y.plain = true ∧ SeqAt.shaped x.py = true ∧ SeqAt.shaped y.py = true ∧ Ψ (.bl (PyData.eqv x.py y.py))
def dNeD : DOp := fun x y Ψ => x.plain = true ∧ y.plain = true ∧ SeqAt.shaped x.py = true ∧ SeqAt.shaped y.py = true ∧ Ψ (.bl (!PyData.eqv x.py y.py))
theorem rok_eqD {K : PySem.W.Frag} : ROk K (rEqD K) dEqD := fun H x y u v Ψ r1 r2 ⟨p1, p2, s1, s2, h⟩ Q q => ⟨_, _, r1.dp p1, r2.dp p2, s1, s2, q _ _ H h (ExS.refl H) (fun _ z => z) (.bl _)⟩
theorem rok_neD {K : PySem.W.Frag} : ROk K (rNeD K) dNeD := fun H x y u v Ψ r1 r2 ⟨p1, p2, s1, s2, h⟩ Q q => ⟨_, _, r1.dp p1, r2.dp p2, s1, s2, q _ _ H h (ExS.refl H) (fun _ z => z) (.bl _)⟩
/-! ### tuples, lists: items, sums -/
def dIxT : DOp := fun x y Ψ => ∃ l i d, x = .tup l ∧ y = .int i ∧ atI l i = some d ∧ Ψ d
def dIxL : DOp := fun x y Ψ => ∃ l i d, x = .lst l ∧ y = .int i ∧ atI l i = some d ∧ Ψ d
theorem at_rp {K : PySem.W.Frag} {H : Hp} {l : List D} {xs : List V} {i : Int} {d : D} (r : RpL K H l xs) (h : atI l i = some d) : ∃ v, atI xs i = some v ∧ Rp K H d v := by
  unfold atI at h ⊢
  rw [r.len]
  cases e : ixN l.length i with
  | none => rw [e] at h; cases h
  | some j =>
    rw [e] at h
    exact r.get h
theorem rok_ixT {K : PySem.W.Frag} : ROk K (rIxT K) dIxT := fun H x y u v Ψ r1 r2 ⟨l, i, d, e1, e2, h1, h⟩ Q q => by
  subst e1 e2
  cases r2
  cases r1 with
  | tup hs rl =>
    obtain ⟨w, hw, rw'⟩ := at_rp rl h1
    exact ⟨_, _, i, w, rfl, rfl, hs, hw, q d w H h (ExS.refl H) (fun _ z => z) rw'⟩
theorem rok_ixL {K : PySem.W.Frag} : ROk K (rIxL K) dIxL := fun H x y u v Ψ r1 r2 ⟨l, i, d, e1, e2, h1, h⟩ Q q => by
  subst e1 e2
  cases r2
  cases r1 with
  | lst hs rl =>
    obtain ⟨w, hw, rw'⟩ := at_rp rl h1
    exact ⟨_, _, i, w, rfl, rfl, SqL.of hs, hw, q d w H h (ExS.refl H) (fun _ z => z) rw'⟩
theorem we_ix {r : R2} {f : DOp} (hi : IxR X r) (hr : ROk X.K r f) (h : WE X a ρ t fun x t1 => WE X b ρ t1 fun y t2 => f x y fun d => Φ d t2) (hs : PlainIx b := by exact fun _ _ => rfl) : WE X (.Subscript a b pos) ρ t Φ :=
  .mk fun σ H er hb Q q => ofE (pe_ix hi semE semE hs) (two h hr er hb q)
theorem sz1000 {n : Nat} (h : n ≤ 1000) : n ≤ sizeLine := Nat.le_trans h (by decide)
def dCatT : DOp := fun x y Ψ => ∃ l m, x = .tup l ∧ y = .tup m ∧ l ≠ [] ∧ m ≠ [] ∧ l.length + m.length ≤ 1000 ∧ Ψ (.tup (l ++ m))
theorem RpL.ne {K : PySem.W.Frag} {H : Hp} {l : List D} {xs : List V} (r : RpL K H l xs) (h : l ≠ []) : xs ≠ [] := by
  cases r with
  | nil => exact absurd rfl h
  | cons _ _ => simp
theorem rok_catT {K : PySem.W.Frag} : ROk K (rCatT K) dCatT := fun H x y u v Ψ r1 r2 ⟨l, m, e1, e2, n1, n2, hz, h⟩ Q q => by
  subst e1 e2
  cases r1 with
  | @tup _ xs _ hs rl =>
    cases r2 with
    | @tup _ ys _ hs' rm =>
      refine ⟨_, _, _, _, rfl, rfl, hs, hs', rl.ne n1, sz1000 (by rw [rl.len, rm.len]; exact hz), fun z => absurd z (rm.ne n2), fun _ p hp => ?_⟩
      have e := ExS.new (o := .tup (xs ++ ys)) hp
      exact q _ _ _ h e (fun t z => z.new tup_st) (.tup (SqT.of upd_same) ((rl.append rm).mono e))
def dCat : DOp := fun x y Ψ => ∃ l m, x = .lst l ∧ y = .lst m ∧ l.length + m.length ≤ 1000 ∧ Ψ (.lst (l ++ m))
theorem rok_cat {K : PySem.W.Frag} : ROk K rCat dCat := fun H x y u v Ψ r1 r2 ⟨l, m, e1, e2, hz, h⟩ Q q => by
  subst e1 e2
  cases r1 with
  | @lst _ xs _ hs rl =>
    cases r2 with
    | @lst _ ys _ hs' rm =>
      refine ⟨_, _, _, _, rfl, rfl, hs, hs', sz1000 (by rw [rl.len, rm.len]; exact hz), fun p hp => ?_⟩
      have e := ExS.new (o := .lst (xs ++ ys)) hp
      exact q _ _ _ h e (fun t z => z.new lst_st) (.lst upd_same ((rl.append rm).mono e))
end
end RS
/-! part RSLay3 -/
namespace RS
open PySem L2
section
variable {X : Cx} {N : List Str} {sc : Scope} {kk : Nat} {ρ : Env'} {t : Nat} {Φ : D → Nat → Prop} {Ψ : Bool → Nat → Prop} {Ω : List D → Nat → Prop} {x : Str} {pos p1 p2 : Pos} {d : D} {a b c e : Expr} {es rest : List Expr}
/-! ### arguments, displays -/
def notStar : Expr → Bool
  | .Starred .. => false
  | _ => true
def noStars : List Expr → Bool
  | [] => true
  | e :: es => notStar e && noStars es
theorem star_ok {e : Expr} {es : List Expr} {env : Env} (h : notStar e = true) : starEach (e :: es) env = (false, eval e env) :: starEach es env := by
  cases e <;> first | rfl | cases h
theorem star_any {pos : Pos} {env : Env} : ∀ {es : List Expr}, noStars es = true → (backTo pos (starEach es env)).any (·.1) = false
  | [], _ => rfl
  | e :: es, h => by
    have h1 := Bool.and_eq_true_iff.mp h
    rw [star_ok h1.1]
    show (false || (backTo pos (starEach es env)).any (·.1)) = false
    rw [star_any h1.2]
    rfl
theorem wa_nil (h : Ω [] t) : WA X [] ρ t Ω := .mk fun σ H er hb Q q => ofA pa_nil (q [] [] t H h (ExS.refl H) hb .nil)
theorem wa_cons (h : WE X e ρ t fun d t1 => WA X es ρ t1 fun ds t2 => Ω (d :: ds) t2) (hs : notStar e = true := by rfl) : WA X (e :: es) ρ t Ω := .mk fun σ H er hb Q q => by
  refine ofA (pa_cons semE semA (star_ok hs)) ?_
  refine h σ H er hb _ fun d v t1 H1 h1 e1 b1 r1 => ?_
  refine h1 σ H1 (er.mono e1) b1 _ fun ds vs t2 H2 h2 e2 b2 r2 => ?_
  exact q _ _ t2 H2 h2 (e1.trans e2) b2 (.cons (r1.mono e2) r2)
theorem we_tup {k : Nat} (h : WA X es ρ t fun ds t1 => ds.length ≤ 1000 ∧ Φ (.tup ds) t1) : WE X (.Tuple es k pos) ρ t Φ := .mk fun σ H er hb Q q => by
  refine ofE (pe_tup semA) ?_
  refine h σ H er hb _ fun ds vs t1 H1 h1 e1 b1 r1 => ⟨sz1000 (by rw [r1.len]; exact h1.1), fun p hp => ?_⟩
  have e2 := ExS.new (o := .tup vs) hp
  exact q _ _ t1 _ h1.2 (e1.trans e2) (b1.new tup_st) (.tup (SqT.of upd_same) (r1.mono e2))
theorem we_lst (h : WA X es ρ t fun ds t1 => ds.length ≤ 1000 ∧ Φ (.lst ds) t1) : WE X (.List es pos) ρ t Φ := .mk fun σ H er hb Q q => by
  refine ofE (pe_lst semA) ?_
  refine h σ H er hb _ fun ds vs t1 H1 h1 e1 b1 r1 => ⟨sz1000 (by rw [r1.len]; exact h1.1), fun p hp => ?_⟩
  have e2 := ExS.new (o := .lst vs) hp
  exact q _ _ t1 _ h1.2 (e1.trans e2) (b1.new lst_st) (.lst upd_same (r1.mono e2))
/-! ### calls -/
theorem gl_of {x : Str} (B : Bod X N sc kk) (hg : sc.names.lookup x = some .globalImplicit) : Gl X x := B.gl x hg
theorem we_call {k : Nat} {p : Pr} (B : Bod X N sc kk) (F : Dfn X x k p) (hg : sc.names.lookup x = some .globalImplicit) (hk : k ≤ kk) (h : WA X (e :: es) ρ t fun ds t1 => p ds t1 Φ) (hdb : (x == ("__debug__" : Str)) = false := by decide)
    (he : notStar e = true := by rfl) (hpl : noStars es = true := by rfl) : WE X (.Call (.Name x p1) (e :: es) [] pos) ρ t Φ := .mk fun σ H er hb Q q => by
  obtain ⟨f, fd, ps, mgf, kp, b, G⟩ := F.ex
  refine ofE (pe_call G (B.room.mono hk) (gl_of B hg) mgf kp b .nil pass0 semA hdb (star_ok he) (star_any hpl)) ?_
  refine h σ H er hb _ fun ds vs t1 H1 h1 e1 b1 r1 => ?_
  rw [List.append_nil]
  exact ⟨ds, t1, Φ, r1, b1, h1, fun d v t2 H2 h2 e2 b2 r2 => q d v t2 H2 h2 (e1.trans e2) b2 r2⟩
def RCk (K : PySem.W.Frag) (r : List V → Hp → VK → Prop) (f : List D → (D → Prop) → Prop) : Prop := ∀ H ds vs Ψ, RpL K H ds vs → f ds Ψ → ∀ Q : VK, (∀ d w H', Ψ d → ExS H H' → (∀ t, HB H t → HB H' t) → Rp K H' d w → Q w H') → r vs H Q
theorem we_callB {r : List V → Hp → VK → Prop} {f : List D → (D → Prop) → Prop} {id : String} (B : Bod X N sc kk) (hc : CallR X (.builtin id) r) (hr : RCk X.K r f) (hm : X.mg x = none) (hv : bootBuiltins x = some (.builtin id)) (hg : sc.names.lookup x = some .globalImplicit)
    (h : WA X (e :: es) ρ t fun ds t1 => f ds fun d => Φ d t1) (hn : x ≠ "__name__" := by decide) (hdb : (x == ("__debug__" : Str)) = false := by decide)
    (he : notStar e = true := by rfl) (hpl : noStars es = true := by rfl) : WE X (.Call (.Name x p1) (e :: es) [] pos) ρ t Φ := .mk fun σ H er hb Q q => by
  refine ofE (pe_callB hc (gl_of B hg) hm hv semA hn hdb (star_ok he) (star_any hpl)) ?_
  refine h σ H er hb _ fun ds vs t1 H1 h1 e1 b1 r1 => ?_
  exact hr H1 ds vs _ r1 h1 Q fun d w H2 h2 e2 b2 r2 => q d w t1 H2 h2 (e1.trans e2) (b2 t1 b1) r2
theorem we_callT {r : List V → Hp → VK → Prop} {f : List D → (D → Prop) → Prop} {id : String} (B : Bod X N sc kk) (hc : CallR X (.type id) r) (hr : RCk X.K r f) (hm : X.mg x = none) (hv : bootBuiltins x = some (.type id)) (hg : sc.names.lookup x = some .globalImplicit)
    (h : WA X (e :: es) ρ t fun ds t1 => f ds fun d => Φ d t1) (hn : x ≠ "__name__" := by decide) (hdb : (x == ("__debug__" : Str)) = false := by decide)
    (he : notStar e = true := by rfl) (hpl : noStars es = true := by rfl) : WE X (.Call (.Name x p1) (e :: es) [] pos) ρ t Φ := .mk fun σ H er hb Q q => by
  refine ofE (pe_callTy hc (gl_of B hg) hm hv semA hn hdb (star_ok he) (star_any hpl)) ?_
  refine h σ H er hb _ fun ds vs t1 H1 h1 e1 b1 r1 => ?_
  exact hr H1 ds vs _ r1 h1 Q fun d w H2 h2 e2 b2 r2 => q d w t1 H2 h2 (e1.trans e2) (b2 t1 b1) r2
/-! the built-ins' rules over data -/
theorem rl1 {K : PySem.W.Frag} {H : Hp} {d : D} {vs : List V} (r : RpL K H [d] vs) : ∃ v, vs = [v] ∧ Rp K H d v := by
  cases r with
  | cons h r => cases r; exact ⟨_, rfl, h⟩
theorem rl2 {K : PySem.W.Frag} {H : Hp} {d d' : D} {vs : List V} (r : RpL K H [d, d'] vs) : ∃ v v', vs = [v, v'] ∧ Rp K H d v ∧ Rp K H d' v' := by
  cases r with
  | cons h r => cases r with
    | cons h' r => cases r; exact ⟨_, _, rfl, h, h'⟩
theorem rck_abs {K : PySem.W.Frag} : RCk K (fun xs H Q => ∃ i, xs = [.int i] ∧ Q (.int (if i < 0 then -i else i)) H) (fun ds Ψ => ∃ i, ds = [.int i] ∧ Ψ (.int (if i < 0 then -i else i))) := fun H ds vs Ψ r ⟨i, e1, h⟩ Q q => by
  subst e1
  obtain ⟨v, rfl, r1⟩ := rl1 r
  cases r1
  exact ⟨i, rfl, q _ _ H h (ExS.refl H) (fun _ z => z) (.int _)⟩
theorem rck_int {K : PySem.W.Frag} : RCk K (fun xs H Q => (∃ i, xs = [.int i] ∧ Q (.int i) H) ∨ ∃ k, xs = [.bl k] ∧ Q (.int (if k then 1 else 0)) H) (fun ds Ψ => ∃ k, ds = [.bl k] ∧ Ψ (.int (if k then 1 else 0))) := fun H ds vs Ψ r ⟨k, e1, h⟩ Q q => by
  subst e1
  obtain ⟨v, rfl, r1⟩ := rl1 r
  cases r1
  exact .inr ⟨k, rfl, q _ _ H h (ExS.refl H) (fun _ z => z) (.int _)⟩
theorem rck_2 {K : PySem.W.Frag} {g : Int → Int → Int} : RCk K (fun xs H Q => ∃ i j, xs = [.int i, .int j] ∧ Q (.int (g i j)) H) (fun ds Ψ => ∃ i j, ds = [.int i, .int j] ∧ Ψ (.int (g i j))) := fun H ds vs Ψ r ⟨i, j, e1, h⟩ Q q => by
  subst e1
  obtain ⟨v, v', rfl, r1, r2⟩ := rl2 r
  cases r1; cases r2
  exact ⟨i, j, rfl, q _ _ H h (ExS.refl H) (fun _ z => z) (.int _)⟩
def dMin : List D → (D → Prop) → Prop := fun ds Ψ => ∃ ns : List Int, ds = [.lst (ns.map D.int)] ∧ 0 < ns.length ∧ ∀ m, m ∈ ns → (∀ y, y ∈ ns → m ≤ y) → Ψ (.int m)
theorem rck_min {K : PySem.W.Frag} : RCk K (rMin K) dMin := fun H ds vs Ψ r ⟨ns, e1, hl, h⟩ Q q => by
  subst e1
  obtain ⟨v, rfl, r1⟩ := rl1 r
  cases r1 with
  | lst hs rl =>
    have e := rl.ints
    subst e
    exact ⟨_, ns, rfl, SqL.of hs, hl, fun m h1 h2 => q _ _ H (h m h1 h2) (ExS.refl H) (fun _ z => z) (.int _)⟩
/-- list(t), tuple(xs), len -/
theorem rck_list {K : PySem.W.Frag} : RCk K (fun xs H Q => ∃ p ys, xs = [.ref p] ∧ (SqL K H p ys ∨ SqT K H p ys) ∧ ∀ l, H l = none → Q (.ref l) (upd H l (.lst ys))) (fun ds Ψ => ∃ l, ds = [.tup l] ∧ Ψ (.lst l)) := fun H ds vs Ψ r ⟨l, e1, h⟩ Q q => by
  subst e1
  obtain ⟨v, rfl, r1⟩ := rl1 r
  cases r1 with
  | @tup _ ys _ hs rl =>
    refine ⟨_, _, rfl, .inr hs, fun p hp => ?_⟩
    have e2 := ExS.new (o := .lst ys) hp
    exact q _ _ _ h e2 (fun t z => z.new lst_st) (.lst upd_same (rl.mono e2))
theorem rck_tuple {K : PySem.W.Frag} : RCk K (fun xs H Q => ∃ p ys, xs = [.ref p] ∧ ((SqL K H p ys ∧ ∀ l, H l = none → Q (.ref l) (upd H l (.tup ys))) ∨ (SqT K H p ys ∧ Q (.ref p) H))) (fun ds Ψ => ∃ l, ds = [.lst l] ∧ Ψ (.tup l)) := fun H ds vs Ψ r ⟨l, e1, h⟩ Q q => by
  subst e1
  obtain ⟨v, rfl, r1⟩ := rl1 r
  cases r1 with
  | @lst _ ys _ hs rl =>
    refine ⟨_, _, rfl, .inl ⟨SqL.of hs, fun p hp => ?_⟩⟩
    have e2 := ExS.new (o := .tup ys) hp
    exact q _ _ _ h e2 (fun t z => z.new tup_st) (.tup (SqT.of upd_same) (rl.mono e2))
theorem rck_lenScr {K : PySem.W.Frag} : RCk K (fun xs H Q => ∃ p ys, xs = [.ref p] ∧ (SqL K H p ys ∨ SqT K H p ys) ∧ Q (.int ys.length) H) (fun ds Ψ => ∃ ns, ds = [.scr ns] ∧ Ψ (.int (ns.length : Int))) := fun H ds vs Ψ r ⟨ns, e1, h⟩ Q q => by
  subst e1
  obtain ⟨v, rfl, r1⟩ := rl1 r
  cases r1 with
  | scr hs => exact ⟨_, _, rfl, .inl hs, by rw [List.length_map]; exact q _ _ H h (ExS.refl H) (fun _ z => z) (.int _)⟩
/-! ### tests, choices -/
theorem wt_val (h : WE X e ρ t fun d t1 => ∃ k, d = .bl k ∧ Ψ k t1) (he : ∀ whole, isTrue e X.env whole = (do let v ← whole; standAt e.pos; holding [v] (truthy v)) := by intro _; rfl) : WT X e ρ t Ψ := .mk fun σ H er hb Q q => by
  refine ofT (pt_val semE he) ?_
  refine h σ H er hb _ fun d v t1 H1 ⟨k, hk, h1⟩ e1 b1 r1 => ?_
  subst hk
  cases r1
  exact ⟨k, rfl, q k t1 H1 h1 e1 b1⟩
theorem wt_not (h : WT X e ρ t fun k t1 => Ψ (!k) t1) : WT X (.UnaryOp .Not e pos) ρ t Ψ := .mk fun σ H er hb Q q => by
  refine ofT (pt_not semT) ?_
  exact h σ H er hb _ fun k t1 H1 h1 e1 b1 => q _ t1 H1 h1 e1 b1
/-- and, or as tests -/
structure WW (X : Cx) (e : Expr) (ρ : Env') (t : Nat) (Ψ : Bool → Nat → Prop) : Prop where
  run : ∀ σ H, EnvR X.K H σ ρ → HB H t → ∀ Q : Bool → Hp → Prop, (∀ b t' H', Ψ b t' → ExS H H' → HB H' t' → Q b H') → ∀ (wh : Sem Value) (pins : List (Addr × Obj)) (s : Shared), Inv X pins σ H s → wpAny (model X.prog X.w) X.A (isTrue e X.env wh) (TP X pins σ Q) X.xe s
instance {X : Cx} {e : Expr} {ρ : Env'} {t : Nat} {Ψ : Bool → Nat → Prop} : CoeFun (WW X e ρ t Ψ) (fun _ => ∀ σ H, EnvR X.K H σ ρ → HB H t → ∀ Q : Bool → Hp → Prop, (∀ b t' H', Ψ b t' → ExS H H' → HB H' t' → Q b H') → ∀ (wh : Sem Value) (pins : List (Addr × Obj)) (s : Shared), Inv X pins σ H s → wpAny (model X.prog X.w) X.A (isTrue e X.env wh) (TP X pins σ Q) X.xe s) := ⟨WW.run⟩
theorem wt_ww (h : WW X e ρ t Ψ) : WT X e ρ t Ψ := .mk fun σ H er hb Q q pins s I => h σ H er hb Q q _ pins s I
def SemW (X : Cx) (e : Expr) : TT := fun σ H Q => ∀ (wh : Sem Value) (pins : List (Addr × Obj)) (s : Shared), Inv X pins σ H s → wpAny (model X.prog X.w) X.A (isTrue e X.env wh) (TP X pins σ Q) X.xe s
theorem semW : PW X e (SemW X e) := ⟨fun wh pins s _ _ _ I h => h wh pins s I⟩
theorem ww_and1 (h : WT X a ρ t Ψ) : WW X (.BoolOp .And [a] pos) ρ t Ψ := .mk fun σ H er hb Q q wh pins s I => (pw_and1 semT).run wh pins s σ H Q I (h σ H er hb Q q)
theorem ww_or1 (h : WT X a ρ t Ψ) : WW X (.BoolOp .Or [a] pos) ρ t Ψ := .mk fun σ H er hb Q q wh pins s I => (pw_or1 semT).run wh pins s σ H Q I (h σ H er hb Q q)
theorem ww_and (h : WT X a ρ t fun k t1 => (k = true → WW X (.BoolOp .And (b :: rest) pos) ρ t1 Ψ) ∧ (k = false → Ψ false t1)) : WW X (.BoolOp .And (a :: b :: rest) pos) ρ t Ψ := .mk fun σ H er hb Q q wh pins s I => by
  refine (pw_and semT semW).run wh pins s σ H Q I ?_
  refine h σ H er hb _ fun k t1 H1 h1 e1 b1 => ?_
  cases k with
  | true => exact fun wh pins s I => h1.1 rfl σ H1 (er.mono e1) b1 Q (fun k2 t2 H2 h2 e2 b2 => q k2 t2 H2 h2 (e1.trans e2) b2) wh pins s I
  | false => exact q false t1 H1 (h1.2 rfl) e1 b1
theorem ww_or (h : WT X a ρ t fun k t1 => (k = true → Ψ true t1) ∧ (k = false → WW X (.BoolOp .Or (b :: rest) pos) ρ t1 Ψ)) : WW X (.BoolOp .Or (a :: b :: rest) pos) ρ t Ψ := .mk fun σ H er hb Q q wh pins s I => by
  refine (pw_or semT semW).run wh pins s σ H Q I ?_
  refine h σ H er hb _ fun k t1 H1 h1 e1 b1 => ?_
  cases k with
  | true => exact q true t1 H1 (h1.1 rfl) e1 b1
  | false => exact fun wh pins s I => h1.2 rfl σ H1 (er.mono e1) b1 Q (fun k2 t2 H2 h2 e2 b2 => q k2 t2 H2 h2 (e1.trans e2) b2) wh pins s I
/-- as values -/
theorem we_one {op : BoolOp} (h : WE X a ρ t Φ) : WE X (.BoolOp op [a] pos) ρ t Φ := .mk fun σ H er hb Q q => ofE (pe_one semE) (h σ H er hb Q q)
theorem we_and (h : WE X a ρ t fun d t1 => ∃ k, d = .bl k ∧ (k = true → WE X (.BoolOp .And (b :: rest) pos) ρ t1 Φ) ∧ (k = false → Φ (.bl false) t1)) : WE X (.BoolOp .And (a :: b :: rest) pos) ρ t Φ := .mk fun σ H er hb Q q => by
  refine ofE (pe_and semE semE) ?_
  refine h σ H er hb _ fun d v t1 H1 ⟨k, hk, h1, h2⟩ e1 b1 r1 => ?_
  subst hk
  cases r1
  refine ⟨k, rfl, ?_⟩
  cases k with
  | true => exact h1 rfl σ H1 (er.mono e1) b1 Q fun d2 v2 t2 H2 h2 e2 => q d2 v2 t2 H2 h2 (e1.trans e2)
  | false => exact q _ _ t1 H1 (h2 rfl) e1 b1 (.bl false)
theorem we_or (h : WE X a ρ t fun d t1 => ∃ k, d = .bl k ∧ (k = true → Φ (.bl true) t1) ∧ (k = false → WE X (.BoolOp .Or (b :: rest) pos) ρ t1 Φ)) : WE X (.BoolOp .Or (a :: b :: rest) pos) ρ t Φ := .mk fun σ H er hb Q q => by
  refine ofE (pe_or semE semE) ?_
  refine h σ H er hb _ fun d v t1 H1 ⟨k, hk, h1, h2⟩ e1 b1 r1 => ?_
  subst hk
  cases r1
  refine ⟨k, rfl, ?_⟩
  cases k with
  | true => exact q _ _ t1 H1 (h1 rfl) e1 b1 (.bl true)
  | false => exact h2 rfl σ H1 (er.mono e1) b1 Q fun d2 v2 t2 H2 h2 e2 => q d2 v2 t2 H2 h2 (e1.trans e2)
theorem we_not (h : WE X a ρ t fun d t1 => ∃ k, d = .bl k ∧ Φ (.bl (!k)) t1) : WE X (.UnaryOp .Not a pos) ρ t Φ := .mk fun σ H er hb Q q => by
  refine ofE (pe_not semE) ?_
  refine h σ H er hb _ fun d v t1 H1 ⟨k, hk, h1⟩ e1 b1 r1 => ?_
  subst hk
  cases r1
  exact ⟨k, rfl, q _ _ t1 H1 h1 e1 b1 (.bl _)⟩
theorem we_neg (h : WE X a ρ t fun d t1 => ∃ i, d = .int i ∧ Φ (.int (-i)) t1) : WE X (.UnaryOp .USub a pos) ρ t Φ := .mk fun σ H er hb Q q => by
  refine ofE (pe_un un_neg semE) ?_
  refine h σ H er hb _ fun d v t1 H1 ⟨i, hi, h1⟩ e1 b1 r1 => ?_
  subst hi
  cases r1
  exact ⟨i, rfl, q _ _ t1 H1 h1 e1 b1 (.int _)⟩
theorem we_if (h : WT X c ρ t fun k t1 => (k = true → WE X a ρ t1 Φ) ∧ (k = false → WE X b ρ t1 Φ)) : WE X (.IfExp c a b pos) ρ t Φ := .mk fun σ H er hb Q q => by
  refine ofE (pe_ifExp semT semE semE) ?_
  refine h σ H er hb _ fun k t1 H1 h1 e1 b1 => ?_
  cases k with
  | true => exact h1.1 rfl σ H1 (er.mono e1) b1 Q fun d2 v2 t2 H2 h2 e2 => q d2 v2 t2 H2 h2 (e1.trans e2)
  | false => exact h1.2 rfl σ H1 (er.mono e1) b1 Q fun d2 v2 t2 H2 h2 e2 => q d2 v2 t2 H2 h2 (e1.trans e2)
/-- a op b op' c -/
theorem wt_chain {op op' : CmpOp} {r r' : R2} {f f' : DOp} (ho : OpR X (compareOp op) r) (ho' : OpR X (compareOp op') r') (hr : ROk X.K r f) (hr' : ROk X.K r' f')
    (h : WE X a ρ t fun x t1 => WE X b ρ t1 fun y t2 => f x y fun d => ∃ k, d = .bl k ∧ (k = true → WE X c ρ t2 fun z t3 => f' y z fun d => ∃ k, d = .bl k ∧ Ψ k t3) ∧ (k = false → Ψ false t2))
    (hm : lastMarks [op, op'] [b, c] = false := by with_unfolding_all rfl) : WT X (.Compare a [op, op'] [b, c] pos) ρ t Ψ := .mk fun σ H er hb Q q => by
  refine ofT (pt_chain ho ho' semE semE semE hm) ?_
  refine h σ H er hb _ fun x u t1 H1 h1 e1 b1 r1 => ?_
  refine h1 σ H1 (er.mono e1) b1 _ fun y v t2 H2 h2 e2 b2 r2 => ?_
  refine hr H2 x y u v _ (r1.mono e2) r2 h2 _ fun d w H3 ⟨k, hk, h3, h4⟩ e3 b3 r3 => ?_
  subst hk
  cases r3
  refine ⟨k, rfl, ?_⟩
  cases k with
  | true =>
    refine h3 rfl σ H3 (er.mono ((e1.trans e2).trans e3)) (b3 t2 b2) _ fun z w2 t3 H4 h5 e4 b4 r4 => ?_
    refine hr' H4 y z v w2 _ (r2.mono (e3.trans e4)) r4 h5 _ fun d w' H5 ⟨k2, hk2, h6⟩ e5 b5 r5 => ?_
    subst hk2
    cases r5
    exact ⟨k2, rfl, q k2 t3 H5 h6 ((((e1.trans e2).trans e3).trans e4).trans e5) (b5 t3 b4)⟩
  | false => exact ⟨false, rfl, q false t2 H3 (h4 rfl) ((e1.trans e2).trans e3) (b3 t2 b2)⟩
/-! ### slices, a dict's item -/
/-- a written bound -/
def tConst (o : Option Int) : TO := fun _ H Q => Q o H
theorem po_c {i : Int} {j} {p : Pos} : PO X (some (.Constant (.int i) j p)) (tConst (some i)) := ⟨fun pins s σ H Q I h => (po_some (X := X) pe_int).run pins s σ H Q I ⟨i, rfl, h⟩⟩
theorem po_n : PO X none (tConst none) := ⟨fun pins s σ H Q I h => (po_none (X := X)).run pins s σ H Q I h⟩
def cutD (l : List D) (lo hi : Option Int) : List D := (l.drop (HT.sIx l.length 0 lo)).take (HT.sIx l.length l.length hi - HT.sIx l.length 0 lo)
theorem RpL.cut {K : PySem.W.Frag} {H : Hp} {l : List D} {xs : List V} (r : RpL K H l xs) (lo hi : Option Int) : RpL K H (cutD l lo hi) (cutV xs lo hi) := by
  unfold cutD cutV
  rw [r.len]
  exact (r.drop _).take _
theorem we_sliceT {lo hi : Option Expr} {o1 o2 : Option Int} (h1 : PO X lo (tConst o1)) (h2 : PO X hi (tConst o2))
    (h : WE X a ρ t fun d t1 => ∃ l, d = .tup l ∧ ¬ (HT.sIx l.length 0 o1 = 0 ∧ HT.sIx l.length l.length o2 = l.length) ∧ Φ (.tup (cutD l o1 o2)) t1) : WE X (.Subscript a (.Slice lo hi none p2) pos) ρ t Φ := .mk fun σ H er hb Q q => by
  refine ofE (pe_slice sl_tup semE h1 h2) ?_
  refine h σ H er hb _ fun d v t1 H1 ⟨l, hl, hn, h3⟩ e1 b1 r1 => ?_
  subst hl
  cases r1 with
  | @tup _ xs _ hs rl =>
    refine ⟨_, _, rfl, hs, by rw [rl.len]; exact hn, fun p hp => ?_⟩
    have e2 := ExS.new (o := .tup (cutV xs o1 o2)) hp
    exact q _ _ t1 _ h3 (e1.trans e2) (b1.new tup_st) (.tup (SqT.of upd_same) ((rl.cut o1 o2).mono e2))
theorem we_sliceL {lo hi : Option Expr} {o1 o2 : Option Int} (h1 : PO X lo (tConst o1)) (h2 : PO X hi (tConst o2))
    (h : WE X a ρ t fun d t1 => ∃ l, d = .lst l ∧ Φ (.lst (cutD l o1 o2)) t1) : WE X (.Subscript a (.Slice lo hi none p2) pos) ρ t Φ := .mk fun σ H er hb Q q => by
  refine ofE (pe_slice sl_list semE h1 h2) ?_
  refine h σ H er hb _ fun d v t1 H1 ⟨l, hl, h3⟩ e1 b1 r1 => ?_
  subst hl
  cases r1 with
  | @lst _ xs _ hs rl =>
    refine ⟨_, _, rfl, SqL.of hs, fun p hp => ?_⟩
    have e2 := ExS.new (o := .lst (cutV xs o1 o2)) hp
    exact q _ _ t1 _ h3 (e1.trans e2) (b1.new lst_st) (.lst upd_same ((rl.cut o1 o2).mono e2))
theorem we_dget (B : Bod X N sc kk) (hs : NoSl b := by exact fun _ _ => rfl) (h : WE X a ρ t fun x t1 => WE X b ρ t1 fun y t2 => ∃ l k d, x = .dic l ∧ y = .str k ∧ dlook l (.inr k) = some d ∧ Φ d t2) : WE X (.Subscript a b pos) ρ t Φ := .mk fun σ H er hb Q q => by
  refine ofE (pe_dget B.hu semE semE hs) ?_
  refine h σ H er hb _ fun x u t1 H1 h1 e1 b1 r1 => ?_
  refine h1 σ H1 (er.mono e1) b1 _ fun y v t2 H2 ⟨l, k, d, ex, ey, hl, h2⟩ e2 b2 r2 => ?_
  subst ex ey
  cases r2
  cases r1.mono e2 with
  | dic hd hn rk =>
    obtain ⟨w, hw, rw'⟩ := rk.get hl
    exact ⟨_, w, rfl, by rw [← hw]; exact DGet.k (k := Sum.inr k) hd, q d w t2 H2 h2 (e1.trans e2) b2 rw'⟩
end
end RS
/-! part RSLay4 -/
namespace RS
open PySem L2 PySem.Spec PyProof.Rows
section
variable {X : Cx} {N : List Str} {sc : Scope} {kk : Nat} {ρ : Env'} {t : Nat} {Φ : D → Nat → Prop} {Ψ : Bool → Nat → Prop} {Nx : Env' → Nat → Prop} {R : D → Nat → Prop} {x y : Str} {pos p1 p2 : Pos} {d : D} {a b c e : Expr} {es : List Expr} {st : Stmt} {sts rest body : List Stmt}
/-! ### blocks, small statements -/
theorem wb_nil (h : Nx ρ t) : WB X [] ρ t Nx R := .mk fun σ H er hb E q => ofB pss_nil (q.1 ρ t σ H h (ExS.refl H) hb er)
theorem wb_cons (h : WS X st ρ t (fun ρ1 t1 => WB X rest ρ1 t1 Nx R) R) : WB X (st :: rest) ρ t Nx R := .mk fun σ H er hb E q => by
  refine ofB (pss_cons semS semB) ?_
  refine h σ H er hb { E with nx := SemB X rest E } ⟨fun ρ1 t1 σ1 H1 h1 e1 b1 er1 => ?_, fun d v t1 H1 h1 e1 b1 r1 => q.2 d v t1 H1 h1 e1 b1 r1⟩
  exact h1 σ1 H1 er1 b1 E (q.mono e1)
theorem wb_one (h : WS X st ρ t Nx R) : WB X [st] ρ t Nx R := .mk fun σ H er hb E q => ofB (pss_one semS) (h σ H er hb E q)
theorem loc_of (B : Bod X N sc kk) (h : L2.Loc sc x) : L2.Loc X.env.scope x := B.loc x h
theorem ws_set (B : Bod X N sc kk) (i : Nat) (hN : N[i]? = some x) (hl : L2.Loc sc x) (h : WE X e ρ t fun d t1 => Nx (ρ.set i (some d)) t1) (hs : swapsWith e (some (.Name x p1)) pos.line X.env = pure false := by rfl) : WS X (.Assign [.Name x p1] e pos) ρ t Nx R := .mk fun σ H er hb E q => by
  refine ofS (ps_set (i := i) (by rw [B.n]; exact B.nd) (by rw [B.n]; exact hN) (loc_of B hl) semE hs (B.fn x hl)) ?_
  refine h σ H er hb _ fun d v t1 H1 h1 e1 b1 r1 => ?_
  exact q.1 _ t1 _ H1 h1 e1 b1 ((er.mono e1).set r1 i)
theorem ws_ret (h : WE X e ρ t R) : WS X (.Return (some e) pos) ρ t Nx R := .mk fun σ H er hb E q => by
  refine ofS (ps_ret semE) ?_
  exact h σ H er hb _ fun d v t1 H1 h1 e1 b1 r1 => q.2 d v t1 H1 h1 e1 b1 r1
theorem ws_if {sa sb : List Stmt} (h : WT X c ρ t fun k t1 => (k = true → WB X sa ρ t1 Nx R) ∧ (k = false → WB X sb ρ t1 Nx R)) : WS X (.If c sa sb pos) ρ t Nx R := .mk fun σ H er hb E q => by
  refine ofS (ps_if semT semB semB) ?_
  refine h σ H er hb _ fun k t1 H1 h1 e1 b1 => ?_
  cases k with
  | true => exact h1.1 rfl σ H1 (er.mono e1) b1 E (q.mono e1)
  | false => exact h1.2 rfl σ H1 (er.mono e1) b1 E (q.mono e1)
theorem ws_expr (h : WE X e ρ t fun _ t1 => Nx ρ t1) (hs : swapsWith e none pos.line X.env = pure false := by rfl) : WS X (.Expr e pos) ρ t Nx R := .mk fun σ H er hb E q => by
  refine ofS (ps_expr semE hs) ?_
  refine h σ H er hb _ fun d v t1 H1 h1 e1 b1 r1 => ?_
  exact q.1 _ t1 _ H1 h1 e1 b1 (er.mono e1)
/-- code that isn't come to -/
theorem wb_never (h : False) : WB X sts ρ t Nx R := h.elim
theorem ws_aug (B : Bod X N sc kk) (i : Nat) (hN : N[i]? = some x) (hl : L2.Loc sc x) {m : Int} (hρ : ρ[i]? = some (some (.int m))) (h : WE X e ρ t fun d t1 => ∃ n, d = .int n ∧ Nx (ρ.set i (some (.int (m + n)))) t1) : WS X (.AugAssign (.Name x p1) .Add e pos) ρ t Nx R := .mk fun σ H er hb E q => by
  obtain ⟨v, e1, r⟩ := er.2 i _ hρ
  cases r
  refine ofS (ps_aug (i := i) (by rw [B.n]; exact B.nd) (by rw [B.n]; exact hN) (loc_of B hl) semE ip_add (B.fn x hl)) ⟨_, e1, ?_⟩
  refine h σ H er hb _ fun d v t1 H1 ⟨n, hn, h1⟩ e1 b1 r1 => ?_
  subst hn
  cases r1
  exact ⟨m, n, rfl, rfl, q.1 _ t1 _ H1 h1 e1 b1 ((er.mono e1).set (.int _) i)⟩
/-! ### targets of several names -/
def tgs : List Nat → TGs
  | [] => gNil
  | i :: is => gCons (gName i) (tgs is)
def setAll : Env' → List Nat → List D → Env'
  | ρ, i :: is, d :: ds => setAll (ρ.set i (some d)) is ds
  | ρ, _, _ => ρ
/-- names in their slots -/
inductive Slots (N : List Str) (sc : Scope) : List Expr → List Nat → Prop
  | nil : Slots N sc [] []
  | cons {x : Str} {p : Pos} {i : Nat} {es : List Expr} {is : List Nat} : N[i]? = some x → L2.Loc sc x → Slots N sc es is → Slots N sc (.Name x p :: es) (i :: is)
theorem pgs_slots (B : Bod X N sc kk) : ∀ {es : List Expr} {is : List Nat}, Slots N sc es is → PGs X es (tgs is)
  | _, _, .nil => pgs_nil
  | _, _, .cons hN hl r => pgs_cons (pg_name (by rw [B.n]; exact B.nd) (by rw [B.n]; exact hN) (loc_of B hl) (B.fn _ hl)) (pgs_slots B r)
theorem slots_len : ∀ {es : List Expr} {is : List Nat}, Slots N sc es is → es.length = is.length
  | _, _, .nil => rfl
  | _, _, .cons _ _ r => by rw [List.length_cons, List.length_cons, slots_len r]
theorem tgs_run {K : PySem.W.Frag} {H : Hp} : ∀ {is : List Nat} {l : List D} {xs : List V} {ρ : Env'} {σ : L2.St} {Q : L2.St → Hp → Prop}, l.length = is.length → RpL K H l xs → EnvR K H σ ρ → (∀ σ', EnvR K H σ' (setAll ρ is l) → Q σ' H) → tgs is xs σ H Q
  | [], [], _, ρ, σ, Q, _, .nil, er, q => ⟨rfl, q σ er⟩
  | i :: is, d :: l, _, ρ, σ, Q, hl, .cons h r, er, q => ⟨_, _, rfl, tgs_run (is := is) (by simpa using hl) r (er.set h i) q⟩
  | [], _ :: _, _, _, _, _, hl, _, _, _ => by simp at hl
  | _ :: _, [], _, _, _, _, hl, _, _, _ => by simp at hl
/-! what swappedStores looks at -/
def env0 (sc : Scope) : Env := envOfC "f" sc 0 0 .none
theorem swapped_env {ts : List Expr} {v : Expr} {env env' : Env} (h : env.scope = env'.scope) : swappedStores ts v env = swappedStores ts v env' := by
  have h1 : env.blockKind = env'.blockKind := by
    unfold Env.blockKind
    rw [h]
  have h2 : env.kindOf = env'.kindOf := by
    funext x
    unfold Env.kindOf
    rw [h]
  unfold swappedStores
  rw [h1, h2]
/-- a, b, .. = a tuple -/
theorem ws_tup (B : Bod X N sc kk) {is : List Nat} {k : Nat} (hs : Slots N sc es is) (hsc : X.env.scope = sc) (hw : swappedStores [.Tuple es k p1] e (env0 sc) = pure none)
    (h : WE X e ρ t fun d t1 => ∃ l, d = .tup l ∧ l.length = is.length ∧ Nx (setAll ρ is l) t1)
    (hsw : swapsWithSole [.Tuple es k p1] e pos.line X.env = pure false := by rfl) (hn : (assignEach es X.env).length = is.length := by rfl) (hst : (assignEach es X.env).findIdx? (·.1) = none := by rfl) (h1 : (assignEach [.Tuple es k p1] X.env).map (·.2) = [assign (.Tuple es k p1) X.env] := by rfl) : WS X (.Assign [.Tuple es k p1] e pos) ρ t Nx R := .mk fun σ H er hb E q => by
  refine ofS (ps_asg semE (pg_tup B.calm (pgs_slots B hs) hn hst) hsw ((swapped_env (env' := env0 sc) hsc).trans hw) h1) ?_
  refine h σ H er hb _ fun d v t1 H1 ⟨l, hl, hz, h1⟩ e1 b1 r1 => ?_
  subst hl
  cases r1 with
  | tup hx rl => exact ⟨_, _, rfl, hx, by rw [rl.len]; exact hz, tgs_run hz rl (er.mono e1) fun σ' er' => q.1 _ t1 _ H1 h1 e1 b1 er'⟩
/-- a, b = e1, e2 of local names -/
theorem ws_par (B : Bod X N sc kk) (i j : Nat) {px py pt pt2 : Pos} {kt k2 : Nat} (hi : N[i]? = some x) (hj : N[j]? = some y) (hij : i ≠ j) (hx : sc.names.lookup x = some .local) (hy : sc.names.lookup y = some .local)
    (hsc : X.env.scope = sc) (hw : swappedStores [.Tuple [.Name x px, .Name y py] kt pt] (.Tuple [a, b] k2 pt2) (env0 sc) = pure (some [x, y]))
    (h : WE X a ρ t fun d t1 => WE X b ρ t1 fun d2 t2 => Nx ((ρ.set i (some d)).set j (some d2)) t2)
    (hs : swapsWithSole [.Tuple [.Name x px, .Name y py] kt pt] (.Tuple [a, b] k2 pt2) pos.line X.env = pure false := by rfl) (ha : starEach [a, b] X.env = (false, eval a X.env) :: starEach [b] X.env := by rfl) (hb2 : starEach [b] X.env = (false, eval b X.env) :: starEach [] X.env := by rfl) :
    WS X (.Assign [.Tuple [.Name x px, .Name y py] kt pt] (.Tuple [a, b] k2 pt2) pos) ρ t Nx R := .mk fun σ H er hb E q => by
  refine ofS (ps_par (i := i) (j := j) B.calm (by rw [B.n]; exact B.nd) (by rw [B.n]; exact hi) (by rw [B.n]; exact hj) hij (B.lo x hx) (B.lo y hy) (pa_cons semE (pa_cons semE pa_nil hb2) ha) ((swapped_env (env' := env0 sc) hsc).trans hw) hs) ?_
  refine h σ H er hb _ fun d v t1 H1 h1 e1 b1 r1 => ?_
  refine h1 σ H1 (er.mono e1) b1 _ fun d2 v2 t2 H2 h2 e2 b2 r2 => ?_
  exact ⟨_, _, rfl, q.1 _ t2 _ H2 h2 (e1.trans e2) b2 (((er.mono (e1.trans e2)).set (r1.mono e2) i).set r2 j)⟩
/-! ### loops -/
theorem ws_while (B : Bod X N sc kk) (W : Nat → Env' → Nat → Prop) (m0 : Nat) (h0 : W m0 ρ t)
    (hs : ∀ m ρ t, W m ρ t → WT X c ρ t fun k t1 => (k = true → WB X body ρ t1 (fun ρ' t' => ∃ m', m' < m ∧ W m' ρ' t') R) ∧ (k = false → Nx ρ t1)) : WS X (.While c body [] pos) ρ t Nx R := .mk fun σ H er hb E q => by
  refine ofS (ps_while B.pass semT semB) ?_
  refine ⟨fun m σ' H' => ∃ ρ' t', W m ρ' t' ∧ ExS H H' ∧ HB H' t' ∧ EnvR X.K H' σ' ρ', ⟨m0, ρ, t, h0, ExS.refl H, hb, er⟩, ?_⟩
  rintro m σ1 H1 ⟨ρ1, t1, w1, e1, b1, er1⟩
  refine hs m ρ1 t1 w1 σ1 H1 er1 b1 _ fun k t2 H2 h2 e2 b2 => ?_
  cases k with
  | true =>
    refine ⟨_, fun _ _ n => n, ?_⟩
    refine h2.1 rfl σ1 H2 (er1.mono e2) b2 { E with nx := fun σ' H' => ∃ m', m' < m ∧ ∃ ρ' t', W m' ρ' t' ∧ ExS H H' ∧ HB H' t' ∧ EnvR X.K H' σ' ρ', ct := _, bk := _ } ⟨fun ρ3 t3 σ3 H3 ⟨m', hm, w3⟩ e3 b3 er3 => ?_, fun d v t3 H3 h3 e3 b3 r3 => q.2 d v t3 H3 h3 ((e1.trans e2).trans e3) b3 r3⟩
    exact ⟨m', hm, ρ3, t3, w3, (e1.trans e2).trans e3, b3, er3⟩
  | false => exact q.1 _ t2 _ H2 (h2.2 rfl) (e1.trans e2) b2 (er1.mono e2)
/-- what a loop's turn asks of the invariant -/
def Turns (X : Cx) (body : List Stmt) (put : Env' → D → Env') (l : List D) (P : Nat → Env' → Nat → Prop) (R : D → Nat → Prop) : Prop :=
  ∀ (j : Nat) d ρ' t', l[j]? = some d → P j ρ' t' → WB X body (put ρ' d) t' (fun ρ2 t2 => P (j + 1) ρ2 t2) R
theorem ws_forL (B : Bod X N sc kk) (i : Nat) (hN : N[i]? = some x) (hl : L2.Loc sc x) (P : Nat → Env' → Nat → Prop)
    (h : WE X e ρ t fun d t1 => ∃ l, d = .lst l ∧ P 0 ρ t1 ∧ Turns X body (fun ρ d => ρ.set i (some d)) l P R ∧ ∀ ρ' t', P l.length ρ' t' → Nx ρ' t')
    (hf : ∀ z, foldedSetIterable e X.env z = pure z := by intro _; rfl) : WS X (.For (.Name x p1) e body [] pos) ρ t Nx R := .mk fun σ H er hb E q => by
  refine ofS (ps_for B.pass B.calm (pi_list semE) (pg_name (i := i) (by rw [B.n]; exact B.nd) (by rw [B.n]; exact hN) (loc_of B hl) (B.fn x hl)) semB hf) ?_
  refine h σ H er hb _ fun d v t1 H1 ⟨l, hd, h0, hs, hz⟩ e1 b1 r1 => ?_
  subst hd
  cases r1 with
  | @lst ad xs _ hx rl =>
    refine ⟨ad, rfl, ⟨xs, SqL.of hx⟩, for_list (xs := xs) (fun j σ' H' => ∃ ρ' t', P j ρ' t' ∧ ExS H1 H' ∧ HB H' t' ∧ EnvR X.K H' σ' ρ') ⟨ρ, t1, h0, ExS.refl H1, b1, er.mono e1⟩ (fun j σ' H' _ ⟨ρ', t', _, e', _, _⟩ => e'.seqL (SqL.of hx)) (fun j v σ' H' hv ⟨ρ', t', p', e', b', er'⟩ => ?_) fun σ' H' ⟨ρ', t', p', e', b', er'⟩ => ?_⟩
    · obtain ⟨d, hd, rd⟩ := rl.at' hv
      refine hs j d ρ' t' hd p' _ H' (er'.set (rd.mono e') i) b' _ ⟨fun ρ2 t2 σ2 H2 p2 e2 b2 er2 => ⟨ρ2, t2, p2, e'.trans e2, b2, er2⟩, fun d v t3 H3 h3 e3 b3 r3 => q.2 d v t3 H3 h3 ((e1.trans e').trans e3) b3 r3⟩
    · rw [rl.len] at p'
      exact q.1 ρ' t' σ' H' (hz ρ' t' p') (e1.trans e') b' er'
theorem ws_forT (B : Bod X N sc kk) (i : Nat) (hN : N[i]? = some x) (hl : L2.Loc sc x) (P : Nat → Env' → Nat → Prop)
    (h : WE X e ρ t fun d t1 => ∃ l, d = .tup l ∧ P 0 ρ t1 ∧ Turns X body (fun ρ d => ρ.set i (some d)) l P R ∧ ∀ ρ' t', P l.length ρ' t' → Nx ρ' t')
    (hf : ∀ z, foldedSetIterable e X.env z = pure z := by intro _; rfl) : WS X (.For (.Name x p1) e body [] pos) ρ t Nx R := .mk fun σ H er hb E q => by
  refine ofS (ps_for B.pass B.calm (pi_tup semE) (pg_name (i := i) (by rw [B.n]; exact B.nd) (by rw [B.n]; exact hN) (loc_of B hl) (B.fn x hl)) semB hf) ?_
  refine h σ H er hb _ fun d v t1 H1 ⟨l, hd, h0, hs, hz⟩ e1 b1 r1 => ?_
  subst hd
  cases r1 with
  | @tup ad xs _ hx rl =>
    refine ⟨ad, rfl, ⟨xs, hx⟩, for_tup (xs := xs) (fun j σ' H' => ∃ ρ' t', P j ρ' t' ∧ ExS H1 H' ∧ HB H' t' ∧ EnvR X.K H' σ' ρ') ⟨ρ, t1, h0, ExS.refl H1, b1, er.mono e1⟩ (fun j σ' H' _ ⟨ρ', t', _, e', _, _⟩ => e'.seqT hx) (fun j v σ' H' hv ⟨ρ', t', p', e', b', er'⟩ => ?_) fun σ' H' ⟨ρ', t', p', e', b', er'⟩ => ?_⟩
    · obtain ⟨d, hd, rd⟩ := rl.at' hv
      refine hs j d ρ' t' hd p' _ H' (er'.set (rd.mono e') i) b' _ ⟨fun ρ2 t2 σ2 H2 p2 e2 b2 er2 => ⟨ρ2, t2, p2, e'.trans e2, b2, er2⟩, fun d v t3 H3 h3 e3 b3 r3 => q.2 d v t3 H3 h3 ((e1.trans e').trans e3) b3 r3⟩
    · rw [rl.len] at p'
      exact q.1 ρ' t' σ' H' (hz ρ' t' p') (e1.trans e') b' er'
/-- for a, b in a tuple of pairs -/
theorem ws_forTT (B : Bod X N sc kk) {is : List Nat} {k : Nat} (hs : Slots N sc es is) (P : Nat → Env' → Nat → Prop)
    (h : WE X e ρ t fun d t1 => ∃ l, d = .tup l ∧ P 0 ρ t1 ∧ (∀ (j : Nat) d ρ' t', l[j]? = some d → P j ρ' t' → ∃ l', d = .tup l' ∧ l'.length = is.length ∧ WB X body (setAll ρ' is l') t' (fun ρ2 t2 => P (j + 1) ρ2 t2) R) ∧ ∀ ρ' t', P l.length ρ' t' → Nx ρ' t')
    (hf : ∀ z, foldedSetIterable e X.env z = pure z := by intro _; rfl) (hn : (assignEach es X.env).length = is.length := by rfl) (hst : (assignEach es X.env).findIdx? (·.1) = none := by rfl) : WS X (.For (.Tuple es k p1) e body [] pos) ρ t Nx R := .mk fun σ H er hb E q => by
  refine ofS (ps_for B.pass B.calm (pi_tup semE) (pg_tup B.calm (pgs_slots B hs) hn hst) semB hf) ?_
  refine h σ H er hb _ fun d v t1 H1 ⟨l, hd, h0, hs, hz⟩ e1 b1 r1 => ?_
  subst hd
  cases r1 with
  | @tup ad xs _ hx rl =>
    refine ⟨ad, rfl, ⟨xs, hx⟩, for_tup (xs := xs) (fun j σ' H' => ∃ ρ' t', P j ρ' t' ∧ ExS H1 H' ∧ HB H' t' ∧ EnvR X.K H' σ' ρ') ⟨ρ, t1, h0, ExS.refl H1, b1, er.mono e1⟩ (fun j σ' H' _ ⟨ρ', t', _, e', _, _⟩ => e'.seqT hx) (fun j v σ' H' hv ⟨ρ', t', p', e', b', er'⟩ => ?_) fun σ' H' ⟨ρ', t', p', e', b', er'⟩ => ?_⟩
    · obtain ⟨d, hd, rd⟩ := rl.at' hv
      obtain ⟨l', hl', hz', hw⟩ := hs j d ρ' t' hd p'
      subst hl'
      cases rd.mono e' with
      | tup hx' rl' =>
        refine ⟨_, _, rfl, hx', by rw [rl'.len]; exact hz', tgs_run hz' rl' er' fun σ2 er2 => ?_⟩
        refine hw σ2 H' er2 b' _ ⟨fun ρ2 t2 σ2 H2 p2 e2 b2 er2 => ⟨ρ2, t2, p2, e'.trans e2, b2, er2⟩, fun d v t3 H3 h3 e3 b3 r3 => q.2 d v t3 H3 h3 ((e1.trans e').trans e3) b3 r3⟩
    · rw [rl.len] at p'
      exact q.1 ρ' t' σ' H' (hz ρ' t' p') (e1.trans e') b' er'
/-- for x in range(n) -/
theorem ws_forR (B : Bod X N sc kk) (i : Nat) (hN : N[i]? = some x) (hl : L2.Loc sc x) (P : Nat → Env' → Nat → Prop) (hg : sc.names.lookup ("range" : Str) = some .globalImplicit) (hm : X.mg "range" = none)
    (h : WE X e ρ t fun d t1 => ∃ n : Int, d = .int n ∧ -(2 ^ 62) ≤ n ∧ n < 2 ^ 62 ∧ P 0 ρ t1 ∧ (∀ (j : Nat) ρ' t', j < n.toNat → P j ρ' t' → WB X body (ρ'.set i (some (.int (j : Int)))) t' (fun ρ2 t2 => P (j + 1) ρ2 t2) R) ∧ ∀ ρ' t', P n.toNat ρ' t' → Nx ρ' t')
    (hs1 : starEach [e] X.env = (false, eval e X.env) :: starEach [] X.env := by rfl) (hs2 : starEach [e] X.env = [(false, eval e X.env)] := by rfl)
    {pf pc : Pos} (hf : ∀ z, foldedSetIterable (.Call (.Name "range" pf) [e] [] pc) X.env z = pure z := by intro _; rfl) : WS X (.For (.Name x p1) (.Call (.Name "range" pf) [e] [] pc) body [] pos) ρ t Nx R := .mk fun σ H er hb E q => by
  refine ofS (ps_for B.pass B.calm (pi_range1 (gl_of B hg) hm (pa_cons semE pa_nil hs1) hs2) (pg_name (i := i) (by rw [B.n]; exact B.nd) (by rw [B.n]; exact hN) (loc_of B hl) (B.fn x hl)) semB hf) ?_
  refine h σ H er hb _ fun d v t1 H1 ⟨n, hd, n1, n2, h0, hs, hz⟩ e1 b1 r1 => ?_
  subst hd
  cases r1
  refine ⟨n, rfl, n1, n2, for_range (lo := 0) (n := n.toNat) (fun j σ' H' => ∃ ρ' t', P j ρ' t' ∧ ExS H1 H' ∧ HB H' t' ∧ EnvR X.K H' σ' ρ') ⟨ρ, t1, h0, ExS.refl H1, b1, er.mono e1⟩ (fun j σ' H' hv ⟨ρ', t', p', e', b', er'⟩ => ?_) fun σ' H' ⟨ρ', t', p', e', b', er'⟩ => ?_⟩
  · have ej : (0 : Int) + (j : Int) = (j : Int) := Int.zero_add _
    rw [ej]
    refine hs j ρ' t' hv p' _ H' (er'.set (.int _) i) b' _ ⟨fun ρ2 t2 σ2 H2 p2 e2 b2 er2 => ⟨ρ2, t2, p2, e'.trans e2, b2, er2⟩, fun d v t3 H3 h3 e3 b3 r3 => q.2 d v t3 H3 h3 ((e1.trans e').trans e3) b3 r3⟩
  · exact q.1 ρ' t' σ' H' (hz ρ' t' p') (e1.trans e') b' er'
/-- for i, x in enumerate(xs) -/
theorem ws_forE (B : Bod X N sc kk) {is : List Nat} {k : Nat} (hs : Slots N sc es is) (h2 : is.length = 2) (P : Nat → Env' → Nat → Prop)
    (hg : sc.names.lookup ("enumerate" : Str) = some .globalImplicit) (hm : X.mg "enumerate" = none)
    (h : WE X e ρ t fun d t1 => ∃ l, d = .lst l ∧ P 0 ρ t1 ∧ (∀ (j : Nat) d ρ' t', l[j]? = some d → P j ρ' t' → WB X body (setAll ρ' is [.int (j : Int), d]) t' (fun ρ2 t2 => P (j + 1) ρ2 t2) R) ∧ ∀ ρ' t', P l.length ρ' t' → Nx ρ' t')
    (hs1 : starEach [e] X.env = (false, eval e X.env) :: starEach [] X.env := by rfl) (hs2 : starEach [e] X.env = [(false, eval e X.env)] := by rfl)
    {pf pc : Pos} (hf : ∀ z, foldedSetIterable (.Call (.Name "enumerate" pf) [e] [] pc) X.env z = pure z := by intro _; rfl) (hn : (assignEach es X.env).length = is.length := by rfl) (hst : (assignEach es X.env).findIdx? (·.1) = none := by rfl) : WS X (.For (.Tuple es k p1) (.Call (.Name "enumerate" pf) [e] [] pc) body [] pos) ρ t Nx R := .mk fun σ H er hb E q => by
  refine ofS (ps_for B.pass B.calm (pi_enum (gl_of B hg) hm (pa_cons semE pa_nil hs1) hs2) (pg_tup B.calm (pgs_slots B hs) hn hst) semB hf) ?_
  refine h σ H er hb _ fun d v t1 H1 ⟨l, hd, h0, hs, hz⟩ e1 b1 r1 => ?_
  subst hd
  cases r1 with
  | @lst ad xs _ hx rl =>
    refine ⟨ad, xs, rfl, SqL.of hx, ?_⟩
    refine ⟨fun j m σ' H' => m = xs.length - j ∧ j ≤ xs.length ∧ ∃ ρ' t', P j ρ' t' ∧ ExS H1 H' ∧ HB H' t' ∧ EnvR X.K H' σ' ρ', ⟨xs.length, by simp, Nat.zero_le _, ρ, t1, h0, ExS.refl H1, b1, er.mono e1⟩, ?_⟩
    rintro j m σ' H' ⟨rfl, hj, ρ', t', p', e', b', er'⟩
    have hx' : SqL X.K H' ad xs := e'.seqL (SqL.of hx)
    by_cases hlt : j < xs.length
    · refine .inr ⟨⟨xs, xs[j], hx', by simp [hlt]⟩, fun σ' H' => ∃ ρ' t', P (j + 1) ρ' t' ∧ ExS H1 H' ∧ HB H' t' ∧ EnvR X.K H' σ' ρ', fun σ2 H2 p2 => ⟨xs.length - (j + 1), by omega, rfl, hlt, p2⟩, fun v H2 ⟨T, u, ev, hT, eH, hu⟩ => ?_⟩
      subst ev eH
      have e3 := ExS.new (o := .tup [.int (j : Nat), u]) hT
      obtain ⟨d, hd, rd⟩ := rl.at' (hu xs hx')
      refine ⟨T, _, rfl, SqT.of upd_same, by rw [h2]; rfl, tgs_run (l := [.int (j : Int), d]) (by rw [h2]; rfl) (.cons (.int _) (.cons (rd.mono (e'.trans e3)) .nil)) (er'.mono e3) fun σ2 er2 => ?_⟩
      refine hs j d ρ' t' hd p' σ2 _ er2 (b'.new tup_st) _ ⟨fun ρ2 t2 σ2 H2 p2 e2 b2 er2 => ⟨ρ2, t2, p2, (e'.trans e3).trans e2, b2, er2⟩, fun d v t3 H3 h3 e4 b3 r3 => q.2 d v t3 H3 h3 (((e1.trans e').trans e3).trans e4) b3 r3⟩
    · have ej : j = xs.length := by omega
      subst ej
      rw [rl.len] at p'
      exact .inl ⟨⟨xs, hx', Nat.le_refl _⟩, q.1 ρ' t' σ' H' (hz ρ' t' p') (e1.trans e') b' er'⟩
end
end RS
/-! part RSLay5 -/
namespace RS
open PySem L2 PySem.Spec PyProof.Rows
/-! ### comprehensions -/
/-- a context of a comprehension's block -/
def Blk (X X' : Cx) (scope : Scope) : Prop := ∃ (s : Shared) (H : Hp) (C : Addr) (cl : List (Str × Addr)) (fp : List Addr), X' = X.blk s H scope (compEnvC scope cl C X.env) fp
def rel1 (env : Env) (q : Str × NameKind) : Str × NameKind := if (q.2 == NameKind.free && env.scope.kind == .function && env.kindOf q.1 == some .cell) then (q.1, NameKind.cell) else (q.1, q.2)
theorem rel1_fst (env : Env) (q : Str × NameKind) : (rel1 env q).1 = q.1 := by
  unfold rel1
  split <;> rfl
theorem rel1_snd (env : Env) (q : Str × NameKind) : (rel1 env q).2 = q.2 ∨ (q.2 = .free ∧ (rel1 env q).2 = .cell) := by
  unfold rel1
  split
  · rename_i hc
    refine .inr ⟨?_, rfl⟩
    have := (Bool.and_eq_true_iff.mp (Bool.and_eq_true_iff.mp hc).1).1
    generalize q.2 = z at this
    cases z <;> first | rfl | cases this
  · exact .inl rfl
theorem rel_lookup {env : Env} {x : Str} {k : NameKind} : ∀ {names : List (Str × NameKind)}, names.lookup x = some k → ∃ k', (names.map (rel1 env)).lookup x = some k' ∧ (k' = k ∨ (k = .free ∧ k' = .cell))
  | [], h => by simp at h
  | q :: r, h => by
    obtain ⟨n, kn⟩ := q
    rw [List.map_cons]
    have hf := rel1_fst env (n, kn)
    have hs := rel1_snd env (n, kn)
    generalize rel1 env (n, kn) = z at hf hs
    obtain ⟨z1, z2⟩ := z
    have hf : z1 = n := hf
    subst hf
    by_cases e : x = z1
    · subst e
      have ek : kn = k := by
        rw [List.lookup_cons] at h
        simpa using h
      subst ek
      exact ⟨z2, by rw [List.lookup_cons]; simp, hs⟩
    · have hb : (x == z1) = false := by simpa using e
      have h' : r.lookup x = some k := by
        rw [List.lookup_cons, hb] at h
        exact h
      obtain ⟨k', h1, h2⟩ := rel_lookup (env := env) h'
      exact ⟨k', by rw [List.lookup_cons, hb]; exact h1, h2⟩
theorem relabel_lookup {env : Env} {x : Str} {k : NameKind} {sc : Scope} (h : sc.names.lookup x = some k) : ∃ k', (relabel sc env).names.lookup x = some k' ∧ (k' = k ∨ (k = .free ∧ k' = .cell)) := rel_lookup (env := env) h
/-! data without lists -/
mutual
def D.flat : D → Bool
  | .non => true
  | .bl _ => true
  | .int _ => true
  | .str _ => true
  | .tup l => D.flatL l
  | _ => false
def D.flatL : List D → Bool
  | [] => true
  | d :: l => D.flat d && D.flatL l
end
theorem sqT_but {K : PySem.W.Frag} {H : Hp} {a p : Addr} {xs ys : List V} {o : HO} (h : SqT K H a xs) (hp : H p = some (.lst ys)) : SqT K (upd H p o) a xs := by
  rcases h with (h | ⟨ob, h⟩) | h
  · refine .inl (.inl ?_)
    rw [upd_ne (fun e => by subst e; rw [h] at hp; cases hp)]
    exact h
  · refine .inl (.inr ⟨ob, ?_⟩)
    rw [upd_ne (fun e => by subst e; rw [h] at hp; cases hp)]
    exact h
  · exact .inr h
mutual
theorem Rp.but {K : PySem.W.Frag} {H : Hp} {p : Addr} {ys : List V} {o : HO} (hp : H p = some (.lst ys)) : ∀ {d : D} {v : V}, Rp K H d v → d.flat = true → Rp K (upd H p o) d v
  | _, _, .non, _ => .non
  | _, _, .bl b, _ => .bl b
  | _, _, .int i, _ => .int i
  | _, _, .str x, _ => .str x
  | _, _, .tup h r, f => .tup (sqT_but h hp) (RpL.but hp r f)
  | _, _, .lst h r, f => by cases f
  | _, _, .dic h n r, f => by cases f
  | _, _, .stt h r, f => by cases f
  | _, _, .scr h, f => by cases f
theorem RpL.but {K : PySem.W.Frag} {H : Hp} {p : Addr} {ys : List V} {o : HO} (hp : H p = some (.lst ys)) : ∀ {l : List D} {xs : List V}, RpL K H l xs → D.flatL l = true → RpL K (upd H p o) l xs
  | _, _, .nil, _ => .nil
  | _, _, .cons h r, f => .cons (Rp.but hp h (Bool.and_eq_true_iff.mp f).1) (RpL.but hp r (Bool.and_eq_true_iff.mp f).2)
end
theorem flatL_snoc : ∀ {l : List D} {d : D}, D.flatL l = true → d.flat = true → D.flatL (l ++ [d]) = true
  | [], d, _, h => by
    show (d.flat && true) = true
    rw [h]
    rfl
  | a :: l, d, h, h' => by
    have h1 := Bool.and_eq_true_iff.mp h
    show (a.flat && D.flatL (l ++ [d])) = true
    rw [h1.1, flatL_snoc h1.2 h']
    rfl
/-- an object that H doesn't know may change -/
theorem ExS.mut {H H' : Hp} {p : Addr} {o : HO} (e : ExS H H') (h : H p = none) : ExS H (upd H' p o) := fun a u q => by
  have hne : a ≠ p := ne_of_none q h
  rw [upd_ne hne]
  exact e a u q
section
variable {X X' : Cx} {N : List Str} {sc scope : Scope} {kk : Nat} {ρ : Env'} {t : Nat} {Φ : D → Nat → Prop} {Nx : Env' → Nat → Prop} {R : D → Nat → Prop} {x y : Str} {pos p1 p2 spos : Pos} {d : D} {elt iter e : Expr} {ifs : List Expr}
theorem Blk.k (b : Blk X X' scope) : X'.K = X.K := by
  obtain ⟨s, H, C, cl, fp, rfl⟩ := b
  rfl
theorem Blk.mg (b : Blk X X' scope) : X'.mg = X.mg := by
  obtain ⟨s, H, C, cl, fp, rfl⟩ := b
  rfl
theorem Blk.dfn (b : Blk X X' scope) {n : Str} {k : Nat} {p : Pr} (F : Dfn X n k p) : Dfn X' n k p := by
  obtain ⟨s, H, C, cl, fp, rfl⟩ := b
  exact ⟨F.ex⟩
theorem Blk.glb (b : Blk X X' scope) {n : Str} {d : D} (F : Glb X n d) : Glb X' n d := by
  obtain ⟨s, H, C, cl, fp, rfl⟩ := b
  exact ⟨F.ex⟩
theorem Blk.bod (b : Blk X X' scope) (B : Bod X N sc kk) : Bod X' N scope kk := by
  obtain ⟨s, H, C, cl, fp, rfl⟩ := b
  refine ⟨B.n, fun x h => ?_, fun x h => ?_, fun x h => ?_, fun x h => ?_, B.calm, B.nd, B.room, fun x h => ?_, PassesOwn.never⟩
  · rcases h with h | h | h
    · obtain ⟨k', h1, h2⟩ := relabel_lookup (env := X.env) h
      rcases h2 with rfl | ⟨h2, _⟩
      · exact .inl h1
      · cases h2
    · obtain ⟨k', h1, h2⟩ := relabel_lookup (env := X.env) h
      rcases h2 with rfl | ⟨h2, _⟩
      · exact .inr (.inl h1)
      · cases h2
    · obtain ⟨k', h1, h2⟩ := relabel_lookup (env := X.env) h
      rcases h2 with rfl | ⟨_, rfl⟩
      · exact .inr (.inr h1)
      · exact .inr (.inl h1)
  · obtain ⟨k', h1, h2⟩ := relabel_lookup (env := X.env) h
    rcases h2 with rfl | ⟨h2, _⟩
    · exact h1
    · cases h2
  · obtain ⟨k', h1, h2⟩ := relabel_lookup (env := X.env) h
    rcases h2 with rfl | ⟨h2, _⟩
    · exact h1
    · cases h2
  · rcases h with h | h
    · obtain ⟨k', h1, h2⟩ := relabel_lookup (env := X.env) h
      rcases h2 with rfl | ⟨h2, _⟩
      · exact .inl h1
      · cases h2
    · obtain ⟨k', h1, h2⟩ := relabel_lookup (env := X.env) h
      rcases h2 with rfl | ⟨h2, _⟩
      · exact .inr h1
      · cases h2
  · rcases h with h | h
    · obtain ⟨k', h1, h2⟩ := relabel_lookup (env := X.env) h
      rcases h2 with rfl | ⟨h2, _⟩
      · exact .inr h1
      · cases h2
    · refine .inl ?_
      show (scope.names.lookup x == some .cell) = true
      rw [h]
      rfl
/-- a comprehension's test, if it has one -/
def WTs (X : Cx) (ifs : List Expr) (ρ : Env') (t : Nat) (Ψ : Bool → Nat → Prop) : Prop := match ifs with
  | [] => Ψ true t
  | [c] => WT X c ρ t Ψ
  | _ => False
def SemTs (X : Cx) (scope : Scope) (ifs : List Expr) : TT := match ifs with
  | [] => tYes
  | [c] => fun σ H Q => ∀ X', Blk X X' scope → SemT X' c σ H Q
  | _ => fun _ _ _ => False
theorem semTs (b : Blk X X' scope) : ∀ {ifs : List Expr}, PTs X' ifs (SemTs X scope ifs)
  | [] => pts_nil
  | [c] => pts_one ⟨fun pins s σ H Q I h => h X' b pins s I⟩
  | _ :: _ :: _ => ⟨fun pins s σ H Q I h => False.elim h⟩
def SemEl (X : Cx) (scope : Scope) (e : Expr) : TE := fun σ H Q => ∀ X', Blk X X' scope → SemE X' e σ H Q
theorem semEl (b : Blk X X' scope) {e : Expr} : PE X' e (SemEl X scope e) := ⟨fun pins s σ H Q I h => h X' b pins s I⟩
/-- one turn of a comprehension: its test, its element -/
def CTurn (X : Cx) (scope : Scope) (ifs : List Expr) (elt : Expr) (ρ : Env') (t : Nat) (go : D → Nat → Prop) (no : Nat → Prop) : Prop :=
  ∀ X', Blk X X' scope → WTs X' ifs ρ t fun k t2 => (k = true → ∀ X2, Blk X X2 scope → WE X2 elt ρ t2 go) ∧ (k = false → no t2)
theorem set_wipe (σ : L2.St) (i : Nat) (v : Option V) : ((wipe σ [i]).set i v) = σ.set i v := by
  show ((σ.set i none).set i v) = _
  rw [List.set_set]
theorem wipe_set (σ : L2.St) (i : Nat) (v : Option V) : wipe (σ.set i v) [i] = wipe σ [i] := by
  show (σ.set i v).set i none = σ.set i none
  rw [List.set_set]
/-- the invariant of a comprehension at turn j: the list made so far stands at D0 -/
def CInv (K : PySem.W.Frag) (H1 : Hp) (D0 : Addr) (P : Nat → List D → Nat → Prop) (j : Nat) (H' : Hp) : Prop :=
  ∃ acc xs t', P j acc t' ∧ acc.length ≤ j ∧ D.flatL acc = true ∧ H1 D0 = none ∧ ExS H1 H' ∧ HB H' t' ∧ H' D0 = some (.lst xs) ∧ RpL K H' acc xs
theorem cinv_turn {i : Nat} {σ : L2.St} {H1 H' : Hp} {D0 : Addr} {P : Nat → List D → Nat → Prop} {j : Nat} {v : V} (er : EnvR X.K H1 σ ρ) (p : CInv X.K H1 D0 P j H') (hj : j < 900) (rv : Rp X.K H' d v)
    (ct : ∀ acc t', P j acc t' → CTurn X scope ifs elt (ρ.set i (some d)) t' (fun r t2 => r.flat = true ∧ P (j + 1) (acc ++ [r]) t2) (fun t2 => P (j + 1) acc t2)) :
    wipe (σ.set i (some v)) [i] = wipe σ [i] ∧ SemTs X scope ifs (σ.set i (some v)) H' fun b H3 => if b = true then SemEl X scope elt (σ.set i (some v)) H3 fun y H4 => ∃ acc, H4 D0 = some (.lst acc) ∧ acc.length < sizeLine ∧ CInv X.K H1 D0 P (j + 1) (upd H4 D0 (.lst (acc ++ [y]))) else CInv X.K H1 D0 P (j + 1) H3 := by
  refine ⟨wipe_set σ i _, ?_⟩
  obtain ⟨acc, xs, t', pj, hl, fl, hn, e', b', hD, ra⟩ := p
  have er' : EnvR X.K H' (σ.set i (some v)) (ρ.set i (some d)) := (er.mono e').set rv i
  -- the element
  have elem : ∀ t2 H3, (∀ X', Blk X X' scope → WE X' elt (ρ.set i (some d)) t2 (fun r t2 => r.flat = true ∧ P (j + 1) (acc ++ [r]) t2)) → ExS H' H3 → HB H3 t2 → SemEl X scope elt (σ.set i (some v)) H3 fun y H4 => ∃ acc, H4 D0 = some (.lst acc) ∧ acc.length < sizeLine ∧ CInv X.K H1 D0 P (j + 1) (upd H4 D0 (.lst (acc ++ [y]))) := by
    intro t2 H3 hw e3 b3 X' bl
    have w := hw X' bl
    have ek := bl.k
    refine w (σ.set i (some v)) H3 (by rw [ek]; exact er'.mono e3) b3 _ fun r y t4 H4 ⟨fr, p4⟩ e4 b4 r4 => ?_
    rw [ek] at r4
    have hD4 : H4 D0 = some (.lst xs) := (e3.trans e4).stay hD lst_st
    have ra4 := ra.mono (e3.trans e4)
    refine ⟨xs, hD4, ?_, acc ++ [r], xs ++ [y], t4, p4, by rw [List.length_append]; simp; omega, flatL_snoc fl fr, hn, ((e'.trans e3).trans e4).mut hn, b4.new lst_st, upd_same, ?_⟩
    · rw [ra.len]
      exact Nat.lt_of_le_of_lt hl (Nat.lt_of_lt_of_le hj (by decide))
    · exact (ra4.but hD4 fl).append (.cons (r4.but hD4 fr) .nil)
  -- it isn't taken
  have leave : ∀ t2 H3, P (j + 1) acc t2 → ExS H' H3 → HB H3 t2 → CInv X.K H1 D0 P (j + 1) H3 := fun t2 H3 p3 e3 b3 =>
    ⟨acc, xs, t2, p3, Nat.le_succ_of_le hl, fl, hn, e'.trans e3, b3, e3.stay hD lst_st, ra.mono e3⟩
  have c := ct acc t' pj
  match ifs, c with
  | [], c =>
    show SemEl X scope elt (σ.set i (some v)) H' _
    exact elem t' H' (fun X' bl => (c X' bl).1 rfl X' bl) (ExS.refl H') b'
  | [cc], c =>
    intro X' bl
    have ek := bl.k
    have w : WT X' cc (ρ.set i (some d)) t' _ := c X' bl
    refine w (σ.set i (some v)) H' (by rw [ek]; exact er') b' _ fun k t2 H3 h3 e3 b3 => ?_
    cases k with
    | true =>
      show SemEl X scope elt (σ.set i (some v)) H3 _
      exact elem t2 H3 (h3.1 rfl) e3 b3
    | false => exact leave t2 H3 (h3.2 rfl) e3 b3
  | _ :: _ :: _, c => exact False.elim (c _ ⟨X.s_0, X.H_0, 0, [], [], rfl⟩)
/-- over a list -/
theorem lcL_run (B : Bod X N sc kk) {i : Nat} (P : Nat → List D → Nat → Prop)
    (h : WE X iter ρ t fun d t1 => ∃ l, d = .lst l ∧ l.length ≤ 900 ∧ P 0 [] t1 ∧ (∀ (j : Nat) d acc t', l[j]? = some d → P j acc t' → CTurn X scope ifs elt (ρ.set i (some d)) t' (fun r t2 => r.flat = true ∧ P (j + 1) (acc ++ [r]) t2) (fun t2 => P (j + 1) acc t2)) ∧ ∀ acc t', acc.length ≤ l.length → P l.length acc t' → Φ (.lst acc) t')
    {σ : L2.St} {H : Hp} (er : EnvR X.K H σ ρ) (hb : HB H t) {Q : VK} (q : ∀ d v t' H', Φ d t' → ExS H H' → HB H' t' → Rp X.K H' d v → Q v H') :
    tLc (iList X.K (SemE X iter)) (gName i) (SemTs X scope ifs) (SemEl X scope elt) [i] σ H Q := by
  refine h σ H er hb _ fun d v t1 H1 ⟨l, hd, hl, h0, ht, hz⟩ e1 b1 r1 => ?_
  subst hd
  cases r1 with
  | @lst ad xs _ hx rl =>
    refine ⟨ad, rfl, ⟨xs, SqL.of hx⟩, fun D0 hD => ?_⟩
    have hx' : ∀ {j H'}, CInv X.K H1 D0 P j H' → SqL X.K H' ad xs := fun ⟨_, _, _, _, _, _, _, e', _, _, _⟩ => e'.seqL (SqL.of hx)
    refine lc_list (xs := xs) (CInv X.K H1 D0 P) ⟨[], [], t1, h0, Nat.le_refl _, rfl, hD, ExS.new hD, b1.new lst_st, upd_same, .nil⟩ (fun j H' _ p => hx' p) (fun j v H' hv p => ?_) fun H' p => ?_
    · obtain ⟨d, hd, rd⟩ := rl.at' hv
      show wipe ((wipe σ [i]).set i (some v)) [i] = wipe σ [i] ∧ _
      rw [set_wipe]
      have hj : j < 900 := by
        have := (List.getElem?_eq_some_iff.mp hd).1
        omega
      exact cinv_turn (er.mono e1) p hj (rd.mono (let ⟨_, _, _, _, _, _, _, e', _⟩ := p; e')) (fun acc t' pj => ht j d acc t' hd pj)
    · obtain ⟨acc, ys, t', pj, hl', fl, hn, e', b', hD', ra⟩ := p
      rw [rl.len] at pj hl'
      exact q _ _ t' H' (hz acc t' hl' pj) (e1.trans e') b' (.lst hD' ra)
theorem lcT_run (B : Bod X N sc kk) {i : Nat} (P : Nat → List D → Nat → Prop)
    (h : WE X iter ρ t fun d t1 => ∃ l, d = .tup l ∧ l.length ≤ 900 ∧ P 0 [] t1 ∧ (∀ (j : Nat) d acc t', l[j]? = some d → P j acc t' → CTurn X scope ifs elt (ρ.set i (some d)) t' (fun r t2 => r.flat = true ∧ P (j + 1) (acc ++ [r]) t2) (fun t2 => P (j + 1) acc t2)) ∧ ∀ acc t', acc.length ≤ l.length → P l.length acc t' → Φ (.lst acc) t')
    {σ : L2.St} {H : Hp} (er : EnvR X.K H σ ρ) (hb : HB H t) {Q : VK} (q : ∀ d v t' H', Φ d t' → ExS H H' → HB H' t' → Rp X.K H' d v → Q v H') :
    tLc (iTup X.K (SemE X iter)) (gName i) (SemTs X scope ifs) (SemEl X scope elt) [i] σ H Q := by
  refine h σ H er hb _ fun d v t1 H1 ⟨l, hd, hl, h0, ht, hz⟩ e1 b1 r1 => ?_
  subst hd
  cases r1 with
  | @tup ad xs _ hx rl =>
    refine ⟨ad, rfl, ⟨xs, hx⟩, fun D0 hD => ?_⟩
    have hx' : ∀ {j H'}, CInv X.K H1 D0 P j H' → SqT X.K H' ad xs := fun ⟨_, _, _, _, _, _, _, e', _, _, _⟩ => e'.seqT hx
    refine lc_tup (xs := xs) (CInv X.K H1 D0 P) ⟨[], [], t1, h0, Nat.le_refl _, rfl, hD, ExS.new hD, b1.new lst_st, upd_same, .nil⟩ (fun j H' _ p => hx' p) (fun j v H' hv p => ?_) fun H' p => ?_
    · obtain ⟨d, hd, rd⟩ := rl.at' hv
      show wipe ((wipe σ [i]).set i (some v)) [i] = wipe σ [i] ∧ _
      rw [set_wipe]
      have hj : j < 900 := by
        have := (List.getElem?_eq_some_iff.mp hd).1
        omega
      exact cinv_turn (er.mono e1) p hj (rd.mono (let ⟨_, _, _, _, _, _, _, e', _⟩ := p; e')) (fun acc t' pj => ht j d acc t' hd pj)
    · obtain ⟨acc, ys, t', pj, hl', fl, hn, e', b', hD', ra⟩ := p
      rw [rl.len] at pj hl'
      exact q _ _ t' H' (hz acc t' hl' pj) (e1.trans e') b' (.lst hD' ra)
theorem lcR_run {i : Nat} (P : Nat → List D → Nat → Prop)
    (h : WE X iter ρ t fun d t1 => ∃ n : Nat, d = .int (n : Int) ∧ n ≤ 900 ∧ P 0 [] t1 ∧ (∀ (j : Nat) acc t', j < n → P j acc t' → CTurn X scope ifs elt (ρ.set i (some (.int (j : Int)))) t' (fun r t2 => r.flat = true ∧ P (j + 1) (acc ++ [r]) t2) (fun t2 => P (j + 1) acc t2)) ∧ ∀ acc t', acc.length ≤ n → P n acc t' → Φ (.lst acc) t')
    {σ : L2.St} {H : Hp} (er : EnvR X.K H σ ρ) (hb : HB H t) {Q : VK} (q : ∀ d v t' H', Φ d t' → ExS H H' → HB H' t' → Rp X.K H' d v → Q v H') :
    tLc (iRng1 (tCons (SemE X iter) tNil)) (gName i) (SemTs X scope ifs) (SemEl X scope elt) [i] σ H Q := by
  refine h σ H er hb _ fun d v t1 H1 ⟨n, hd, hl, h0, ht, hz⟩ e1 b1 r1 => ?_
  subst hd
  cases r1
  refine ⟨(n : Int), rfl, by omega, by omega, fun D0 hD => ?_⟩
  rw [Int.toNat_natCast]
  refine lc_range (lo := 0) (n := n) (CInv X.K H1 D0 P) ⟨[], [], t1, h0, Nat.le_refl _, rfl, hD, ExS.new hD, b1.new lst_st, upd_same, .nil⟩ (fun j H' hj p => ?_) fun H' p => ?_
  · have ej : (0 : Int) + (j : Int) = (j : Int) := Int.zero_add _
    rw [ej]
    show wipe ((wipe σ [i]).set i (some (.int (j : Int)))) [i] = wipe σ [i] ∧ _
    rw [set_wipe]
    exact cinv_turn (er.mono e1) p (by omega) (.int _) (fun acc t' pj => ht j acc t' hj pj)
  · obtain ⟨acc, ys, t', pj, hl', fl, hn, e', b', hD', ra⟩ := p
    exact q _ _ t' H' (hz acc t' hl' pj) (e1.trans e') b' (.lst hD' ra)
/-- the two uses: as a value, to a name -/
theorem we_lc {wi : TI} (B : Bod X N sc kk) {i : Nat} (hi : PI X (.Name x p1) iter wi) (ok : BlkOk N X.env.scope scope [(x, i)]) (hx : N[i]? = some x) (hl : scope.names.lookup x = some .local)
    (h : ∀ σ H, EnvR X.K H σ ρ → HB H t → ∀ Q : VK, (∀ d v t' H', Φ d t' → ExS H H' → HB H' t' → Rp X.K H' d v → Q v H') → tLc wi (gName i) (SemTs X scope ifs) (SemEl X scope elt) [i] σ H Q)
    (hs : ∀ z, foldedSetIterable iter X.env z = pure z := by intro _; rfl) : WE X (.ListComp elt [⟨.Name x p1, iter, ifs, 0⟩] scope pos) ρ t Φ := .mk fun σ H er hb Q q =>
  ofE (pe_lc (own := [(x, i)]) B.calm (by rw [B.n]; exact B.nd) hi (by rw [B.n]; exact ok) (fun s H C cl fp => pg_name (by show X.N.Nodup; rw [B.n]; exact B.nd) (by show X.N[i]? = some x; rw [B.n]; exact hx) ((Blk.bod (scope := scope) ⟨s, H, C, cl, fp, rfl⟩ B).loc x (.inl hl)) (.inr ((Blk.bod (scope := scope) ⟨s, H, C, cl, fp, rfl⟩ B).lo x hl)))
    (fun s H C cl fp => semTs ⟨s, H, C, cl, fp, rfl⟩) (fun s H C cl fp => semEl ⟨s, H, C, cl, fp, rfl⟩) hs) (h σ H er hb Q q)
theorem ws_setLc {wi : TI} (B : Bod X N sc kk) {i k : Nat} (hk : N[k]? = some y) (hy : X.env.scope.names.lookup y = some .local) (hkd : X.env.scope.kind = .function) (hline : (p2.line == pos.line) = true)
    (ha : (scope.names.any fun (n, kd) => n == y && (kd == .local || kd == .cell)) = false) (hi : PI X (.Name x p1) iter wi) (ok : BlkOk N X.env.scope scope [(x, i)]) (hx : N[i]? = some x) (hl : scope.names.lookup x = some .local)
    (h : ∀ σ H, EnvR X.K H σ ρ → HB H t → ∀ Q : VK, (∀ d v t' H', Nx (ρ.set k (some d)) t' → ExS H H' → HB H' t' → Rp X.K H' d v → Q v H') → tLc wi (gName i) (SemTs X scope ifs) (SemEl X scope elt) [i] σ H Q)
    (hs : ∀ z, foldedSetIterable iter X.env z = pure z := by intro _; rfl) : WS X (.Assign [.Name y p2] (.ListComp elt [⟨.Name x p1, iter, ifs, 0⟩] scope pos) spos) ρ t Nx R := .mk fun σ H er hb E q =>
  ofS (ps_setLc (i := k) (own := [(x, i)]) B.calm (by rw [B.n]; exact B.nd) (by rw [B.n]; exact hk) hy (sw_true hkd hy hline ha) hi (by rw [B.n]; exact ok) (fun s H C cl fp => pg_name (by show X.N.Nodup; rw [B.n]; exact B.nd) (by show X.N[i]? = some x; rw [B.n]; exact hx) ((Blk.bod (scope := scope) ⟨s, H, C, cl, fp, rfl⟩ B).loc x (.inl hl)) (.inr ((Blk.bod (scope := scope) ⟨s, H, C, cl, fp, rfl⟩ B).lo x hl)))
    (fun s H C cl fp => semTs ⟨s, H, C, cl, fp, rfl⟩) (fun s H C cl fp => semEl ⟨s, H, C, cl, fp, rfl⟩) hs) (h σ H er hb _ fun d v t' H' n e b r => q.1 _ t' _ H' n e b ((er.mono e).set r k))
/-! ### a def keeps its promise -/
theorem mk_def {P : Program} {w : World} {K : PySem.W.Frag} {mg : Str → Option Value} {base : Heap} {nm qual : Str} {params : Arguments} {body : List Stmt} {scp : Scope} {f : Addr} {fd : FuncData} {ps : List Str} {k : Nat} {p : Pr}
    (F : FunD K nm qual params body scp [] [] f fd) (S : FnScope N ps scp) (har : ∀ ds t Φ, p ds t Φ → ds.length = ps.length)
    (hbody : ∀ X : Cx, X.prog = P → X.w = w → X.K = K → X.mg = mg → X.base = base → Bod X N scp k → X.env.scope = scp → ∀ ds t Φ, p ds t Φ → WB X body (ds.map some ++ List.replicate (N.length - ds.length) none) t (fun _ t' => Φ .non t') Φ) :
    FnOk P w K mg base CX0 (k + 1) f fd ps (spS K p) := by
  refine F.ok S (fun vs H Q E ⟨ds, t, Φ, r, _, h, _⟩ => by rw [r.len]; exact har ds t Φ h) fun cdv A outer s H vs Q E hr ⟨ds, t, Φ, r, hb, h, q⟩ => ?_
  refine ⟨_, PSs.nox semB, ?_⟩
  refine hbody _ rfl rfl rfl rfl rfl ⟨rfl, fun _ z => z, fun _ z => z, fun _ z => z, fun _ z => z, rfl, S.nd, hr, fun _ _ => .inl rfl, PassesOwn.never⟩ rfl ds t Φ h (L2.start N vs) H (envR_start N r) hb _ ⟨fun ρ' t' σ' H' n e b _ => q _ _ t' H' n e b .non, fun d v t' H' h' e b r' => q d v t' H' h' e b r'⟩
end
end RS
/-! part RSLay6 -/
namespace RS
open PySem L2 PySem.Spec PyProof.Rows
/-! ### what is worth one datum, nothing drawn -/
def WV (X : Cx) (e : Expr) (ρ : Env') (d : D) : Prop := ∀ t Φ, Φ d t → WE X e ρ t Φ
def TV (X : Cx) (e : Expr) (ρ : Env') (k : Bool) : Prop := ∀ t Ψ, Ψ k t → WT X e ρ t Ψ
def OV (X : Cx) (e : Expr) (ρ : Env') (k : Bool) : Prop := ∀ t Ψ, Ψ k t → WW X e ρ t Ψ
def AV (X : Cx) (es : List Expr) (ρ : Env') (ds : List D) : Prop := ∀ t Ω, Ω ds t → WA X es ρ t Ω
/-- a def that gives one datum, nothing drawn -/
theorem len_le {n : Nat} (h : Nat.ble n 1000 = true) : n ≤ 1000 := Nat.le_of_ble_eq_true h
def det (F : List D → D → Prop) : Pr := fun ds t Φ => ∃ d, F ds d ∧ Φ d t
section
variable {X : Cx} {N : List Str} {sc : Scope} {kk : Nat} {ρ : Env'} {x : Str} {pos p1 p2 : Pos} {d d' : D} {a b c e : Expr} {es rest : List Expr} {i j : Int} {k k' : Bool} {l m : List D} {ds : List D}
theorem wv_var (B : Bod X N sc kk) (i : Nat) (hρ : ρ[i]? = some (some d)) (hN : N[i]? = some x) (hv : Vis sc x) (hd : (x == ("__debug__" : Str)) = false := by decide) (hcd : (x == ("__classdict__" : Str)) = false := by decide) : WV X (.Name x pos) ρ d := fun t Φ h => we_var B i hN hv hρ h hd hcd
theorem wv_int {j} : WV X (.Constant (.int i) j pos) ρ (.int i) := fun t Φ h => we_int h
theorem wv_str {z : Str} {j} : WV X (.Constant (.str z) j pos) ρ (.str z) := fun t Φ h => we_str h
theorem wv_bl {j} : WV X (.Constant (.bool k) j pos) ρ (.bl k) := fun t Φ h => we_bl h
theorem wv_non {j} : WV X (.Constant .none j pos) ρ .non := fun t Φ h => we_non h
theorem wv_glob (B : Bod X N sc kk) (hm : Glb X x d) (hg : sc.names.lookup x = some .globalImplicit) (hd : (x == ("__debug__" : Str)) = false := by decide) : WV X (.Name x pos) ρ d := fun t Φ h => we_glob B hm hg h hd
theorem wv_is (h : WV X e ρ d) (q : d = d') : WV X e ρ d' := q ▸ h
theorem wv_add (ha : WV X a ρ (.int i)) (hb : WV X b ρ (.int j)) : WV X (.BinOp a .Add b pos) ρ (.int (i + j)) := fun t Φ h => we_op op_add rok_I0 (ha _ _ (hb _ _ ⟨i, j, rfl, rfl, h⟩))
theorem wv_sub (ha : WV X a ρ (.int i)) (hb : WV X b ρ (.int j)) : WV X (.BinOp a .Sub b pos) ρ (.int (i - j)) := fun t Φ h => we_op op_sub rok_I0 (ha _ _ (hb _ _ ⟨i, j, rfl, rfl, h⟩))
theorem wv_mul (ha : WV X a ρ (.int i)) (hb : WV X b ρ (.int j)) (hc : CMulW i j) : WV X (.BinOp a .Mult b pos) ρ (.int (i * j)) := fun t Φ h => we_op op_mulW rok_I (ha _ _ (hb _ _ ⟨i, j, rfl, rfl, hc, h⟩))
theorem wv_div (ha : WV X a ρ (.int i)) (hb : WV X b ρ (.int j)) (hc : CDivW i j) : WV X (.BinOp a .FloorDiv b pos) ρ (.int (i / j)) := fun t Φ h => we_op op_fdivW rok_I (ha _ _ (hb _ _ ⟨i, j, rfl, rfl, hc, h⟩))
theorem wv_divN (ha : WV X a ρ (.int i)) (hb : WV X b ρ (.int j)) (hc : CDivN i j) : WV X (.BinOp a .FloorDiv b pos) ρ (.int (i.fdiv j)) := fun t Φ h => we_op op_fdivN rok_I (ha _ _ (hb _ _ ⟨i, j, rfl, rfl, hc, h⟩))
/-- a divisor of any sign, below 2 ^ 9000 in size -/
def CDivA (_ j : Int) : Prop := j ≠ 0 ∧ j.natAbs.log2 < 9000
theorem op_fdivA : OpR X (binaryOp .FloorDiv) (rI CDivA fun i j => .int (i.fdiv j)) := opI fun i j _ _ _ _ _ hc q => floordiv_int hc.1 q (.inl (PyProof.noPylong_of_log2 hc.2))
theorem wv_divA (ha : WV X a ρ (.int i)) (hb : WV X b ρ (.int j)) (hc : CDivA i j) : WV X (.BinOp a .FloorDiv b pos) ρ (.int (i.fdiv j)) := fun t Φ h => we_op op_fdivA rok_I (ha _ _ (hb _ _ ⟨i, j, rfl, rfl, hc, h⟩))
theorem wv_mod (ha : WV X a ρ (.int i)) (hb : WV X b ρ (.int j)) (hc : 0 < j) : WV X (.BinOp a .Mod b pos) ρ (.int (i % j)) := fun t Φ h => we_op op_mod rok_I (ha _ _ (hb _ _ ⟨i, j, rfl, rfl, hc, h⟩))
theorem wv_pow (ha : WV X a ρ (.int i)) (hb : WV X b ρ (.int j)) (hc : CPow i j) : WV X (.BinOp a .Pow b pos) ρ (.int (i ^ j.toNat)) := fun t Φ h => we_op op_pow rok_I (ha _ _ (hb _ _ ⟨i, j, rfl, rfl, hc, h⟩))
theorem wv_neg (ha : WV X a ρ (.int i)) : WV X (.UnaryOp .USub a pos) ρ (.int (-i)) := fun t Φ h => we_neg (ha _ _ ⟨i, rfl, h⟩)
theorem wv_catT (ha : WV X a ρ (.tup l)) (hb : WV X b ρ (.tup m)) (h1 : l ≠ []) (h2 : m ≠ []) (hz : l.length + m.length ≤ 1000) : WV X (.BinOp a .Add b pos) ρ (.tup (l ++ m)) := fun t Φ h => we_op op_catT rok_catT (ha _ _ (hb _ _ ⟨l, m, rfl, rfl, h1, h2, hz, h⟩))
theorem wv_cat (ha : WV X a ρ (.lst l)) (hb : WV X b ρ (.lst m)) (hz : l.length + m.length ≤ 1000) : WV X (.BinOp a .Add b pos) ρ (.lst (l ++ m)) := fun t Φ h => we_op op_cat rok_cat (ha _ _ (hb _ _ ⟨l, m, rfl, rfl, hz, h⟩))
theorem wv_ixT (ha : WV X a ρ (.tup l)) (hb : WV X b ρ (.int i)) (h1 : atI l i = some d) (hs : PlainIx b := by exact fun _ _ => rfl) : WV X (.Subscript a b pos) ρ d := fun t Φ h => we_ix ix_tup rok_ixT (ha _ _ (hb _ _ ⟨l, i, d, rfl, rfl, h1, h⟩)) hs
theorem wv_ixL (ha : WV X a ρ (.lst l)) (hb : WV X b ρ (.int i)) (h1 : atI l i = some d) (hs : PlainIx b := by exact fun _ _ => rfl) : WV X (.Subscript a b pos) ρ d := fun t Φ h => we_ix ix_list rok_ixL (ha _ _ (hb _ _ ⟨l, i, d, rfl, rfl, h1, h⟩)) hs
theorem wv_slT {lo hi : Option Expr} {o1 o2 : Option Int} (ha : WV X a ρ (.tup l)) (h1 : PO X lo (tConst o1)) (h2 : PO X hi (tConst o2)) (hn : ¬ (HT.sIx l.length 0 o1 = 0 ∧ HT.sIx l.length l.length o2 = l.length)) : WV X (.Subscript a (.Slice lo hi none p2) pos) ρ (.tup (cutD l o1 o2)) :=
  fun t Φ h => we_sliceT h1 h2 (ha _ _ ⟨l, rfl, hn, h⟩)
theorem wv_slL {lo hi : Option Expr} {o1 o2 : Option Int} (ha : WV X a ρ (.lst l)) (h1 : PO X lo (tConst o1)) (h2 : PO X hi (tConst o2)) : WV X (.Subscript a (.Slice lo hi none p2) pos) ρ (.lst (cutD l o1 o2)) := fun t Φ h => we_sliceL h1 h2 (ha _ _ ⟨l, rfl, h⟩)
theorem wv_dget {kvs : List (Key × D)} {z : Str} (B : Bod X N sc kk) (ha : WV X a ρ (.dic kvs)) (hb : WV X b ρ (.str z)) (h1 : dlook kvs (.inr z) = some d) (hs : NoSl b := by exact fun _ _ => rfl) : WV X (.Subscript a b pos) ρ d := fun t Φ h => we_dget B hs (ha _ _ (hb _ _ ⟨kvs, z, d, rfl, rfl, h1, h⟩))
/-! arguments, displays -/
theorem av_nil : AV X [] ρ [] := fun t Ω h => wa_nil h
theorem av_cons (h : WV X e ρ d) (hr : AV X es ρ ds) (hs : notStar e = true := by rfl) : AV X (e :: es) ρ (d :: ds) := fun t Ω q => wa_cons (h _ _ (hr _ _ q)) hs
theorem wv_tup {n : Nat} (h : AV X es ρ ds) (hz : ds.length ≤ 1000) : WV X (.Tuple es n pos) ρ (.tup ds) := fun t Φ q => we_tup (h _ _ ⟨hz, q⟩)
theorem wv_lst (h : AV X es ρ ds) (hz : ds.length ≤ 1000) : WV X (.List es pos) ρ (.lst ds) := fun t Φ q => we_lst (h _ _ ⟨hz, q⟩)
theorem wv_call {k : Nat} {F : List D → D → Prop} (B : Bod X N sc kk) (G : Dfn X x k (det F)) (h : AV X (e :: es) ρ ds) (hF : F ds d) (hg : sc.names.lookup x = some .globalImplicit) (hk : k ≤ kk := by decide) (hdb : (x == ("__debug__" : Str)) = false := by decide)
    (he : notStar e = true := by rfl) (hpl : noStars es = true := by rfl) : WV X (.Call (.Name x p1) (e :: es) [] pos) ρ d := fun t Φ q => we_call B G hg hk (h _ _ ⟨d, hF, q⟩) hdb he hpl
theorem wv_abs (B : Bod X N sc kk) (hm : X.mg "abs" = none) (h : AV X (e :: es) ρ [.int i]) (hg : sc.names.lookup ("abs" : Str) = some .globalImplicit) (he : notStar e = true := by rfl) (hpl : noStars es = true := by rfl) : WV X (.Call (.Name "abs" p1) (e :: es) [] pos) ρ (.int (i.natAbs : Int)) := fun t Φ q =>
  we_callB B call_abs rck_abs hm (by decide +kernel) hg (h _ _ ⟨i, rfl, by
    have z : (if i < 0 then -i else i) = (i.natAbs : Int) := by split <;> omega
    rw [z]
    exact q⟩) (by decide) (by decide) he hpl
theorem wv_intb (B : Bod X N sc kk) (hm : X.mg "int" = none) (h : AV X (e :: es) ρ [.bl k]) (hg : sc.names.lookup ("int" : Str) = some .globalImplicit) (he : notStar e = true := by rfl) (hpl : noStars es = true := by rfl) : WV X (.Call (.Name "int" p1) (e :: es) [] pos) ρ (.int (if k then 1 else 0)) := fun t Φ q =>
  we_callT B call_int1 rck_int hm (by decide +kernel) hg (h _ _ ⟨k, rfl, q⟩) (by decide) (by decide) he hpl
theorem wv_max2 (B : Bod X N sc kk) (hm : X.mg "max" = none) (h : AV X (e :: es) ρ [.int i, .int j]) (hg : sc.names.lookup ("max" : Str) = some .globalImplicit) (he : notStar e = true := by rfl) (hpl : noStars es = true := by rfl) : WV X (.Call (.Name "max" p1) (e :: es) [] pos) ρ (.int (max i j)) := fun t Φ q =>
  we_callB B (call_max2 B.calm) (rck_2 (g := fun i j => if j > i then j else i)) hm (by decide +kernel) hg (h _ _ ⟨i, j, rfl, by
    have z : (if j > i then j else i) = max i j := by omega
    rw [z]
    exact q⟩) (by decide) (by decide) he hpl
theorem wv_min2 (B : Bod X N sc kk) (hm : X.mg "min" = none) (h : AV X (e :: es) ρ [.int i, .int j]) (hg : sc.names.lookup ("min" : Str) = some .globalImplicit) (he : notStar e = true := by rfl) (hpl : noStars es = true := by rfl) : WV X (.Call (.Name "min" p1) (e :: es) [] pos) ρ (.int (min i j)) := fun t Φ q =>
  we_callB B (call_min2 B.calm) (rck_2 (g := fun i j => if j < i then j else i)) hm (by decide +kernel) hg (h _ _ ⟨i, j, rfl, by
    have z : (if j < i then j else i) = min i j := by omega
    rw [z]
    exact q⟩) (by decide) (by decide) he hpl
theorem wv_list (B : Bod X N sc kk) (hm : X.mg "list" = none) (h : AV X (e :: es) ρ [.tup l]) (hg : sc.names.lookup ("list" : Str) = some .globalImplicit) (he : notStar e = true := by rfl) (hpl : noStars es = true := by rfl) : WV X (.Call (.Name "list" p1) (e :: es) [] pos) ρ (.lst l) := fun t Φ q =>
  we_callT B call_list_of rck_list hm (by decide +kernel) hg (h _ _ ⟨l, rfl, q⟩) (by decide) (by decide) he hpl
theorem wv_tuple (B : Bod X N sc kk) (hm : X.mg "tuple" = none) (h : AV X (e :: es) ρ [.lst l]) (hg : sc.names.lookup ("tuple" : Str) = some .globalImplicit) (he : notStar e = true := by rfl) (hpl : noStars es = true := by rfl) : WV X (.Call (.Name "tuple" p1) (e :: es) [] pos) ρ (.tup l) := fun t Φ q =>
  we_callT B call_tuple_of rck_tuple hm (by decide +kernel) hg (h _ _ ⟨l, rfl, q⟩) (by decide) (by decide) he hpl
/-! comparisons: as values, as tests -/
theorem wv_lt (ha : WV X a ρ (.int i)) (hb : WV X b ρ (.int j)) : WV X (.Compare a [.Lt] [b] pos) ρ (.bl (decide (i < j))) := fun t Φ h => we_cmp op_lt rok_B0 (nomark _) (ha _ _ (hb _ _ ⟨i, j, rfl, rfl, h⟩))
theorem wv_le (ha : WV X a ρ (.int i)) (hb : WV X b ρ (.int j)) : WV X (.Compare a [.LtE] [b] pos) ρ (.bl (decide (i ≤ j))) := fun t Φ h => we_cmp op_le rok_B0 (nomark _) (ha _ _ (hb _ _ ⟨i, j, rfl, rfl, h⟩))
theorem wv_gt (ha : WV X a ρ (.int i)) (hb : WV X b ρ (.int j)) : WV X (.Compare a [.Gt] [b] pos) ρ (.bl (decide (j < i))) := fun t Φ h => we_cmp op_gt rok_B0 (nomark _) (ha _ _ (hb _ _ ⟨i, j, rfl, rfl, h⟩))
theorem wv_ge (ha : WV X a ρ (.int i)) (hb : WV X b ρ (.int j)) : WV X (.Compare a [.GtE] [b] pos) ρ (.bl (decide (j ≤ i))) := fun t Φ h => we_cmp op_ge rok_B0 (nomark _) (ha _ _ (hb _ _ ⟨i, j, rfl, rfl, h⟩))
theorem wv_eq (ha : WV X a ρ d) (hb : WV X b ρ d') (hs : D.scal d d' = some k) : WV X (.Compare a [.Eq] [b] pos) ρ (.bl k) := fun t Φ h => we_cmp op_eq rok_eq (nomark _) (ha _ _ (hb _ _ ⟨k, hs, h⟩))
theorem wv_ne (ha : WV X a ρ d) (hb : WV X b ρ d') (hs : D.scal d d' = some k) : WV X (.Compare a [.NotEq] [b] pos) ρ (.bl (!k)) := fun t Φ h => we_cmp op_ne rok_ne (nomark _) (ha _ _ (hb _ _ ⟨k, hs, h⟩))
theorem wv_isN (ha : WV X a ρ d) (hb : WV X b ρ .non) : WV X (.Compare a [.Is] [b] pos) ρ (.bl d.isNon) := fun t Φ h => we_cmp op_isN rok_is (nomark _) (ha _ _ (hb _ _ ⟨rfl, h⟩))
theorem wv_notN (ha : WV X a ρ d) (hb : WV X b ρ .non) : WV X (.Compare a [.IsNot] [b] pos) ρ (.bl (!d.isNon)) := fun t Φ h => we_cmp op_notN rok_isNot (nomark _) (ha _ _ (hb _ _ ⟨rfl, h⟩))
theorem tv_lt (ha : WV X a ρ (.int i)) (hb : WV X b ρ (.int j)) : TV X (.Compare a [.Lt] [b] pos) ρ (decide (i < j)) := fun t Φ h => wt_cmp op_lt rok_B0 (nomark _) (ha _ _ (hb _ _ ⟨i, j, rfl, rfl, _, rfl, h⟩))
theorem tv_le (ha : WV X a ρ (.int i)) (hb : WV X b ρ (.int j)) : TV X (.Compare a [.LtE] [b] pos) ρ (decide (i ≤ j)) := fun t Φ h => wt_cmp op_le rok_B0 (nomark _) (ha _ _ (hb _ _ ⟨i, j, rfl, rfl, _, rfl, h⟩))
theorem tv_gt (ha : WV X a ρ (.int i)) (hb : WV X b ρ (.int j)) : TV X (.Compare a [.Gt] [b] pos) ρ (decide (j < i)) := fun t Φ h => wt_cmp op_gt rok_B0 (nomark _) (ha _ _ (hb _ _ ⟨i, j, rfl, rfl, _, rfl, h⟩))
theorem tv_ge (ha : WV X a ρ (.int i)) (hb : WV X b ρ (.int j)) : TV X (.Compare a [.GtE] [b] pos) ρ (decide (j ≤ i)) := fun t Φ h => wt_cmp op_ge rok_B0 (nomark _) (ha _ _ (hb _ _ ⟨i, j, rfl, rfl, _, rfl, h⟩))
theorem tv_eq (ha : WV X a ρ d) (hb : WV X b ρ d') (hs : D.scal d d' = some k) : TV X (.Compare a [.Eq] [b] pos) ρ k := fun t Φ h => wt_cmp op_eq rok_eq (nomark _) (ha _ _ (hb _ _ ⟨k, hs, _, rfl, h⟩))
theorem tv_ne (ha : WV X a ρ d) (hb : WV X b ρ d') (hs : D.scal d d' = some k) : TV X (.Compare a [.NotEq] [b] pos) ρ (!k) := fun t Φ h => wt_cmp op_ne rok_ne (nomark _) (ha _ _ (hb _ _ ⟨k, hs, _, rfl, h⟩))
theorem tv_isN (ha : WV X a ρ d) (hb : WV X b ρ .non) : TV X (.Compare a [.Is] [b] pos) ρ d.isNon := fun t Φ h => wt_cmp op_isN rok_is (nomark _) (ha _ _ (hb _ _ ⟨rfl, _, rfl, h⟩))
theorem tv_notN (ha : WV X a ρ d) (hb : WV X b ρ .non) : TV X (.Compare a [.IsNot] [b] pos) ρ (!d.isNon) := fun t Φ h => wt_cmp op_notN rok_isNot (nomark _) (ha _ _ (hb _ _ ⟨rfl, _, rfl, h⟩))
theorem hu64 (B : Bod X N sc kk) : X.A.units + 64 < cLine := B.room.units
theorem tv_eqD (B : Bod X N sc kk) (ha : WV X a ρ d) (hb : WV X b ρ d') (p1 : d.plain = true) (p2 : d'.plain = true) (s1 : SeqAt.shaped d.py = true) (s2 : SeqAt.shaped d'.py = true) (hk : PyData.eqv d.py d'.py = k) : TV X (.Compare a [.Eq] [b] pos) ρ k := fun t Φ h =>
  wt_cmp (op_eqD (hu64 B)) rok_eqD (nomark _) (ha _ _ (hb _ _ ⟨p1, p2, s1, s2, _, rfl, by rw [hk]; exact h⟩))
theorem tv_neD (B : Bod X N sc kk) (ha : WV X a ρ d) (hb : WV X b ρ d') (p1 : d.plain = true) (p2 : d'.plain = true) (s1 : SeqAt.shaped d.py = true) (s2 : SeqAt.shaped d'.py = true) (hk : PyData.eqv d.py d'.py = k) : TV X (.Compare a [.NotEq] [b] pos) ρ (!k) := fun t Φ h =>
  wt_cmp (op_neD (hu64 B)) rok_neD (nomark _) (ha _ _ (hb _ _ ⟨p1, p2, s1, s2, _, rfl, by rw [hk]; exact h⟩))
theorem wv_eqD (B : Bod X N sc kk) (ha : WV X a ρ d) (hb : WV X b ρ d') (p1 : d.plain = true) (p2 : d'.plain = true) (s1 : SeqAt.shaped d.py = true) (s2 : SeqAt.shaped d'.py = true) (hk : PyData.eqv d.py d'.py = k) : WV X (.Compare a [.Eq] [b] pos) ρ (.bl k) := fun t Φ h =>
  we_cmp (op_eqD (hu64 B)) rok_eqD (nomark _) (ha _ _ (hb _ _ ⟨p1, p2, s1, s2, by rw [hk]; exact h⟩))
/-! truth -/
theorem tv_val (h : WV X e ρ (.bl k)) (he : ∀ whole, isTrue e X.env whole = (do let v ← whole; standAt e.pos; holding [v] (truthy v)) := by intro _; rfl) : TV X e ρ k := fun t Ψ q => wt_val (h _ _ ⟨k, rfl, q⟩) he
theorem tv_not (h : TV X e ρ k) : TV X (.UnaryOp .Not e pos) ρ (!k) := fun t Ψ q => wt_not (h _ _ q)
theorem tv_ov (h : OV X e ρ k) : TV X e ρ k := fun t Ψ q => wt_ww (h _ _ q)
theorem ov_and1 (h : TV X a ρ k) : OV X (.BoolOp .And [a] pos) ρ k := fun t Ψ q => ww_and1 (h _ _ q)
theorem ov_or1 (h : TV X a ρ k) : OV X (.BoolOp .Or [a] pos) ρ k := fun t Ψ q => ww_or1 (h _ _ q)
theorem ov_and (h : TV X a ρ k) (h' : k = true → OV X (.BoolOp .And (b :: rest) pos) ρ k') : OV X (.BoolOp .And (a :: b :: rest) pos) ρ (k && k') := fun t Ψ q => ww_and (h _ _ ⟨fun e => h' e _ _ (by rw [e] at q; exact q), fun e => by rw [e] at q; exact q⟩)
theorem ov_or (h : TV X a ρ k) (h' : k = false → OV X (.BoolOp .Or (b :: rest) pos) ρ k') : OV X (.BoolOp .Or (a :: b :: rest) pos) ρ (k || k') := fun t Ψ q => ww_or (h _ _ ⟨fun e => by rw [e] at q; exact q, fun e => h' e _ _ (by rw [e] at q; exact q)⟩)
theorem wv_one {op : BoolOp} (h : WV X a ρ d) : WV X (.BoolOp op [a] pos) ρ d := fun t Φ q => we_one (h _ _ q)
theorem wv_and (h : WV X a ρ (.bl k)) (h' : k = true → WV X (.BoolOp .And (b :: rest) pos) ρ (.bl k')) : WV X (.BoolOp .And (a :: b :: rest) pos) ρ (.bl (k && k')) := fun t Φ q => we_and (h _ _ ⟨k, rfl, fun e => h' e _ _ (by rw [e] at q; exact q), fun e => by rw [e] at q; exact q⟩)
theorem wv_or (h : WV X a ρ (.bl k)) (h' : k = false → WV X (.BoolOp .Or (b :: rest) pos) ρ (.bl k')) : WV X (.BoolOp .Or (a :: b :: rest) pos) ρ (.bl (k || k')) := fun t Φ q => we_or (h _ _ ⟨k, rfl, fun e => by rw [e] at q; exact q, fun e => h' e _ _ (by rw [e] at q; exact q)⟩)
theorem wv_not (h : WV X a ρ (.bl k)) : WV X (.UnaryOp .Not a pos) ρ (.bl (!k)) := fun t Φ q => we_not (h _ _ ⟨k, rfl, q⟩)
theorem wv_if (hc : TV X c ρ k) (h1 : k = true → WV X a ρ d) (h2 : k = false → WV X b ρ d) : WV X (.IfExp c a b pos) ρ d := fun t Φ q => we_if (hc _ _ ⟨fun e => h1 e _ _ q, fun e => h2 e _ _ q⟩)
theorem tv_is (h : TV X e ρ k) (q : k = k') : TV X e ρ k' := q ▸ h
/-- x in (texts) -/
def isIn (z : Str) (l : List Str) : Bool := l.any fun y => decide (y = z)
theorem inV_strs (z : Str) : ∀ l : List Str, inV (.str z) (l.map V.str) = isIn z l
  | [] => rfl
  | y :: l => by
    have ih := inV_strs z l
    unfold inV isIn at ih ⊢
    rw [List.map_cons, List.any_cons, List.any_cons, ih]
    congr 1
theorem flat_strs : ∀ l : List Str, (l.map V.str).all flatV = true
  | [] => rfl
  | y :: l => by
    rw [List.map_cons, List.all_cons, flat_strs l]
    rfl
theorem RpL.strs {K : PySem.W.Frag} {H : Hp} : ∀ {l : List Str} {xs : List V}, RpL K H (l.map D.str) xs → xs = l.map V.str
  | [], _, .nil => rfl
  | n :: l, _, .cons h r => by
    cases h
    rw [List.map_cons, r.strs]
def dIn : DOp := fun x y Ψ => ∃ z l, x = .str z ∧ y = .tup (l.map D.str) ∧ Ψ (.bl (isIn z l))
theorem rok_in {K : PySem.W.Frag} : ROk K (rIn K false) dIn := fun H x y u v Ψ r1 r2 ⟨z, l, e1, e2, h⟩ Q q => by
  subst e1 e2
  cases r1
  cases r2 with
  | tup hs rl =>
    have e := rl.strs
    subst e
    refine ⟨_, _, rfl, .inr hs, rfl, flat_strs l, ?_⟩
    rw [if_neg Bool.false_ne_true, inV_strs]
    exact q _ _ H h (ExS.refl H) (fun _ z => z) (.bl _)
theorem tv_in {z : Str} {ls : List Str} (ha : WV X a ρ (.str z)) (hb : WV X b ρ (.tup (ls.map D.str))) (hk : isIn z ls = k) (hm : behindInMarks .In b = false := by rfl) : TV X (.Compare a [.In] [b] pos) ρ k := fun t Φ h =>
  wt_cmp op_in_seq rok_in hm (ha _ _ (hb _ _ ⟨z, ls, rfl, rfl, _, rfl, by rw [hk]; exact h⟩))
end
end RS
/-! part RSTop -/
namespace RS
open PySem L2
/-- the i-th statement of the given text -/
def top (i : Nat) : Stmt := PySem.Challenge.pw_roundsure_k31_whole_wider_entries_tell_w.main.body.getD i (.Pass ⟨0, 0, 0, 0⟩)
/-! ### fractions, spans, rulers, entries as data -/
def fr (q : Rat) : D := .tup [.int q.num, .int (q.den : Int)]
def sp (a b : Rat) : D := .tup [fr a, fr b]
def gr : Option Int → D
  | none => .non
  | some g => .int g
def wayS (w : Nat) : Str := if w = 0 then "near" else if w = 1 then "down" else if w = 2 then "up" else "nought"
def rul (r : Ruler) : D := .tup [.int r.B, .int r.F, .int r.L, .str (wayS r.w)]
def en (e : Ent) : D := .tup [fr e.lo, fr e.hi, fr e.tlo, fr e.thi, fr e.err, gr e.g]
/-- a size that every number met stays below -/
abbrev Big (q : Rat) : Prop := Sz 4000 q
theorem mw {i j : Int} (h : i.natAbs < 2 ^ 4000) (h' : j.natAbs < 2 ^ 4000) : CMulW i j := wide_mul h h' (by decide) (by decide) (by decide)
theorem det_len {F : List D → D → Prop} {n : Nat} (h : ∀ ds d, F ds d → ds.length = n) : ∀ ds t Φ, det F ds t Φ → ds.length = n := fun ds _ _ ⟨d, hF, _⟩ => h ds d hF
end RS
/-! part RSNum -/
namespace RS
open PySem L2
/-! ### the promises of the module numbers -/
def p_shared : Pr := det fun ds d => ∃ a b : Int, ds = [.int a, .int b] ∧ d = .int (Int.gcd a b)
def p_fraction : Pr := det fun ds d => ∃ a b : Int, ds = [.int a, .int b] ∧ b ≠ 0 ∧ b.natAbs < 2 ^ 9000 ∧ d = fr (Rat.divInt a b)
def v_GREATEST : D := .int ((10 ^ 60) ^ 10)
def p_is_great : Pr := det fun ds d => ∃ x, ds = [fr x] ∧ Sz 1990 x ∧ d = .bl false
def p_need_small : Pr := det fun ds d => ∃ x, ds = [fr x] ∧ Sz 1990 x ∧ d = fr x
def p_whole_of : Pr := det fun ds d => ∃ i : Int, ds = [.int i] ∧ d = fr (i : Rat)
def p_plus : Pr := det fun ds d => ∃ x y, ds = [fr x, fr y] ∧ Big x ∧ Big y ∧ d = fr (x + y)
def p_turned : Pr := det fun ds d => ∃ x, ds = [fr x] ∧ d = fr (-x)
def p_less : Pr := det fun ds d => ∃ x y, ds = [fr x, fr y] ∧ Big x ∧ Big y ∧ d = fr (x - y)
def p_times : Pr := det fun ds d => ∃ x y, ds = [fr x, fr y] ∧ Big x ∧ Big y ∧ d = fr (x * y)
def p_over : Pr := det fun ds d => ∃ x y, ds = [fr x, fr y] ∧ Big x ∧ Big y ∧ y ≠ 0 ∧ d = fr (x / y)
def p_size_of : Pr := det fun ds d => ∃ x : Rat, ds = [fr x] ∧ d = fr x.abs
def p_is_less : Pr := det fun ds d => ∃ x y, ds = [fr x, fr y] ∧ Big x ∧ Big y ∧ d = .bl (decide (x < y))
def p_lesser : Pr := det fun ds d => ∃ x y, ds = [fr x, fr y] ∧ Big x ∧ Big y ∧ d = fr (min x y)
def p_greater : Pr := det fun ds d => ∃ x y, ds = [fr x, fr y] ∧ Big x ∧ Big y ∧ d = fr (max x y)
def p_power : Pr := det fun ds d => ∃ (r : Ruler) (e : Int), ds = [.int r.B, .int e] ∧ r.Ok ∧ e.natAbs ≤ 900 ∧ d = fr (pw r e)
theorem sc_shared : FnScope ["one", "other"] ["one", "other"] (defScope (top 7)) := ⟨rfl, rfl, rfl, by decide +kernel, rfl, by decide +kernel, by decide +kernel⟩
theorem b_shared {X : Cx} (B : Bod X ["one", "other"] (defScope (top 7)) 0) (hsc : X.env.scope = defScope (top 7)) (m_abs : X.mg "abs" = none) : ∀ ds t Φ, p_shared ds t Φ → WB X (defBody (top 7)) (ds.map some ++ List.replicate (2 - ds.length) none) t (fun _ t' => Φ .non t') Φ := by
  rintro _ t Φ ⟨_, ⟨a, b, rfl, rfl⟩, h⟩
  refine (wb_cons (ws_set B 0 rfl (.inl rfl) ((wv_abs B m_abs (av_cons (wv_var B 0 rfl rfl (.inl rfl)) av_nil) rfl) _ _ (wb_cons (ws_set B 1 rfl (.inl rfl) ((wv_abs B m_abs (av_cons (wv_var B 1 rfl rfl (.inl rfl)) av_nil) rfl) _ _ (wb_cons ?loop1)))))))
  refine ws_while B (fun m ρ t' => t' = t ∧ ∃ o p : Int, ρ = [some (.int o), some (.int p)] ∧ 0 ≤ o ∧ 0 ≤ p ∧ Int.gcd o p = Int.gcd a b ∧ p.toNat = m) _ ⟨rfl, _, _, rfl, by omega, by omega, by simp [Int.gcd], rfl⟩ ?_
  rintro m ρ t' ⟨rfl, o, p, rfl, ho, hp, hg, rfl⟩
  refine (tv_gt (wv_var B 1 rfl rfl (.inl rfl)) wv_int) _ _ ⟨fun k => ?_, fun k => ?_⟩
  · have k := of_decide_eq_true k
    refine (wb_one (ws_par B 0 1 rfl rfl (by decide) rfl rfl hsc rfl ((wv_var B 1 rfl rfl (.inl rfl)) _ _ ((wv_mod (wv_var B 0 rfl rfl (.inl rfl)) (wv_var B 1 rfl rfl (.inl rfl)) ?r1) _ _ ?next1))))
    case r1 => exact k
    case next1 =>
      have h1 := Int.emod_nonneg o (show p ≠ 0 by omega)
      have h2 := Int.emod_lt_of_pos o k
      refine ⟨(o % p).toNat, by omega, rfl, p, o % p, rfl, by omega, h1, ?_, rfl⟩
      rw [← hg]
      obtain ⟨m, rfl⟩ : ∃ m : Nat, o = m := ⟨o.toNat, by omega⟩
      obtain ⟨n, rfl⟩ : ∃ n : Nat, p = n := ⟨p.toNat, by omega⟩
      show Nat.gcd n (m % n) = Nat.gcd m n
      rw [Nat.gcd_comm n, Nat.gcd_comm m]
      exact (Nat.gcd_rec n m).symm
  · have k := of_decide_eq_false k
    refine (wb_one (ws_ret ((wv_var B 0 rfl rfl (.inl rfl)) _ _ ?ret1)))
    case ret1 =>
      have e : p = 0 := by omega
      subst e
      have e : o = ((Int.gcd a b : Nat) : Int) := by
        rw [← hg, Int.gcd_zero_right]
        omega
      rw [e]
      exact h
theorem gcd_div {a b : Int} (hb : b ≠ 0) (hz : b.natAbs < 2 ^ 9000) {x : Int} : CDivA x (Int.gcd a b : Int) := by
  have h1 : 0 < Int.gcd a b := Int.gcd_pos_of_ne_zero_right _ hb
  have h2 : Int.gcd a b ≤ b.natAbs := Nat.gcd_le_right _ (by omega)
  exact ⟨by omega, PySem.Flt.log2_lt_of (by decide) (Nat.lt_of_le_of_lt (show ((Int.gcd a b : Nat) : Int).natAbs ≤ b.natAbs from h2) hz)⟩
theorem gcd_divN {a b : Int} (hb : b ≠ 0) (hz : b.natAbs < 2 ^ 9000) {x : Int} : CDivA x (0 - (Int.gcd a b : Int)) := by
  obtain ⟨h1, h2⟩ := gcd_div (a := a) hb hz (x := x)
  refine ⟨by omega, ?_⟩
  have e : (0 - (Int.gcd a b : Int)).natAbs = ((Int.gcd a b : Nat) : Int).natAbs := by omega
  rw [e]
  exact h2
theorem frac_pos {a b : Int} (hb : 0 < b) : D.tup [.int (a.fdiv (Int.gcd a b)), .int (b.fdiv (Int.gcd a b))] = fr (Rat.divInt a b) := by
  unfold fr
  rw [Rat.num_divInt, Rat.den_divInt, if_neg (by omega), Int.sign_eq_one_of_pos hb, Int.one_mul, Int.fdiv_eq_ediv_of_nonneg _ (by omega), Int.fdiv_eq_ediv_of_nonneg _ (by omega), Int.gcd_comm b a]
  have e : ((b.natAbs / Int.gcd a b : Nat) : Int) = b / (Int.gcd a b : Int) := by
    rw [Int.natCast_ediv]
    congr 1
    omega
  rw [e]
theorem frac_neg {a b : Int} (hb : b < 0) : D.tup [.int (a.fdiv (0 - Int.gcd a b)), .int (b.fdiv (0 - Int.gcd a b))] = fr (Rat.divInt a b) := by
  have k : ∀ x : Int, x.fdiv (0 - (Int.gcd a b : Int)) = (-x) / (Int.gcd a b : Int) := by
    intro x
    have e1 : (0 - (Int.gcd a b : Int)) = -(Int.gcd a b : Int) := by omega
    have e2 := Int.neg_fdiv_neg (a := -x) (b := (Int.gcd a b : Int))
    rw [Int.neg_neg] at e2
    rw [e1, e2, Int.fdiv_eq_ediv_of_nonneg _ (by omega)]
  unfold fr
  rw [Rat.num_divInt, Rat.den_divInt, if_neg (by omega), Int.sign_eq_neg_one_of_neg hb, k, k, Int.gcd_comm b a]
  have e : ((b.natAbs / Int.gcd a b : Nat) : Int) = -b / (Int.gcd a b : Int) := by
    rw [Int.natCast_ediv]
    congr 1
    omega
  have e3 : -1 * a = -a := by omega
  rw [e, e3]
theorem sc_fraction : FnScope ["above", "below", "part"] ["above", "below"] (defScope (top 8)) := ⟨rfl, rfl, rfl, by decide +kernel, rfl, by decide +kernel, by decide +kernel⟩
theorem b_fraction {X : Cx} (B : Bod X ["above", "below", "part"] (defScope (top 8)) 1) (hsc : X.env.scope = defScope (top 8)) (G_shared : Dfn X "shared" 1 p_shared) : ∀ ds t Φ, p_fraction ds t Φ → WB X (defBody (top 8)) (ds.map some ++ List.replicate (3 - ds.length) none) t (fun _ t' => Φ .non t') Φ := by
  rintro _ t Φ ⟨_, ⟨a, b, rfl, hb, hz, rfl⟩, h⟩
  refine (wb_cons (ws_set B 2 rfl (.inl rfl) ((wv_call B G_shared (av_cons (wv_var B 0 rfl rfl (.inl rfl)) (av_cons (wv_var B 1 rfl rfl (.inl rfl)) av_nil)) (⟨a, b, rfl, rfl⟩) rfl) _ _ (wb_cons (ws_if ((tv_lt (wv_var B 1 rfl rfl (.inl rfl)) wv_int) _ _ ⟨fun k1 => (wb_one (ws_set B 2 rfl (.inl rfl) ((wv_sub wv_int (wv_var B 2 rfl rfl (.inl rfl))) _ _ (wb_one (ws_ret ((wv_tup (av_cons (wv_divA (wv_var B 0 rfl rfl (.inl rfl)) (wv_var B 2 rfl rfl (.inl rfl)) ?q2) (av_cons (wv_divA (wv_var B 1 rfl rfl (.inl rfl)) (wv_var B 2 rfl rfl (.inl rfl)) ?q1) av_nil)) (len_le rfl)) _ _ ?ret1)))))), fun k1 => (wb_nil (wb_one (ws_ret ((wv_tup (av_cons (wv_divA (wv_var B 0 rfl rfl (.inl rfl)) (wv_var B 2 rfl rfl (.inl rfl)) ?q4) (av_cons (wv_divA (wv_var B 1 rfl rfl (.inl rfl)) (wv_var B 2 rfl rfl (.inl rfl)) ?q3) av_nil)) (len_le rfl)) _ _ ?ret2))))⟩))))))
  case q1 => exact gcd_divN hb hz
  case q2 => exact gcd_divN hb hz
  case q3 => exact gcd_div hb hz
  case q4 => exact gcd_div hb hz
  case ret1 =>
    have k := of_decide_eq_true k1
    rw [frac_neg k]
    exact h
  case ret2 =>
    have k := of_decide_eq_false k1
    rw [frac_pos (by omega)]
    exact h
theorem great_not {n : Nat} (h : n < 2 ^ 1990) : ¬ ((10 ^ 60 : Int) ^ 10 < (n : Int)) := by
  have h1 : 2 ^ 1990 ≤ (10 ^ 60) ^ 10 := by decide +kernel
  have h2 : (((10 ^ 60) ^ 10 : Nat) : Int) = (10 ^ 60 : Int) ^ 10 := by decide +kernel
  have h3 : n < (10 ^ 60) ^ 10 := Nat.lt_of_lt_of_le h h1
  rw [← h2]
  exact fun z => by
    have := Int.ofNat_lt.mp z
    exact absurd this (Nat.lt_asymm h3)
theorem sc_is_great : FnScope ["number"] ["number"] (defScope (top 9)) := ⟨rfl, rfl, rfl, by decide +kernel, rfl, by decide +kernel, by decide +kernel⟩
theorem b_is_great {X : Cx} (B : Bod X ["number"] (defScope (top 9)) 0) (hsc : X.env.scope = defScope (top 9)) (m_abs : X.mg "abs" = none) (g_GREATEST : Glb X "GREATEST" v_GREATEST) : ∀ ds t Φ, p_is_great ds t Φ → WB X (defBody (top 9)) (ds.map some ++ List.replicate (1 - ds.length) none) t (fun _ t' => Φ .non t') Φ := by
  rintro _ t Φ ⟨_, ⟨x, rfl, hx, rfl⟩, h⟩
  refine (wb_one (ws_ret ((wv_or (wv_gt (wv_abs B m_abs (av_cons (wv_ixT (wv_var B 0 rfl rfl (.inl rfl)) wv_int rfl) av_nil) rfl) (wv_glob B g_GREATEST rfl)) fun _ => (wv_one (wv_gt (wv_ixT (wv_var B 0 rfl rfl (.inl rfl)) wv_int rfl) (wv_glob B g_GREATEST rfl)))) _ _ ?ret1)))
  case ret1 =>
    rw [decide_eq_false (great_not hx.1), decide_eq_false (great_not hx.2)]
    exact h
theorem sc_need_small : FnScope ["number"] ["number"] (defScope (top 10)) := ⟨rfl, rfl, rfl, by decide +kernel, rfl, by decide +kernel, by decide +kernel⟩
theorem b_need_small {X : Cx} (B : Bod X ["number"] (defScope (top 10)) 1) (hsc : X.env.scope = defScope (top 10)) (G_is_great : Dfn X "is_great" 1 p_is_great) : ∀ ds t Φ, p_need_small ds t Φ → WB X (defBody (top 10)) (ds.map some ++ List.replicate (1 - ds.length) none) t (fun _ t' => Φ .non t') Φ := by
  rintro _ t Φ ⟨_, ⟨x, rfl, hx, rfl⟩, h⟩
  refine (wb_cons (ws_if ((tv_val (wv_call B G_is_great (av_cons (wv_var B 0 rfl rfl (.inl rfl)) av_nil) (⟨x, rfl, hx, rfl⟩) rfl)) _ _ ⟨fun k1 => (wb_never ?raise1), fun k1 => (wb_nil (wb_one (ws_ret ((wv_var B 0 rfl rfl (.inl rfl)) _ _ ?ret1))))⟩)))
  case raise1 => cases k1
  case ret1 => exact h
theorem sc_whole_of : FnScope ["number"] ["number"] (defScope (top 11)) := ⟨rfl, rfl, rfl, by decide +kernel, rfl, by decide +kernel, by decide +kernel⟩
theorem b_whole_of {X : Cx} (B : Bod X ["number"] (defScope (top 11)) 0) (hsc : X.env.scope = defScope (top 11)) : ∀ ds t Φ, p_whole_of ds t Φ → WB X (defBody (top 11)) (ds.map some ++ List.replicate (1 - ds.length) none) t (fun _ t' => Φ .non t') Φ := by
  rintro _ t Φ ⟨_, ⟨i, rfl, rfl⟩, h⟩
  refine (wb_one (ws_ret ((wv_tup (av_cons (wv_var B 0 rfl rfl (.inl rfl)) (av_cons wv_int av_nil)) (len_le rfl)) _ _ ?ret1)))
  case ret1 => exact h
theorem big_dd {x y : Rat} (hx : Big x) (hy : Big y) : ((x.den : Int) * (y.den : Int)).natAbs < 2 ^ 9000 := by
  have := pow_mul_lt hx.2 hy.2
  rw [Int.natAbs_mul]
  exact Nat.lt_of_lt_of_le this (Nat.pow_le_pow_right (by decide) (by decide))
theorem dd_ne (x y : Rat) : (x.den : Int) * (y.den : Int) ≠ 0 := Int.mul_ne_zero (by have := x.den_pos; omega) (by have := y.den_pos; omega)
theorem divInt_dd (n : Int) (x y : Rat) : Rat.divInt n ((x.den : Int) * (y.den : Int)) = mkRat n (x.den * y.den) := by
  rw [← Int.natCast_mul, Rat.divInt_ofNat]
theorem sc_plus : FnScope ["one", "other"] ["one", "other"] (defScope (top 12)) := ⟨rfl, rfl, rfl, by decide +kernel, rfl, by decide +kernel, by decide +kernel⟩
theorem b_plus {X : Cx} (B : Bod X ["one", "other"] (defScope (top 12)) 2) (hsc : X.env.scope = defScope (top 12)) (G_fraction : Dfn X "fraction" 2 p_fraction) : ∀ ds t Φ, p_plus ds t Φ → WB X (defBody (top 12)) (ds.map some ++ List.replicate (2 - ds.length) none) t (fun _ t' => Φ .non t') Φ := by
  rintro _ t Φ ⟨_, ⟨x, y, rfl, hx, hy, rfl⟩, h⟩
  refine (wb_one (ws_ret ((wv_call B G_fraction (av_cons (wv_add (wv_mul (wv_ixT (wv_var B 0 rfl rfl (.inl rfl)) wv_int rfl) (wv_ixT (wv_var B 1 rfl rfl (.inl rfl)) wv_int rfl) ?m2) (wv_mul (wv_ixT (wv_var B 1 rfl rfl (.inl rfl)) wv_int rfl) (wv_ixT (wv_var B 0 rfl rfl (.inl rfl)) wv_int rfl) ?m3)) (av_cons (wv_mul (wv_ixT (wv_var B 0 rfl rfl (.inl rfl)) wv_int rfl) (wv_ixT (wv_var B 1 rfl rfl (.inl rfl)) wv_int rfl) ?m1) av_nil)) (⟨_, _, rfl, dd_ne x y, big_dd hx hy, rfl⟩) rfl) _ _ ?ret1)))
  case m1 => exact mw hx.2 hy.2
  case m2 => exact mw hx.1 hy.2
  case m3 => exact mw hy.1 hx.2
  case ret1 =>
    rw [divInt_dd, ← Rat.add_def']
    exact h
theorem fr_turned (x : Rat) : D.tup [.int (0 - x.num), .int (x.den : Int)] = fr (-x) := by
  unfold fr
  rw [Rat.neg_num, Rat.neg_den, Int.zero_sub]
theorem sc_turned : FnScope ["one"] ["one"] (defScope (top 13)) := ⟨rfl, rfl, rfl, by decide +kernel, rfl, by decide +kernel, by decide +kernel⟩
theorem b_turned {X : Cx} (B : Bod X ["one"] (defScope (top 13)) 0) (hsc : X.env.scope = defScope (top 13)) : ∀ ds t Φ, p_turned ds t Φ → WB X (defBody (top 13)) (ds.map some ++ List.replicate (1 - ds.length) none) t (fun _ t' => Φ .non t') Φ := by
  rintro _ t Φ ⟨_, ⟨x, rfl, rfl⟩, h⟩
  refine (wb_one (ws_ret ((wv_tup (av_cons (wv_sub wv_int (wv_ixT (wv_var B 0 rfl rfl (.inl rfl)) wv_int rfl)) (av_cons (wv_ixT (wv_var B 0 rfl rfl (.inl rfl)) wv_int rfl) av_nil)) (len_le rfl)) _ _ ?ret1)))
  case ret1 =>
    rw [fr_turned]
    exact h
theorem sc_less : FnScope ["one", "other"] ["one", "other"] (defScope (top 14)) := ⟨rfl, rfl, rfl, by decide +kernel, rfl, by decide +kernel, by decide +kernel⟩
theorem b_less {X : Cx} (B : Bod X ["one", "other"] (defScope (top 14)) 3) (hsc : X.env.scope = defScope (top 14)) (G_plus : Dfn X "plus" 3 p_plus) (G_turned : Dfn X "turned" 1 p_turned) : ∀ ds t Φ, p_less ds t Φ → WB X (defBody (top 14)) (ds.map some ++ List.replicate (2 - ds.length) none) t (fun _ t' => Φ .non t') Φ := by
  rintro _ t Φ ⟨_, ⟨x, y, rfl, hx, hy, rfl⟩, h⟩
  refine (wb_one (ws_ret ((wv_call B G_plus (av_cons (wv_var B 0 rfl rfl (.inl rfl)) (av_cons (wv_call B G_turned (av_cons (wv_var B 1 rfl rfl (.inl rfl)) av_nil) (⟨y, rfl, rfl⟩) rfl) av_nil)) (⟨x, -y, rfl, hx, hy.neg, rfl⟩) rfl) _ _ ?ret1)))
  case ret1 =>
    rw [← Rat.sub_eq_add_neg]
    exact h
theorem sc_times : FnScope ["one", "other"] ["one", "other"] (defScope (top 15)) := ⟨rfl, rfl, rfl, by decide +kernel, rfl, by decide +kernel, by decide +kernel⟩
theorem b_times {X : Cx} (B : Bod X ["one", "other"] (defScope (top 15)) 2) (hsc : X.env.scope = defScope (top 15)) (G_fraction : Dfn X "fraction" 2 p_fraction) : ∀ ds t Φ, p_times ds t Φ → WB X (defBody (top 15)) (ds.map some ++ List.replicate (2 - ds.length) none) t (fun _ t' => Φ .non t') Φ := by
  rintro _ t Φ ⟨_, ⟨x, y, rfl, hx, hy, rfl⟩, h⟩
  refine (wb_one (ws_ret ((wv_call B G_fraction (av_cons (wv_mul (wv_ixT (wv_var B 0 rfl rfl (.inl rfl)) wv_int rfl) (wv_ixT (wv_var B 1 rfl rfl (.inl rfl)) wv_int rfl) ?m2) (av_cons (wv_mul (wv_ixT (wv_var B 0 rfl rfl (.inl rfl)) wv_int rfl) (wv_ixT (wv_var B 1 rfl rfl (.inl rfl)) wv_int rfl) ?m1) av_nil)) (⟨_, _, rfl, dd_ne x y, big_dd hx hy, rfl⟩) rfl) _ _ ?ret1)))
  case m1 => exact mw hx.2 hy.2
  case m2 => exact mw hx.1 hy.1
  case ret1 =>
    rw [divInt_dd, ← Rat.mul_def']
    exact h
theorem div_def' (x y : Rat) : Rat.divInt (x.num * (y.den : Int)) ((x.den : Int) * y.num) = x / y := by
  rw [Rat.div_def, Rat.inv_def]
  have h := Rat.divInt_mul_divInt x.num (y.den : Int) (d₁ := (x.den : Int)) (d₂ := y.num)
  rw [← h, Rat.num_divInt_den]
theorem sc_over : FnScope ["one", "other"] ["one", "other"] (defScope (top 16)) := ⟨rfl, rfl, rfl, by decide +kernel, rfl, by decide +kernel, by decide +kernel⟩
theorem b_over {X : Cx} (B : Bod X ["one", "other"] (defScope (top 16)) 2) (hsc : X.env.scope = defScope (top 16)) (G_fraction : Dfn X "fraction" 2 p_fraction) : ∀ ds t Φ, p_over ds t Φ → WB X (defBody (top 16)) (ds.map some ++ List.replicate (2 - ds.length) none) t (fun _ t' => Φ .non t') Φ := by
  rintro _ t Φ ⟨_, ⟨x, y, rfl, hx, hy, h0, rfl⟩, h⟩
  have hn : y.num ≠ 0 := fun z => h0 (Rat.num_eq_zero.mp z)
  have hz : ((x.den : Int) * y.num).natAbs < 2 ^ 9000 := by
    rw [Int.natAbs_mul]
    exact Nat.lt_of_lt_of_le (pow_mul_lt hx.2 hy.1) (Nat.pow_le_pow_right (by decide) (by decide))
  have hd : (x.den : Int) * y.num ≠ 0 := Int.mul_ne_zero (by have := x.den_pos; omega) hn
  refine (wb_one (ws_ret ((wv_call B G_fraction (av_cons (wv_mul (wv_ixT (wv_var B 0 rfl rfl (.inl rfl)) wv_int rfl) (wv_ixT (wv_var B 1 rfl rfl (.inl rfl)) wv_int rfl) ?m2) (av_cons (wv_mul (wv_ixT (wv_var B 0 rfl rfl (.inl rfl)) wv_int rfl) (wv_ixT (wv_var B 1 rfl rfl (.inl rfl)) wv_int rfl) ?m1) av_nil)) (⟨_, _, rfl, hd, hz, rfl⟩) rfl) _ _ ?ret1)))
  case m1 => exact mw hx.2 hy.1
  case m2 => exact mw hx.1 hy.2
  case ret1 =>
    rw [div_def']
    exact h
theorem fr_abs (x : Rat) : D.tup [.int (x.num.natAbs : Int), .int (x.den : Int)] = fr x.abs := by
  unfold fr
  rw [abs_eq]
  by_cases h : 0 ≤ x
  · rw [if_pos h]
    have := Rat.num_nonneg.mpr h
    have e : (x.num.natAbs : Int) = x.num := by omega
    rw [e]
  · rw [if_neg h, Rat.neg_num, Rat.neg_den]
    have : ¬ 0 ≤ x.num := fun z => h (Rat.num_nonneg.mp z)
    have e : (x.num.natAbs : Int) = -x.num := by omega
    rw [e]
theorem sc_size_of : FnScope ["one"] ["one"] (defScope (top 17)) := ⟨rfl, rfl, rfl, by decide +kernel, rfl, by decide +kernel, by decide +kernel⟩
theorem b_size_of {X : Cx} (B : Bod X ["one"] (defScope (top 17)) 0) (hsc : X.env.scope = defScope (top 17)) (m_abs : X.mg "abs" = none) : ∀ ds t Φ, p_size_of ds t Φ → WB X (defBody (top 17)) (ds.map some ++ List.replicate (1 - ds.length) none) t (fun _ t' => Φ .non t') Φ := by
  rintro _ t Φ ⟨_, ⟨x, rfl, rfl⟩, h⟩
  refine (wb_one (ws_ret ((wv_tup (av_cons (wv_abs B m_abs (av_cons (wv_ixT (wv_var B 0 rfl rfl (.inl rfl)) wv_int rfl) av_nil) rfl) (av_cons (wv_ixT (wv_var B 0 rfl rfl (.inl rfl)) wv_int rfl) av_nil)) (len_le rfl)) _ _ ?ret1)))
  case ret1 =>
    rw [fr_abs]
    exact h
theorem sc_is_less : FnScope ["one", "other"] ["one", "other"] (defScope (top 18)) := ⟨rfl, rfl, rfl, by decide +kernel, rfl, by decide +kernel, by decide +kernel⟩
theorem b_is_less {X : Cx} (B : Bod X ["one", "other"] (defScope (top 18)) 0) (hsc : X.env.scope = defScope (top 18)) : ∀ ds t Φ, p_is_less ds t Φ → WB X (defBody (top 18)) (ds.map some ++ List.replicate (2 - ds.length) none) t (fun _ t' => Φ .non t') Φ := by
  rintro _ t Φ ⟨_, ⟨x, y, rfl, hx, hy, rfl⟩, h⟩
  refine (wb_one (ws_ret ((wv_lt (wv_mul (wv_ixT (wv_var B 0 rfl rfl (.inl rfl)) wv_int rfl) (wv_ixT (wv_var B 1 rfl rfl (.inl rfl)) wv_int rfl) ?m1) (wv_mul (wv_ixT (wv_var B 1 rfl rfl (.inl rfl)) wv_int rfl) (wv_ixT (wv_var B 0 rfl rfl (.inl rfl)) wv_int rfl) ?m2)) _ _ ?ret1)))
  case m1 => exact mw hx.1 hy.2
  case m2 => exact mw hy.1 hx.2
  case ret1 =>
    have e : decide (x.num * (y.den : Int) < y.num * (x.den : Int)) = decide (x < y) := by
      rw [decide_eq_decide]
      exact (Rat.lt_iff x y).symm
    rw [e]
    exact h
theorem fr_min1 {x y : Rat} (h : decide (y < x) = true) : fr y = fr (min x y) := by
  have h := of_decide_eq_true h
  congr 1
  grind
theorem fr_min2 {x y : Rat} (h : decide (y < x) = false) : fr x = fr (min x y) := by
  have h := of_decide_eq_false h
  congr 1
  grind
theorem fr_max1 {x y : Rat} (h : decide (x < y) = true) : fr y = fr (max x y) := by
  have h := of_decide_eq_true h
  congr 1
  grind
theorem fr_max2 {x y : Rat} (h : decide (x < y) = false) : fr x = fr (max x y) := by
  have h := of_decide_eq_false h
  congr 1
  grind
theorem sc_lesser : FnScope ["one", "other"] ["one", "other"] (defScope (top 19)) := ⟨rfl, rfl, rfl, by decide +kernel, rfl, by decide +kernel, by decide +kernel⟩
theorem b_lesser {X : Cx} (B : Bod X ["one", "other"] (defScope (top 19)) 1) (hsc : X.env.scope = defScope (top 19)) (G_is_less : Dfn X "is_less" 1 p_is_less) : ∀ ds t Φ, p_lesser ds t Φ → WB X (defBody (top 19)) (ds.map some ++ List.replicate (2 - ds.length) none) t (fun _ t' => Φ .non t') Φ := by
  rintro _ t Φ ⟨_, ⟨x, y, rfl, hx, hy, rfl⟩, h⟩
  refine (wb_one (ws_ret ((wv_if (tv_val (wv_call B G_is_less (av_cons (wv_var B 1 rfl rfl (.inl rfl)) (av_cons (wv_var B 0 rfl rfl (.inl rfl)) av_nil)) (⟨y, x, rfl, hy, hx, rfl⟩) rfl)) (fun k1 => wv_is (wv_var B 1 rfl rfl (.inl rfl)) (fr_min1 k1)) (fun k1 => wv_is (wv_var B 0 rfl rfl (.inl rfl)) (fr_min2 k1))) _ _ ?ret1)))
  case ret1 => exact h
theorem sc_greater : FnScope ["one", "other"] ["one", "other"] (defScope (top 20)) := ⟨rfl, rfl, rfl, by decide +kernel, rfl, by decide +kernel, by decide +kernel⟩
theorem b_greater {X : Cx} (B : Bod X ["one", "other"] (defScope (top 20)) 1) (hsc : X.env.scope = defScope (top 20)) (G_is_less : Dfn X "is_less" 1 p_is_less) : ∀ ds t Φ, p_greater ds t Φ → WB X (defBody (top 20)) (ds.map some ++ List.replicate (2 - ds.length) none) t (fun _ t' => Φ .non t') Φ := by
  rintro _ t Φ ⟨_, ⟨x, y, rfl, hx, hy, rfl⟩, h⟩
  refine (wb_one (ws_ret ((wv_if (tv_val (wv_call B G_is_less (av_cons (wv_var B 0 rfl rfl (.inl rfl)) (av_cons (wv_var B 1 rfl rfl (.inl rfl)) av_nil)) (⟨x, y, rfl, hx, hy, rfl⟩) rfl)) (fun k1 => wv_is (wv_var B 1 rfl rfl (.inl rfl)) (fr_max1 k1)) (fun k1 => wv_is (wv_var B 0 rfl rfl (.inl rfl)) (fr_max2 k1))) _ _ ?ret1)))
  case ret1 => exact h
end RS
/-! part RSPow -/
namespace RS
open PySem L2
theorem fr_pw {r : Ruler} (h : r.Ok) {e : Int} {n : Nat} (hn : e.natAbs = n) : (0 ≤ e → D.tup [.int (r.B ^ n), .int 1] = fr (pw r e)) ∧ (¬ 0 ≤ e → D.tup [.int 1, .int (r.B ^ n)] = fr (pw r e)) := by
  refine ⟨fun h0 => ?_, fun h0 => ?_⟩
  · have e1 : e = (n : Int) := by omega
    rw [e1, pw_nat]
    rfl
  · have e1 : e = -(n : Int) := by omega
    have e2 : pw r e = (((r.B ^ n : Int)) : Rat)⁻¹ := by
      rw [e1]
      unfold pw
      rw [Rat.zpow_neg]
      have : (r.B : Rat) ^ (n : Int) = pw r (n : Int) := rfl
      rw [this, pw_nat]
    have hp : 0 < r.B ^ n := Int.pow_pos (by have := h.b1; omega)
    rw [e2]
    unfold fr
    rw [Rat.num_inv, Rat.den_inv, Rat.num_intCast, Rat.den_intCast, if_neg (by omega), Int.sign_eq_one_of_pos hp]
    have e3 : ((r.B ^ n).natAbs : Int) = r.B ^ n := by omega
    rw [e3]
    rfl
theorem pow_bound {b n : Nat} (hb : b ≤ 16) (hn : n ≤ 900) : b ^ n < 2 ^ 4000 := by
  have h1 : b ^ n ≤ 16 ^ n := Nat.pow_le_pow_left hb n
  have h2 : 16 ^ n ≤ 16 ^ 900 := Nat.pow_le_pow_right (by decide) hn
  have h3 : (16 : Nat) ^ 900 = 2 ^ 3600 := by
    rw [show (16 : Nat) = 2 ^ 4 from rfl, ← Nat.pow_mul]
  have h4 : 2 ^ 3600 < 2 ^ 4000 := Nat.pow_lt_pow_right (by decide) (by decide)
  omega
/-- one turn of the squaring -/
theorem pow_turn {f s l c : Nat} (h : f * s ^ l = c) : (if l % 2 = 1 then f * s else f) * (if 0 < l / 2 then s * s else s) ^ (l / 2) = c := by
  have hl : l = l / 2 + l / 2 + l % 2 := by omega
  rw [← h]
  by_cases h2 : 0 < l / 2
  · rw [if_pos h2, Nat.mul_pow]
    by_cases h1 : l % 2 = 1
    · rw [if_pos h1]
      conv => rhs; rw [hl, h1, Nat.pow_add, Nat.pow_add, Nat.pow_one]
      rw [Nat.mul_assoc, Nat.mul_comm s]
    · rw [if_neg h1]
      have h0 : l % 2 = 0 := by omega
      conv => rhs; rw [hl, h0, Nat.add_zero, Nat.pow_add]
  · have h3 : l / 2 = 0 := by omega
    rw [h3]
    by_cases h1 : l % 2 = 1
    · have : l = 1 := by omega
      rw [if_pos h1, this]
      simp
    · have : l = 0 := by omega
      rw [if_neg h1, this]
      simp
theorem pow_le_of {f s l c : Nat} (h : f * s ^ l = c) (hf : 1 ≤ f) (hs : 1 ≤ s) (hl : 0 < l) : f ≤ c ∧ s ≤ c := by
  have h1 : 1 ≤ s ^ l := Nat.pow_pos hs
  have h2 : s ≤ s ^ l := by
    have := Nat.pow_le_pow_right hs (show 1 ≤ l from hl)
    rw [Nat.pow_one] at this
    exact this
  have h3 := Nat.mul_le_mul hf (Nat.le_refl (s ^ l))
  have h4 := Nat.mul_le_mul (Nat.le_refl f) h1
  omega
theorem half (l : Nat) : ((l : Int)).fdiv 2 = ((l / 2 : Nat) : Int) := by
  rw [Int.fdiv_eq_ediv_of_nonneg _ (by decide)]
  rfl
theorem cdiv2 {x : Int} : CDivA x 2 := ⟨by decide, by decide⟩
theorem sc_power : FnScope ["base", "exponent", "found", "square", "left"] ["base", "exponent"] (defScope (top 21)) := ⟨rfl, rfl, rfl, by decide +kernel, rfl, by decide +kernel, by decide +kernel⟩
theorem b_power {X : Cx} (B : Bod X ["base", "exponent", "found", "square", "left"] (defScope (top 21)) 0) (hsc : X.env.scope = defScope (top 21)) (m_abs : X.mg "abs" = none) : ∀ ds t Φ, p_power ds t Φ → WB X (defBody (top 21)) (ds.map some ++ List.replicate (5 - ds.length) none) t (fun _ t' => Φ .non t') Φ := by
  rintro _ t Φ ⟨_, ⟨r, e, rfl, hr, he, rfl⟩, h⟩
  obtain ⟨b, hb⟩ : ∃ b : Nat, r.B = b := ⟨r.B.toNat, by have := hr.b1; omega⟩
  have b1 : 2 ≤ b := by have := hr.b1; omega
  have b2 : b ≤ 16 := by have := hr.b2; omega
  have hlim := pow_bound b2 he
  rw [hb]
  refine (wb_cons (ws_set B 2 rfl (.inl rfl) (wv_int _ _ (wb_cons (ws_set B 3 rfl (.inl rfl) ((wv_var B 0 rfl rfl (.inl rfl)) _ _ (wb_cons (ws_set B 4 rfl (.inl rfl) ((wv_abs B m_abs (av_cons (wv_var B 1 rfl rfl (.inl rfl)) av_nil) rfl) _ _ (wb_cons ?loop1))))))))))
  case loop1 =>
    refine ws_while B (fun m ρ t' => t' = t ∧ ∃ f s : Nat, ρ = [some (.int b), some (.int e), some (.int (f : Int)), some (.int (s : Int)), some (.int (m : Int))] ∧ f * s ^ m = b ^ e.natAbs ∧ 1 ≤ f ∧ 1 ≤ s) e.natAbs ⟨rfl, 1, b, rfl, by rw [Nat.one_mul], Nat.le_refl _, by omega⟩ ?_
    rintro m ρ t' ⟨rfl, f, s, rfl, hfs, hf, hs⟩
    refine (tv_gt (wv_var B 4 rfl rfl (.inl rfl)) wv_int) _ _ ⟨fun k => ?_, fun k => ?_⟩
    · have k := of_decide_eq_true k
      have hm : 0 < m := by omega
      have hbd := pow_le_of hfs hf hs hm
      have zf : ((f : Int)).natAbs < 2 ^ 4000 := Nat.lt_of_le_of_lt hbd.1 hlim
      have zs : ((s : Int)).natAbs < 2 ^ 4000 := Nat.lt_of_le_of_lt hbd.2 hlim
      have ht := pow_turn hfs
      have hm2 := half m
      have go : ∀ f' s' : Nat, f' * s' ^ (m / 2) = b ^ e.natAbs → 1 ≤ f' → 1 ≤ s' → ∃ m', m' < m ∧ t' = t' ∧ ∃ f2 s2 : Nat, ([some (.int b), some (.int e), some (.int (f' : Int)), some (.int (s' : Int)), some (.int ((m : Int).fdiv 2))] : Env') = [some (.int b), some (.int e), some (.int (f2 : Int)), some (.int (s2 : Int)), some (.int (m' : Int))] ∧ f2 * s2 ^ m' = b ^ e.natAbs ∧ 1 ≤ f2 ∧ 1 ≤ s2 := by
        intro f' s' q1 q2 q3
        exact ⟨m / 2, by omega, rfl, f', s', by rw [hm2], q1, q2, q3⟩
      have hss : 1 ≤ (if 0 < m / 2 then s * s else s) := by split <;> first | exact hs | exact Nat.mul_pos hs hs
      have sq1 : decide (0 < (m : Int).fdiv 2) = true → D.int ((s : Int) * s) = D.int (((if 0 < m / 2 then s * s else s : Nat)) : Int) := fun z => by
        have z := of_decide_eq_true z
        rw [hm2] at z
        rw [if_pos (by omega), Int.natCast_mul]
      have sq2 : decide (0 < (m : Int).fdiv 2) = false → D.int (s : Int) = D.int (((if 0 < m / 2 then s * s else s : Nat)) : Int) := fun z => by
        have z := of_decide_eq_false z
        rw [hm2] at z
        rw [if_neg (by omega)]
      refine (wb_cons (ws_if ((tv_eq (wv_mod (wv_var B 4 rfl rfl (.inl rfl)) wv_int (by decide)) wv_int rfl) _ _ ⟨fun k1 => (wb_one (ws_set B 2 rfl (.inl rfl) ((wv_mul (wv_var B 2 rfl rfl (.inl rfl)) (wv_var B 3 rfl rfl (.inl rfl)) (mw zf zs)) _ _ (wb_cons (ws_set B 4 rfl (.inl rfl) ((wv_divA (wv_var B 4 rfl rfl (.inl rfl)) wv_int (cdiv2)) _ _ (wb_one (ws_set B 3 rfl (.inl rfl) ((wv_if (tv_gt (wv_var B 4 rfl rfl (.inl rfl)) wv_int) (fun k2 => wv_is (wv_mul (wv_var B 3 rfl rfl (.inl rfl)) (wv_var B 3 rfl rfl (.inl rfl)) (mw zs zs)) (sq1 k2)) (fun k2 => wv_is (wv_var B 3 rfl rfl (.inl rfl)) (sq2 k2))) _ _ ?next1))))))))), fun k1 => (wb_nil (wb_cons (ws_set B 4 rfl (.inl rfl) ((wv_divA (wv_var B 4 rfl rfl (.inl rfl)) wv_int (cdiv2)) _ _ (wb_one (ws_set B 3 rfl (.inl rfl) ((wv_if (tv_gt (wv_var B 4 rfl rfl (.inl rfl)) wv_int) (fun k3 => wv_is (wv_mul (wv_var B 3 rfl rfl (.inl rfl)) (wv_var B 3 rfl rfl (.inl rfl)) (mw zs zs)) (sq1 k3)) (fun k3 => wv_is (wv_var B 3 rfl rfl (.inl rfl)) (sq2 k3))) _ _ ?next2)))))))⟩)))
      case next1 =>
        have k1 := of_decide_eq_true k1
        have q := go (f * s) (if 0 < m / 2 then s * s else s) (by rw [if_pos (by omega)] at ht; exact ht) (Nat.mul_pos hf hs) hss
        rw [Int.natCast_mul] at q
        exact q
      case next2 =>
        have k1 := of_decide_eq_false k1
        exact go f (if 0 < m / 2 then s * s else s) (by rw [if_neg (by omega)] at ht; exact ht) hf hss
    · have k := of_decide_eq_false k
      have hm : m = 0 := by omega
      subst hm
      have ef : (f : Int) = r.B ^ e.natAbs := by
        rw [hb, ← Int.natCast_pow]
        have : f = b ^ e.natAbs := by simpa using hfs
        omega
      rw [ef]
      have q := fr_pw hr (e := e) rfl
      refine (wb_one (ws_ret ((wv_if (tv_ge (wv_var B 1 rfl rfl (.inl rfl)) wv_int) (fun k4 => wv_is (wv_tup (av_cons (wv_var B 2 rfl rfl (.inl rfl)) (av_cons wv_int av_nil)) (len_le rfl)) (q.1 (of_decide_eq_true k4))) (fun k4 => wv_is (wv_tup (av_cons wv_int (av_cons (wv_var B 2 rfl rfl (.inl rfl)) av_nil)) (len_le rfl)) (q.2 (of_decide_eq_false k4)))) _ _ ?ret1)))
      case ret1 => exact h
end RS
/-! part RSRul -/
namespace RS
open PySem L2
/-! ### the promises of the module rulers -/
def p_is_enough : Pr := det fun ds d => ∃ (r : Ruler) (x : Rat) (p : Int), ds = [rul r, fr x, .int p] ∧ r.Ok ∧ Big x ∧ (p + r.F).natAbs ≤ 900 ∧ d = .bl (decide (x < pw r (p + r.F)))
def p_place_of : Pr := det fun ds d => ∃ (r : Ruler) (x : Rat), ds = [rul r, fr x] ∧ r.Ok ∧ Sz 350 x ∧ d = .int (placeOf r x)
def p_step_of : Pr := det fun ds d => ∃ (r : Ruler) (x : Rat), ds = [rul r, fr x] ∧ r.Ok ∧ Sz 350 x ∧ d = fr (step r x)
def p_whole_by : Pr := det fun ds d => ∃ (w : Nat) (q : Rat), ds = [.str (wayS w), .int q.num, .int (q.den : Int)] ∧ w ≤ 3 ∧ Big q ∧ d = .int (whole w q)
def p_rounded : Pr := det fun ds d => ∃ (r : Ruler) (x : Rat), ds = [rul r, fr x] ∧ r.Ok ∧ Sz 350 x ∧ d = fr (rnd r x)
def p_off_of : Pr := det fun ds d => ∃ (r : Ruler) (x : Rat), ds = [rul r, fr x] ∧ r.Ok ∧ Sz 350 x ∧ d = fr (off r x)
def p_is_multiple : Pr := det fun ds d => ∃ (r : Ruler) (x : Rat) (g : Int) (b : Bool), ds = [rul r, fr x, .int g] ∧ r.Ok ∧ Big x ∧ g.natAbs ≤ 900 ∧ (b = true ↔ Mul r x g) ∧ d = .bl b
theorem small1k {i : Int} (h : i.natAbs ≤ 1000) : i.natAbs < 2 ^ 4000 := Nat.lt_of_le_of_lt h (Nat.lt_of_lt_of_le (show 1000 < 2 ^ 10 by decide) (Nat.pow_le_pow_right (by decide) (by decide)))
theorem big_pw {r : Ruler} (h : r.Ok) {e : Int} (he : e.natAbs ≤ 900) : Big (pw r e) := (Sz.pw h he).le (by decide)
theorem sc_is_enough : FnScope ["ruler", "size", "place"] ["ruler", "size", "place"] (defScope (top 23)) := ⟨rfl, rfl, rfl, by decide +kernel, rfl, by decide +kernel, by decide +kernel⟩
theorem b_is_enough {X : Cx} (B : Bod X ["ruler", "size", "place"] (defScope (top 23)) 1) (hsc : X.env.scope = defScope (top 23)) (G_is_less : Dfn X "is_less" 1 p_is_less) (G_power : Dfn X "power" 1 p_power) : ∀ ds t Φ, p_is_enough ds t Φ → WB X (defBody (top 23)) (ds.map some ++ List.replicate (3 - ds.length) none) t (fun _ t' => Φ .non t') Φ := by
  rintro _ t Φ ⟨_, ⟨r, x, p, rfl, hr, hx, hp, rfl⟩, h⟩
  refine (wb_one (ws_ret ((wv_call B G_is_less (av_cons (wv_var B 1 rfl rfl (.inl rfl)) (av_cons (wv_call B G_power (av_cons (wv_ixT (wv_var B 0 rfl rfl (.inl rfl)) wv_int rfl) (av_cons (wv_add (wv_var B 2 rfl rfl (.inl rfl)) (wv_ixT (wv_var B 0 rfl rfl (.inl rfl)) wv_int rfl)) av_nil)) (⟨r, _, rfl, hr, hp, rfl⟩) rfl) av_nil)) (⟨x, _, rfl, hx, big_pw hr hp, rfl⟩) rfl) _ _ ?ret1)))
  case ret1 => exact h
/-- enough by the steps of a place -/
theorem enough_iff {r : Ruler} (h : r.Ok) {x : Rat} {p : Int} (hp : r.L ≤ p) : x.abs < pw r (p + r.F) ↔ placeOf r x ≤ p := by
  obtain ⟨h1, h2, h3⟩ := placeOf_is h x
  constructor
  · intro hx
    rcases h3 with h3 | h3
    · omega
    · have := pw_lt_of h (r := r) (a := placeOf r x - 1 + r.F) (b := p + r.F) (by grind)
      omega
  · intro hle
    have := pw_mono h (show placeOf r x + r.F ≤ p + r.F by omega)
    grind
theorem sc_place_of : FnScope ["ruler", "number", "size", "low", "far", "high", "middle"] ["ruler", "number"] (defScope (top 24)) := ⟨rfl, rfl, rfl, by decide +kernel, rfl, by decide +kernel, by decide +kernel⟩
theorem b_place_of {X : Cx} (B : Bod X ["ruler", "number", "size", "low", "far", "high", "middle"] (defScope (top 24)) 2) (hsc : X.env.scope = defScope (top 24)) (G_size_of : Dfn X "size_of" 1 p_size_of) (G_is_enough : Dfn X "is_enough" 2 p_is_enough) : ∀ ds t Φ, p_place_of ds t Φ → WB X (defBody (top 24)) (ds.map some ++ List.replicate (7 - ds.length) none) t (fun _ t' => Φ .non t') Φ := by
  rintro _ t Φ ⟨_, ⟨r, x, rfl, hr, hx, rfl⟩, h⟩
  have l1 := hr.l1; have l2 := hr.l2; have f1 := hr.f1; have f2 := hr.f2
  have hle : placeOf r x ≤ 366 := placeOf_le hr hx.abs_lt
  have hlow := placeOf_low hr x
  have big : Big x.abs := hx.abs.le (by decide)
  refine (wb_cons (ws_set B 2 rfl (.inl rfl) ((wv_call B G_size_of (av_cons (wv_var B 1 rfl rfl (.inl rfl)) av_nil) (⟨x, rfl, rfl⟩) rfl) _ _ (wb_cons (ws_set B 3 rfl (.inl rfl) ((wv_ixT (wv_var B 0 rfl rfl (.inl rfl)) wv_int rfl) _ _ (wb_cons (ws_if ((tv_val (wv_call B G_is_enough (av_cons (wv_var B 0 rfl rfl (.inl rfl)) (av_cons (wv_var B 2 rfl rfl (.inl rfl)) (av_cons (wv_var B 3 rfl rfl (.inl rfl)) av_nil))) (⟨r, _, _, rfl, hr, big, by omega, rfl⟩) rfl)) _ _ ⟨fun k1 => (wb_one (ws_ret ((wv_var B 3 rfl rfl (.inl rfl)) _ _ ?ret1))), fun k1 => (wb_nil (wb_cons (ws_set B 4 rfl (.inl rfl) (wv_int _ _ (wb_cons ?loop1)))))⟩)))))))))
  case ret1 =>
    have k := (enough_iff hr (Int.le_refl _)).mp (of_decide_eq_true k1)
    have e : placeOf r x = r.L := by omega
    rw [e] at h
    exact h
  case loop1 =>
    have k := of_decide_eq_false k1
    rw [enough_iff hr (Int.le_refl _)] at k
    refine ws_while B (fun m ρ t' => t' = t ∧ ∃ far : Int, ρ = [some (rul r), some (fr x), some (fr x.abs), some (.int r.L), some (.int far), none, none] ∧ 1 ≤ far ∧ r.L + far / 2 < placeOf r x ∧ (placeOf r x - r.L - far).toNat = m) _ ⟨rfl, 1, rfl, by omega, by omega, rfl⟩ ?_
    rintro m ρ t' ⟨rfl, far, rfl, hf, hp, hm⟩
    refine (tv_not (tv_val (wv_call B G_is_enough (av_cons (wv_var B 0 rfl rfl (.inl rfl)) (av_cons (wv_var B 2 rfl rfl (.inl rfl)) (av_cons (wv_add (wv_var B 3 rfl rfl (.inl rfl)) (wv_var B 4 rfl rfl (.inl rfl))) av_nil))) (⟨r, _, _, rfl, hr, big, by omega, rfl⟩) rfl))) _ _ ⟨fun k => ?_, fun k => ?_⟩
    · have k : decide (x.abs < pw r (r.L + far + r.F)) = false := by simpa using k
      have k := of_decide_eq_false k
      rw [enough_iff hr (by omega)] at k
      refine (wb_one (ws_set B 4 rfl (.inl rfl) ((wv_mul (wv_var B 4 rfl rfl (.inl rfl)) wv_int ?m1) _ _ ?next1)))
      case m1 => exact mw (small1k (by omega)) (by decide)
      case next1 => exact ⟨(placeOf r x - r.L - far * 2).toNat, by omega, rfl, far * 2, rfl, by omega, by omega, rfl⟩
    · have k : decide (x.abs < pw r (r.L + far + r.F)) = true := by simpa using k
      have k := of_decide_eq_true k
      rw [enough_iff hr (by omega)] at k
      refine (wb_cons (ws_set B 5 rfl (.inl rfl) ((wv_add (wv_var B 3 rfl rfl (.inl rfl)) (wv_var B 4 rfl rfl (.inl rfl))) _ _ (wb_cons (ws_set B 3 rfl (.inl rfl) ((wv_add (wv_var B 3 rfl rfl (.inl rfl)) (wv_divA (wv_var B 4 rfl rfl (.inl rfl)) wv_int ?q1)) _ _ (wb_cons ?loop2)))))))
      case q1 => exact cdiv2
      case loop2 =>
        have hq : far.fdiv 2 = far / 2 := Int.fdiv_eq_ediv_of_nonneg _ (by decide)
        refine ws_while B (fun m ρ t2 => t2 = t' ∧ ∃ (low high : Int) (md : Option D), ρ = [some (rul r), some (fr x), some (fr x.abs), some (.int low), some (.int far), some (.int high), md] ∧ r.L ≤ low ∧ low < placeOf r x ∧ placeOf r x ≤ high ∧ high ≤ 800 ∧ (high - low).toNat = m) _ ⟨rfl, r.L + far.fdiv 2, r.L + far, none, rfl, by omega, by omega, by omega, by omega, rfl⟩ ?_
        rintro m2 ρ t2 ⟨rfl, low, high, md, rfl, hl1, hl2, hh, hb, hm2⟩
        refine (tv_gt (wv_sub (wv_var B 5 rfl rfl (.inl rfl)) (wv_var B 3 rfl rfl (.inl rfl))) wv_int) _ _ ⟨fun k2 => ?_, fun k2 => ?_⟩
        · have k2 := of_decide_eq_true k2
          have hq2 : (low + high).fdiv 2 = (low + high) / 2 := Int.fdiv_eq_ediv_of_nonneg _ (by decide)
          refine (wb_cons (ws_set B 6 rfl (.inl rfl) ((wv_divA (wv_add (wv_var B 3 rfl rfl (.inl rfl)) (wv_var B 5 rfl rfl (.inl rfl))) wv_int (cdiv2)) _ _ (wb_one (ws_if ((tv_val (wv_call B G_is_enough (av_cons (wv_var B 0 rfl rfl (.inl rfl)) (av_cons (wv_var B 2 rfl rfl (.inl rfl)) (av_cons (wv_var B 6 rfl rfl (.inl rfl)) av_nil))) (⟨r, _, _, rfl, hr, big, by omega, rfl⟩) rfl)) _ _ ⟨fun k2 => (wb_one (ws_set B 5 rfl (.inl rfl) ((wv_var B 6 rfl rfl (.inl rfl)) _ _ ?next2))), fun k2 => (wb_one (ws_set B 3 rfl (.inl rfl) ((wv_var B 6 rfl rfl (.inl rfl)) _ _ ?next3)))⟩))))))
          case next2 =>
            have k3 := of_decide_eq_true k2
            rw [enough_iff hr (by omega)] at k3
            exact ⟨((low + high).fdiv 2 - low).toNat, by omega, rfl, low, (low + high).fdiv 2, _, rfl, hl1, hl2, k3, by omega, rfl⟩
          case next3 =>
            have k3 := of_decide_eq_false k2
            rw [enough_iff hr (by omega)] at k3
            exact ⟨(high - (low + high).fdiv 2).toNat, by omega, rfl, (low + high).fdiv 2, high, _, rfl, by omega, by omega, hh, hb, rfl⟩
        · have k2 := of_decide_eq_false k2
          refine (wb_one (ws_ret ((wv_var B 5 rfl rfl (.inl rfl)) _ _ ?ret2)))
          case ret2 =>
            have e : placeOf r x = high := by omega
            rw [e] at h
            exact h
theorem sc_step_of : FnScope ["ruler", "number"] ["ruler", "number"] (defScope (top 25)) := ⟨rfl, rfl, rfl, by decide +kernel, rfl, by decide +kernel, by decide +kernel⟩
theorem b_step_of {X : Cx} (B : Bod X ["ruler", "number"] (defScope (top 25)) 3) (hsc : X.env.scope = defScope (top 25)) (G_power : Dfn X "power" 1 p_power) (G_place_of : Dfn X "place_of" 3 p_place_of) : ∀ ds t Φ, p_step_of ds t Φ → WB X (defBody (top 25)) (ds.map some ++ List.replicate (2 - ds.length) none) t (fun _ t' => Φ .non t') Φ := by
  rintro _ t Φ ⟨_, ⟨r, x, rfl, hr, hx, rfl⟩, h⟩
  have hle : placeOf r x ≤ 366 := placeOf_le hr hx.abs_lt
  have hlow := placeOf_low hr x
  have l1 := hr.l1
  refine (wb_one (ws_ret ((wv_call B G_power (av_cons (wv_ixT (wv_var B 0 rfl rfl (.inl rfl)) wv_int rfl) (av_cons (wv_call B G_place_of (av_cons (wv_var B 0 rfl rfl (.inl rfl)) (av_cons (wv_var B 1 rfl rfl (.inl rfl)) av_nil)) (⟨r, x, rfl, hr, hx, rfl⟩) rfl) av_nil)) (⟨r, _, rfl, hr, by omega, rfl⟩) rfl) _ _ ?ret1)))
  case ret1 => exact h
end RS
/-! part RSRul2 -/
namespace RS
open PySem L2
/-! ### whole_by: floor, rest -/
theorem floor_eq (q : Rat) : q.num.fdiv (q.den : Int) = q.floor := by
  rw [Int.fdiv_eq_ediv_of_nonneg _ (by omega), Rat.floor_def]
theorem rest_eq (q : Rat) : (((q.num % (q.den : Int) : Int)) : Rat) = (q - (q.floor : Rat)) * (q.den : Rat) := by
  have h1 := num_den q
  have h2 : q.num % (q.den : Int) = q.num - (q.den : Int) * q.floor := by
    rw [Rat.floor_def, Int.emod_def]
  rw [h2, Rat.intCast_sub, Rat.intCast_mul, ← h1, Rat.intCast_natCast]
  grind
theorem den_posR (q : Rat) : (0 : Rat) < (q.den : Rat) := by
  have := Rat.natCast_lt_natCast.mpr (show 0 < q.den from q.den_pos)
  exact this
theorem rest_gt (q : Rat) : decide ((q.den : Int) < q.num % (q.den : Int) * 2) = decide (1 < 2 * (q - (q.floor : Rat))) := by
  rw [decide_eq_decide, ← Rat.intCast_lt_intCast, Rat.intCast_mul, rest_eq, Rat.intCast_natCast]
  have hd := den_posR q
  have e : (q - (q.floor : Rat)) * (q.den : Rat) * ((2 : Int) : Rat) = (2 * (q - (q.floor : Rat))) * (q.den : Rat) := by
    have : ((2 : Int) : Rat) = 2 := rfl
    rw [this]
    grind
  rw [e]
  have := Rat.mul_lt_mul_right (a := 1) (b := 2 * (q - (q.floor : Rat))) hd
  rw [Rat.one_mul] at this
  exact this
theorem rest_two (q : Rat) : decide (q.num % (q.den : Int) * 2 = (q.den : Int)) = decide (2 * (q - (q.floor : Rat)) = 1) := by
  rw [decide_eq_decide, ← Rat.intCast_inj, Rat.intCast_mul, rest_eq, Rat.intCast_natCast]
  have hd := den_posR q
  have e : (q - (q.floor : Rat)) * (q.den : Rat) * ((2 : Int) : Rat) = (2 * (q - (q.floor : Rat))) * (q.den : Rat) := by
    have : ((2 : Int) : Rat) = 2 := rfl
    rw [this]
    grind
  rw [e]
  constructor
  · intro h
    have h2 : (2 * (q - (q.floor : Rat)) - 1) * (q.den : Rat) = 0 := by grind
    rcases Rat.mul_eq_zero.mp h2 with z | z <;> grind
  · intro h
    rw [h, Rat.one_mul]
theorem rest_pos (q : Rat) : decide (0 < q.num % (q.den : Int)) = decide ((q.floor : Rat) < q) := by
  rw [decide_eq_decide, ← Rat.intCast_lt_intCast, rest_eq]
  have hd := den_posR q
  have e : ((0 : Int) : Rat) = 0 := rfl
  rw [e]
  have := Rat.mul_pos_iff_of_pos_right (a := q - (q.floor : Rat)) hd
  rw [this]
  constructor <;> intro h <;> grind
theorem num_negD (q : Rat) : decide (q.num < 0) = decide (q < 0) := by
  rw [decide_eq_decide]
  have := Rat.num_nonneg (q := q)
  constructor
  · intro h
    have : ¬ 0 ≤ q := fun z => by have := this.mpr z; omega
    grind
  · intro h
    have : ¬ 0 ≤ q.num := fun z => by have := this.mp z; grind
    omega
theorem way_near {w : Nat} (h : w ≤ 3) : decide (wayS w = "near") = decide (w = 0) := by
  have : w = 0 ∨ w = 1 ∨ w = 2 ∨ w = 3 := by omega
  rcases this with rfl | rfl | rfl | rfl <;> decide +kernel
theorem way_nought {w : Nat} (h : w ≤ 3) : decide (wayS w = "nought") = decide (w = 3) := by
  have : w = 0 ∨ w = 1 ∨ w = 2 ∨ w = 3 := by omega
  rcases this with rfl | rfl | rfl | rfl <;> decide +kernel
theorem way_up {w : Nat} (h : w ≤ 3) : decide (wayS w = "up") = decide (w = 2) := by
  have : w = 0 ∨ w = 1 ∨ w = 2 ∨ w = 3 := by omega
  rcases this with rfl | rfl | rfl | rfl <;> decide +kernel
theorem sc_whole_by : FnScope ["way", "above", "below", "found", "rest", "is_up"] ["way", "above", "below"] (defScope (top 26)) := ⟨rfl, rfl, rfl, by decide +kernel, rfl, by decide +kernel, by decide +kernel⟩
theorem b_whole_by {X : Cx} (B : Bod X ["way", "above", "below", "found", "rest", "is_up"] (defScope (top 26)) 0) (hsc : X.env.scope = defScope (top 26)) (m_int : X.mg "int" = none) : ∀ ds t Φ, p_whole_by ds t Φ → WB X (defBody (top 26)) (ds.map some ++ List.replicate (6 - ds.length) none) t (fun _ t' => Φ .non t') Φ := by
  rintro _ t Φ ⟨_, ⟨w, q, rfl, hw, hq, rfl⟩, h⟩
  have hd := q.den_pos
  have hr : (q.num % (q.den : Int)).natAbs < 2 ^ 4000 := by
    have h1 := Int.emod_nonneg q.num (show (q.den : Int) ≠ 0 by omega)
    have h2 := Int.emod_lt_of_pos q.num (show (0 : Int) < (q.den : Int) by omega)
    have h3 := hq.2
    omega
  have hdiv : CDivA q.num (q.den : Int) := ⟨by omega, PySem.Flt.log2_lt_of (by decide) (Nat.lt_of_lt_of_le hq.2 (Nat.pow_le_pow_right (by decide) (by decide)))⟩
  refine (wb_cons (ws_set B 3 rfl (.inl rfl) ((wv_divA (wv_var B 1 rfl rfl (.inl rfl)) (wv_var B 2 rfl rfl (.inl rfl)) ?q1) _ _ (wb_cons (ws_set B 4 rfl (.inl rfl) ((wv_mod (wv_var B 1 rfl rfl (.inl rfl)) (wv_var B 2 rfl rfl (.inl rfl)) ?r1) _ _ (wb_cons (ws_if ((tv_eq (wv_var B 0 rfl rfl (.inl rfl)) wv_str rfl) _ _ ⟨fun k1 => (wb_one (ws_set B 5 rfl (.inl rfl) ((wv_or (wv_gt (wv_mul (wv_var B 4 rfl rfl (.inl rfl)) wv_int ?m2) (wv_var B 2 rfl rfl (.inl rfl))) fun _ => (wv_one (wv_and (wv_eq (wv_mul (wv_var B 4 rfl rfl (.inl rfl)) wv_int ?m1) (wv_var B 2 rfl rfl (.inl rfl)) rfl) fun _ => (wv_one (wv_eq (wv_mod (wv_var B 3 rfl rfl (.inl rfl)) wv_int ?r2) wv_int rfl))))) _ _ (wb_one (ws_ret ((wv_add (wv_var B 3 rfl rfl (.inl rfl)) (wv_intb B m_int (av_cons (wv_var B 5 rfl rfl (.inl rfl)) av_nil) rfl)) _ _ ?ret1)))))), fun k1 => (wb_one (ws_if ((tv_eq (wv_var B 0 rfl rfl (.inl rfl)) wv_str rfl) _ _ ⟨fun k2 => (wb_one (ws_set B 5 rfl (.inl rfl) ((wv_and (wv_lt (wv_var B 1 rfl rfl (.inl rfl)) wv_int) fun _ => (wv_one (wv_gt (wv_var B 4 rfl rfl (.inl rfl)) wv_int))) _ _ (wb_one (ws_ret ((wv_add (wv_var B 3 rfl rfl (.inl rfl)) (wv_intb B m_int (av_cons (wv_var B 5 rfl rfl (.inl rfl)) av_nil) rfl)) _ _ ?ret2)))))), fun k2 => (wb_one (ws_set B 5 rfl (.inl rfl) ((wv_and (wv_eq (wv_var B 0 rfl rfl (.inl rfl)) wv_str rfl) fun _ => (wv_one (wv_gt (wv_var B 4 rfl rfl (.inl rfl)) wv_int))) _ _ (wb_one (ws_ret ((wv_add (wv_var B 3 rfl rfl (.inl rfl)) (wv_intb B m_int (av_cons (wv_var B 5 rfl rfl (.inl rfl)) av_nil) rfl)) _ _ ?ret3))))))⟩)))⟩)))))))))
  case q1 => exact hdiv
  case r1 => exact show (0 : Int) < (q.den : Int) by omega
  case r2 => decide
  case m1 => exact mw hr (by decide)
  case m2 => exact mw hr (by decide)
  case ret1 =>
    rw [way_near hw] at k1
    have k := of_decide_eq_true k1
    rw [floor_eq, rest_gt, rest_two]
    have e : whole w q = q.floor + if isUp w q then 1 else 0 := rfl
    rw [e] at h
    unfold isUp at h
    rw [if_pos k] at h
    exact h
  case ret2 =>
    rw [way_near hw] at k1
    have k := of_decide_eq_false k1
    rw [way_nought hw] at k2
    have k2 := of_decide_eq_true k2
    rw [floor_eq, rest_pos, num_negD]
    have e : whole w q = q.floor + if isUp w q then 1 else 0 := rfl
    rw [e] at h
    unfold isUp at h
    rw [if_neg k, if_pos k2] at h
    exact h
  case ret3 =>
    rw [way_near hw] at k1
    have k := of_decide_eq_false k1
    rw [way_nought hw] at k2
    have k2 := of_decide_eq_false k2
    rw [floor_eq, rest_pos, way_up hw]
    have e : whole w q = q.floor + if isUp w q then 1 else 0 := rfl
    rw [e] at h
    unfold isUp at h
    rw [if_neg k, if_neg k2] at h
    by_cases k3 : w = 2
    · rw [if_pos k3] at h
      rw [decide_eq_true k3, Bool.true_and]
      exact h
    · rw [if_neg k3] at h
      rw [decide_eq_false k3, Bool.false_and]
      exact h
theorem Sz.le_big {n : Nat} {x : Rat} (h : Sz n x) (hn : n ≤ 4000) : Big x := h.le hn
theorem whole_size {w n : Nat} {q : Rat} (h : Sz n q) : (whole w q).natAbs < 2 ^ (n + 1) := by
  have h1 := whole_floor (w := w) (q := q)
  have h2 := whole_succ (w := w) (q := q)
  have h3 : q.floor.natAbs ≤ q.num.natAbs := by
    rw [Rat.floor_def]
    exact Int.natAbs_ediv_le_natAbs _ _
  have h4 := h.1
  have h5 : 2 ^ (n + 1) = 2 * 2 ^ n := by rw [Nat.pow_succ, Nat.mul_comm]
  omega
theorem sc_rounded : FnScope ["ruler", "number", "step", "turns"] ["ruler", "number"] (defScope (top 27)) := ⟨rfl, rfl, rfl, by decide +kernel, rfl, by decide +kernel, by decide +kernel⟩
theorem b_rounded {X : Cx} (B : Bod X ["ruler", "number", "step", "turns"] (defScope (top 27)) 4) (hsc : X.env.scope = defScope (top 27)) (G_step_of : Dfn X "step_of" 4 p_step_of) (G_over : Dfn X "over" 3 p_over) (G_times : Dfn X "times" 3 p_times) (G_whole_of : Dfn X "whole_of" 1 p_whole_of) (G_whole_by : Dfn X "whole_by" 1 p_whole_by) : ∀ ds t Φ, p_rounded ds t Φ → WB X (defBody (top 27)) (ds.map some ++ List.replicate (4 - ds.length) none) t (fun _ t' => Φ .non t') Φ := by
  rintro _ t Φ ⟨_, ⟨r, x, rfl, hr, hx, rfl⟩, h⟩
  have hs := hx.step hr
  have hq := hx.div hs
  have hw : Sz 790 ((whole r.w (x / step r x) : Int) : Rat) := (Sz.int (whole_size hq) (by decide)).le (by decide)
  have hp := step_pos hr x
  refine (wb_cons (ws_set B 2 rfl (.inl rfl) ((wv_call B G_step_of (av_cons (wv_var B 0 rfl rfl (.inl rfl)) (av_cons (wv_var B 1 rfl rfl (.inl rfl)) av_nil)) (⟨r, x, rfl, hr, hx, rfl⟩) rfl) _ _ (wb_cons (ws_set B 3 rfl (.inl rfl) ((wv_call B G_over (av_cons (wv_var B 1 rfl rfl (.inl rfl)) (av_cons (wv_var B 2 rfl rfl (.inl rfl)) av_nil)) (⟨x, _, rfl, hx.le_big (by decide), hs.le_big (by decide), by grind, rfl⟩) rfl) _ _ (wb_one (ws_ret ((wv_call B G_times (av_cons (wv_call B G_whole_of (av_cons (wv_call B G_whole_by (av_cons (wv_ixT (wv_var B 0 rfl rfl (.inl rfl)) wv_int rfl) (av_cons (wv_ixT (wv_var B 3 rfl rfl (.inl rfl)) wv_int rfl) (av_cons (wv_ixT (wv_var B 3 rfl rfl (.inl rfl)) wv_int rfl) av_nil))) (⟨r.w, _, rfl, hr.w3, hq.le_big (by decide), rfl⟩) rfl) av_nil) (⟨_, rfl, rfl⟩) rfl) (av_cons (wv_var B 2 rfl rfl (.inl rfl)) av_nil)) (⟨_, _, rfl, hw.le_big (by decide), hs.le_big (by decide), rfl⟩) rfl) _ _ ?ret1)))))))))
  case ret1 => exact h
theorem sc_off_of : FnScope ["ruler", "number"] ["ruler", "number"] (defScope (top 28)) := ⟨rfl, rfl, rfl, by decide +kernel, rfl, by decide +kernel, by decide +kernel⟩
theorem b_off_of {X : Cx} (B : Bod X ["ruler", "number"] (defScope (top 28)) 5) (hsc : X.env.scope = defScope (top 28)) (G_size_of : Dfn X "size_of" 1 p_size_of) (G_less : Dfn X "less" 4 p_less) (G_rounded : Dfn X "rounded" 5 p_rounded) : ∀ ds t Φ, p_off_of ds t Φ → WB X (defBody (top 28)) (ds.map some ++ List.replicate (2 - ds.length) none) t (fun _ t' => Φ .non t') Φ := by
  rintro _ t Φ ⟨_, ⟨r, x, rfl, hr, hx, rfl⟩, h⟩
  refine (wb_one (ws_ret ((wv_call B G_size_of (av_cons (wv_call B G_less (av_cons (wv_call B G_rounded (av_cons (wv_var B 0 rfl rfl (.inl rfl)) (av_cons (wv_var B 1 rfl rfl (.inl rfl)) av_nil)) (⟨r, x, rfl, hr, hx, rfl⟩) rfl) (av_cons (wv_var B 1 rfl rfl (.inl rfl)) av_nil)) (⟨_, _, rfl, (hx.rnd hr).le_big (by decide), hx.le_big (by decide), rfl⟩) rfl) av_nil) (⟨_, rfl, rfl⟩) rfl) _ _ ?ret1)))
  case ret1 => exact h
theorem den_one {x : Rat} : x.den = 1 ↔ ∃ n : Int, x = (n : Rat) := by
  constructor
  · intro h
    refine ⟨x.num, ?_⟩
    apply Rat.ext
    · rfl
    · rw [h]; rfl
  · rintro ⟨n, rfl⟩
    rfl
theorem mul_den {r : Ruler} (h : r.Ok) {x : Rat} {g : Int} : (x / pw r g).den = 1 ↔ Mul r x g := by
  rw [den_one]
  constructor
  · rintro ⟨n, hn⟩
    exact ⟨n, by rw [← hn, div_pw h]⟩
  · rintro ⟨n, rfl⟩
    exact ⟨n, Rat.mul_div_cancel (by have := pw_pos h g; grind)⟩
theorem sc_is_multiple : FnScope ["ruler", "number", "grain"] ["ruler", "number", "grain"] (defScope (top 29)) := ⟨rfl, rfl, rfl, by decide +kernel, rfl, by decide +kernel, by decide +kernel⟩
theorem b_is_multiple {X : Cx} (B : Bod X ["ruler", "number", "grain"] (defScope (top 29)) 3) (hsc : X.env.scope = defScope (top 29)) (G_over : Dfn X "over" 3 p_over) (G_power : Dfn X "power" 1 p_power) : ∀ ds t Φ, p_is_multiple ds t Φ → WB X (defBody (top 29)) (ds.map some ++ List.replicate (3 - ds.length) none) t (fun _ t' => Φ .non t') Φ := by
  rintro _ t Φ ⟨_, ⟨r, x, g, b, rfl, hr, hx, hg, hb, rfl⟩, h⟩
  have hp := pw_pos hr g
  refine (wb_one (ws_ret ((wv_eq (wv_ixT (wv_call B G_over (av_cons (wv_var B 1 rfl rfl (.inl rfl)) (av_cons (wv_call B G_power (av_cons (wv_ixT (wv_var B 0 rfl rfl (.inl rfl)) wv_int rfl) (av_cons (wv_var B 2 rfl rfl (.inl rfl)) av_nil)) (⟨r, g, rfl, hr, hg, rfl⟩) rfl) av_nil)) (⟨x, _, rfl, hx, big_pw hr hg, by grind, rfl⟩) rfl) wv_int rfl) wv_int rfl) _ _ ?ret1)))
  case ret1 =>
    have e : decide (((x / pw r g).den : Int) = 1) = b := by
      have h1 := mul_den hr (x := x) (g := g)
      cases b with
      | true =>
        have := h1.mpr (hb.mp rfl)
        rw [decide_eq_true_eq]
        omega
      | false =>
        rw [decide_eq_false_iff_not]
        intro z
        have := hb.mpr (h1.mp (by omega))
        cases this
    rw [e]
    exact h
end RS
/-! part RSSpan -/
namespace RS
open PySem L2
/-! ### the promises of the module spans -/
abbrev Mid (q : Rat) : Prop := Sz 1500 q
theorem Sz.big15 {q : Rat} (h : Mid q) : Big q := h.le (by decide)
def v_NOUGHT : D := fr 0
def p_span_of : Pr := det fun ds d => ∃ a b c e, ds = [.lst [fr a, fr b, fr c, fr e]] ∧ Big a ∧ Big b ∧ Big c ∧ Big e ∧ d = sp (lo4 a b c e) (hi4 a b c e)
def p_has : Pr := det fun ds d => ∃ a b x, ds = [sp a b, fr x] ∧ Big a ∧ Big b ∧ Big x ∧ d = .bl (decide (a ≤ x ∧ x ≤ b))
def p_hull : Pr := det fun ds d => ∃ a b c e, ds = [sp a b, sp c e] ∧ Big a ∧ Big b ∧ Big c ∧ Big e ∧ d = sp (min a c) (max b e)
def p_plus_spans : Pr := det fun ds d => ∃ a b c e, ds = [sp a b, sp c e] ∧ Big a ∧ Big b ∧ Big c ∧ Big e ∧ d = sp (a + c) (b + e)
def p_turned_span : Pr := det fun ds d => ∃ a b, ds = [sp a b] ∧ d = sp (-b) (-a)
def p_less_spans : Pr := det fun ds d => ∃ a b c e, ds = [sp a b, sp c e] ∧ Big a ∧ Big b ∧ Big c ∧ Big e ∧ d = sp (a + -e) (b + -c)
def p_times_spans : Pr := det fun ds d => ∃ a b c e, ds = [sp a b, sp c e] ∧ Mid a ∧ Mid b ∧ Mid c ∧ Mid e ∧ d = sp (mulLo a b c e) (mulHi a b c e)
def p_over_spans : Pr := det fun ds d => ∃ a b c e, ds = [sp a b, sp c e] ∧ Mid a ∧ Mid b ∧ Mid c ∧ Mid e ∧ c ≤ e ∧ ¬ (c ≤ 0 ∧ 0 ≤ e) ∧ d = sp (divLo a b c e) (divHi a b c e)
def p_great_size : Pr := det fun ds d => ∃ a b, ds = [sp a b] ∧ Big a ∧ Big b ∧ d = fr (greatSize a b)
def p_small_size : Pr := det fun ds d => ∃ a b, ds = [sp a b] ∧ Big a ∧ Big b ∧ d = fr (smallSize a b)
def p_size_span : Pr := det fun ds d => ∃ a b, ds = [sp a b] ∧ Big a ∧ Big b ∧ d = sp (smallSize a b) (greatSize a b)
def p_least_span : Pr := det fun ds d => ∃ a b c e, ds = [sp a b, sp c e] ∧ Big a ∧ Big b ∧ Big c ∧ Big e ∧ d = sp (min a c) (min b e)
def p_most_span : Pr := det fun ds d => ∃ a b c e, ds = [sp a b, sp c e] ∧ Big a ∧ Big b ∧ Big c ∧ Big e ∧ d = sp (max a c) (max b e)
def p_apart : Pr := det fun ds d => ∃ a b c e, ds = [sp a b, sp c e] ∧ Mid a ∧ Mid b ∧ Mid c ∧ Mid e ∧ d = fr (apart a b c e)
theorem fold_big {f : Rat → Rat → Rat} (hf : ∀ x y, Big x → Big y → Big (f x y)) : ∀ (l : List Rat) (a : Rat), Big a → (∀ x ∈ l, Big x) → Big (l.foldl f a)
  | [], a, h, _ => h
  | x :: l, a, h, hl => fold_big hf l (f a x) (hf a x h (hl x List.mem_cons_self)) fun y hy => hl y (List.mem_cons_of_mem _ hy)
theorem foldl_take {f : Rat → Rat → Rat} {l : List Rat} {j : Nat} {x a : Rat} (h : l[j]? = some x) : (l.take (j + 1)).foldl f a = f ((l.take j).foldl f a) x := by
  rw [List.take_add_one, h]
  simp [List.foldl_append]
theorem fr_inj_at {l : List Rat} {j : Nat} {d : D} (h : (l.map fr)[j]? = some d) : ∃ x, l[j]? = some x ∧ d = fr x := by
  rw [List.getElem?_map] at h
  cases e : l[j]? with
  | none => rw [e] at h; cases h
  | some x => rw [e] at h; exact ⟨x, rfl, (Option.some.inj h).symm⟩
theorem sc_span_of : FnScope ["some", "number", "low", "high"] ["some"] (defScope (top 31)) := ⟨rfl, rfl, rfl, by decide +kernel, rfl, by decide +kernel, by decide +kernel⟩
theorem b_span_of {X : Cx} (B : Bod X ["some", "number", "low", "high"] (defScope (top 31)) 2) (hsc : X.env.scope = defScope (top 31)) (G_lesser : Dfn X "lesser" 2 p_lesser) (G_greater : Dfn X "greater" 2 p_greater) : ∀ ds t Φ, p_span_of ds t Φ → WB X (defBody (top 31)) (ds.map some ++ List.replicate (4 - ds.length) none) t (fun _ t' => Φ .non t') Φ := by
  rintro _ t Φ ⟨_, ⟨a, b, c, e, rfl, ha, hb, hc, he, rfl⟩, h⟩
  refine (wb_cons (ws_par B 2 3 rfl rfl (by decide) rfl rfl hsc rfl ((wv_ixL (wv_var B 0 rfl rfl (.inl rfl)) wv_int rfl) _ _ ((wv_ixL (wv_var B 0 rfl rfl (.inl rfl)) wv_int rfl) _ _ (wb_cons ?loop1)))))
  case loop1 =>
    have hall : ∀ x ∈ [a, b, c, e], Big x := by
      intro x hx
      simp only [List.mem_cons, List.not_mem_nil, or_false] at hx
      rcases hx with rfl | rfl | rfl | rfl <;> assumption
    have htake : ∀ (j : Nat), ∀ x ∈ [a, b, c, e].take j, Big x := fun j x hx => hall x (List.mem_of_mem_take hx)
    refine ws_forL B 1 rfl (.inl rfl) (fun j ρ t' => t' = t ∧ ∃ md, ρ = [some (.lst [fr a, fr b, fr c, fr e]), md, some (fr (([a, b, c, e].take j).foldl min a)), some (fr (([a, b, c, e].take j).foldl max a))]) ?_
    refine (wv_var B 0 rfl rfl (.inl rfl)) _ _ ⟨_, rfl, ⟨rfl, none, rfl⟩, ?_, ?_⟩
    · rintro j d ρ t' hd ⟨rfl, md, rfl⟩
      obtain ⟨x, hx, rfl⟩ := fr_inj_at (l := [a, b, c, e]) hd
      have h1 : Big (([a, b, c, e].take j).foldl min a) := fold_big (fun _ _ => Sz.min) _ _ ha (htake j)
      have h2 : Big (([a, b, c, e].take j).foldl max a) := fold_big (fun _ _ => Sz.max) _ _ ha (htake j)
      have hx' : Big x := hall x (List.mem_of_getElem? hx)
      refine (wb_one (ws_par B 2 3 rfl rfl (by decide) rfl rfl hsc rfl ((wv_call B G_lesser (av_cons (wv_var B 2 rfl rfl (.inl rfl)) (av_cons (wv_var B 1 rfl rfl (.inl rfl)) av_nil)) (⟨_, x, rfl, h1, hx', rfl⟩) rfl) _ _ ((wv_call B G_greater (av_cons (wv_var B 3 rfl rfl (.inl rfl)) (av_cons (wv_var B 1 rfl rfl (.inl rfl)) av_nil)) (⟨_, x, rfl, h2, hx', rfl⟩) rfl) _ _ ?next1))))
      case next1 =>
        refine ⟨rfl, some (fr x), ?_⟩
        rw [foldl_take hx, foldl_take hx]
        rfl
    · rintro ρ t' ⟨rfl, md, rfl⟩
      refine (wb_one (ws_ret ((wv_tup (av_cons (wv_var B 2 rfl rfl (.inl rfl)) (av_cons (wv_var B 3 rfl rfl (.inl rfl)) av_nil)) (len_le rfl)) _ _ ?ret1)))
      case ret1 =>
        have e1 : ([a, b, c, e].take 4).foldl min a = lo4 a b c e := by
          show min (min (min (min a a) b) c) e = min (min (min a b) c) e
          have : min a a = a := by grind
          rw [this]
        have e2 : ([a, b, c, e].take 4).foldl max a = hi4 a b c e := by
          show max (max (max (max a a) b) c) e = max (max (max a b) c) e
          have : max a a = a := by grind
          rw [this]
        show Φ (D.tup [fr (([a, b, c, e].take 4).foldl min a), fr (([a, b, c, e].take 4).foldl max a)]) t'
        rw [e1, e2]
        exact h
theorem sc_has : FnScope ["span", "number"] ["span", "number"] (defScope (top 32)) := ⟨rfl, rfl, rfl, by decide +kernel, rfl, by decide +kernel, by decide +kernel⟩
theorem b_has {X : Cx} (B : Bod X ["span", "number"] (defScope (top 32)) 1) (hsc : X.env.scope = defScope (top 32)) (G_is_less : Dfn X "is_less" 1 p_is_less) : ∀ ds t Φ, p_has ds t Φ → WB X (defBody (top 32)) (ds.map some ++ List.replicate (2 - ds.length) none) t (fun _ t' => Φ .non t') Φ := by
  rintro _ t Φ ⟨_, ⟨a, b, x, rfl, ha, hb, hx, rfl⟩, h⟩
  refine (wb_one (ws_ret ((wv_and (wv_not (wv_call B G_is_less (av_cons (wv_var B 1 rfl rfl (.inl rfl)) (av_cons (wv_ixT (wv_var B 0 rfl rfl (.inl rfl)) wv_int rfl) av_nil)) (⟨_, _, rfl, hx, ha, rfl⟩) rfl)) fun _ => (wv_one (wv_not (wv_call B G_is_less (av_cons (wv_ixT (wv_var B 0 rfl rfl (.inl rfl)) wv_int rfl) (av_cons (wv_var B 1 rfl rfl (.inl rfl)) av_nil)) (⟨_, _, rfl, hb, hx, rfl⟩) rfl)))) _ _ ?ret1)))
  case ret1 =>
    have e : (!decide (x < a) && !decide (b < x)) = decide (a ≤ x ∧ x ≤ b) := by
      rw [← decide_not, ← decide_not, ← Bool.decide_and, decide_eq_decide, Rat.not_lt, Rat.not_lt]
    rw [e]
    exact h
theorem sc_hull : FnScope ["one", "other"] ["one", "other"] (defScope (top 33)) := ⟨rfl, rfl, rfl, by decide +kernel, rfl, by decide +kernel, by decide +kernel⟩
theorem b_hull {X : Cx} (B : Bod X ["one", "other"] (defScope (top 33)) 2) (hsc : X.env.scope = defScope (top 33)) (G_lesser : Dfn X "lesser" 2 p_lesser) (G_greater : Dfn X "greater" 2 p_greater) : ∀ ds t Φ, p_hull ds t Φ → WB X (defBody (top 33)) (ds.map some ++ List.replicate (2 - ds.length) none) t (fun _ t' => Φ .non t') Φ := by
  rintro _ t Φ ⟨_, ⟨a, b, c, e, rfl, ha, hb, hc, he, rfl⟩, h⟩
  refine (wb_one (ws_ret ((wv_tup (av_cons (wv_call B G_lesser (av_cons (wv_ixT (wv_var B 0 rfl rfl (.inl rfl)) wv_int rfl) (av_cons (wv_ixT (wv_var B 1 rfl rfl (.inl rfl)) wv_int rfl) av_nil)) (⟨_, _, rfl, ha, hc, rfl⟩) rfl) (av_cons (wv_call B G_greater (av_cons (wv_ixT (wv_var B 0 rfl rfl (.inl rfl)) wv_int rfl) (av_cons (wv_ixT (wv_var B 1 rfl rfl (.inl rfl)) wv_int rfl) av_nil)) (⟨_, _, rfl, hb, he, rfl⟩) rfl) av_nil)) (len_le rfl)) _ _ ?ret1)))
  case ret1 => exact h
theorem sc_plus_spans : FnScope ["one", "other"] ["one", "other"] (defScope (top 34)) := ⟨rfl, rfl, rfl, by decide +kernel, rfl, by decide +kernel, by decide +kernel⟩
theorem b_plus_spans {X : Cx} (B : Bod X ["one", "other"] (defScope (top 34)) 3) (hsc : X.env.scope = defScope (top 34)) (G_plus : Dfn X "plus" 3 p_plus) : ∀ ds t Φ, p_plus_spans ds t Φ → WB X (defBody (top 34)) (ds.map some ++ List.replicate (2 - ds.length) none) t (fun _ t' => Φ .non t') Φ := by
  rintro _ t Φ ⟨_, ⟨a, b, c, e, rfl, ha, hb, hc, he, rfl⟩, h⟩
  refine (wb_one (ws_ret ((wv_tup (av_cons (wv_call B G_plus (av_cons (wv_ixT (wv_var B 0 rfl rfl (.inl rfl)) wv_int rfl) (av_cons (wv_ixT (wv_var B 1 rfl rfl (.inl rfl)) wv_int rfl) av_nil)) (⟨_, _, rfl, ha, hc, rfl⟩) rfl) (av_cons (wv_call B G_plus (av_cons (wv_ixT (wv_var B 0 rfl rfl (.inl rfl)) wv_int rfl) (av_cons (wv_ixT (wv_var B 1 rfl rfl (.inl rfl)) wv_int rfl) av_nil)) (⟨_, _, rfl, hb, he, rfl⟩) rfl) av_nil)) (len_le rfl)) _ _ ?ret1)))
  case ret1 => exact h
theorem sc_turned_span : FnScope ["span"] ["span"] (defScope (top 35)) := ⟨rfl, rfl, rfl, by decide +kernel, rfl, by decide +kernel, by decide +kernel⟩
theorem b_turned_span {X : Cx} (B : Bod X ["span"] (defScope (top 35)) 1) (hsc : X.env.scope = defScope (top 35)) (G_turned : Dfn X "turned" 1 p_turned) : ∀ ds t Φ, p_turned_span ds t Φ → WB X (defBody (top 35)) (ds.map some ++ List.replicate (1 - ds.length) none) t (fun _ t' => Φ .non t') Φ := by
  rintro _ t Φ ⟨_, ⟨a, b, rfl, rfl⟩, h⟩
  refine (wb_one (ws_ret ((wv_tup (av_cons (wv_call B G_turned (av_cons (wv_ixT (wv_var B 0 rfl rfl (.inl rfl)) wv_int rfl) av_nil) (⟨_, rfl, rfl⟩) rfl) (av_cons (wv_call B G_turned (av_cons (wv_ixT (wv_var B 0 rfl rfl (.inl rfl)) wv_int rfl) av_nil) (⟨_, rfl, rfl⟩) rfl) av_nil)) (len_le rfl)) _ _ ?ret1)))
  case ret1 => exact h
theorem sc_less_spans : FnScope ["one", "other"] ["one", "other"] (defScope (top 36)) := ⟨rfl, rfl, rfl, by decide +kernel, rfl, by decide +kernel, by decide +kernel⟩
theorem b_less_spans {X : Cx} (B : Bod X ["one", "other"] (defScope (top 36)) 4) (hsc : X.env.scope = defScope (top 36)) (G_plus_spans : Dfn X "plus_spans" 4 p_plus_spans) (G_turned_span : Dfn X "turned_span" 2 p_turned_span) : ∀ ds t Φ, p_less_spans ds t Φ → WB X (defBody (top 36)) (ds.map some ++ List.replicate (2 - ds.length) none) t (fun _ t' => Φ .non t') Φ := by
  rintro _ t Φ ⟨_, ⟨a, b, c, e, rfl, ha, hb, hc, he, rfl⟩, h⟩
  refine (wb_one (ws_ret ((wv_call B G_plus_spans (av_cons (wv_var B 0 rfl rfl (.inl rfl)) (av_cons (wv_call B G_turned_span (av_cons (wv_var B 1 rfl rfl (.inl rfl)) av_nil) (⟨_, _, rfl, rfl⟩) rfl) av_nil)) (⟨_, _, _, _, rfl, ha, hb, he.neg, hc.neg, rfl⟩) rfl) _ _ ?ret1)))
  case ret1 => exact h
theorem sc_times_spans : FnScope ["one", "other"] ["one", "other"] (defScope (top 37)) := ⟨rfl, rfl, rfl, by decide +kernel, rfl, by decide +kernel, by decide +kernel⟩
theorem b_times_spans {X : Cx} (B : Bod X ["one", "other"] (defScope (top 37)) 3) (hsc : X.env.scope = defScope (top 37)) (G_span_of : Dfn X "span_of" 3 p_span_of) (G_times : Dfn X "times" 3 p_times) : ∀ ds t Φ, p_times_spans ds t Φ → WB X (defBody (top 37)) (ds.map some ++ List.replicate (2 - ds.length) none) t (fun _ t' => Φ .non t') Φ := by
  rintro _ t Φ ⟨_, ⟨a, b, c, e, rfl, ha, hb, hc, he, rfl⟩, h⟩
  refine (wb_one (ws_ret ((wv_call B G_span_of (av_cons (wv_lst (av_cons (wv_call B G_times (av_cons (wv_ixT (wv_var B 0 rfl rfl (.inl rfl)) wv_int rfl) (av_cons (wv_ixT (wv_var B 1 rfl rfl (.inl rfl)) wv_int rfl) av_nil)) (⟨_, _, rfl, ha.big15, hc.big15, rfl⟩) rfl) (av_cons (wv_call B G_times (av_cons (wv_ixT (wv_var B 0 rfl rfl (.inl rfl)) wv_int rfl) (av_cons (wv_ixT (wv_var B 1 rfl rfl (.inl rfl)) wv_int rfl) av_nil)) (⟨_, _, rfl, ha.big15, he.big15, rfl⟩) rfl) (av_cons (wv_call B G_times (av_cons (wv_ixT (wv_var B 0 rfl rfl (.inl rfl)) wv_int rfl) (av_cons (wv_ixT (wv_var B 1 rfl rfl (.inl rfl)) wv_int rfl) av_nil)) (⟨_, _, rfl, hb.big15, hc.big15, rfl⟩) rfl) (av_cons (wv_call B G_times (av_cons (wv_ixT (wv_var B 0 rfl rfl (.inl rfl)) wv_int rfl) (av_cons (wv_ixT (wv_var B 1 rfl rfl (.inl rfl)) wv_int rfl) av_nil)) (⟨_, _, rfl, hb.big15, he.big15, rfl⟩) rfl) av_nil)))) (len_le rfl)) av_nil) (⟨_, _, _, _, rfl, (ha.mul hc).le (by decide), (ha.mul he).le (by decide), (hb.mul hc).le (by decide), (hb.mul he).le (by decide), rfl⟩) rfl) _ _ ?ret1)))
  case ret1 => exact h
theorem ne_of_out {c e : Rat} (h : c ≤ e) (hn : ¬ (c ≤ 0 ∧ 0 ≤ e)) : c ≠ 0 ∧ e ≠ 0 := by grind
theorem sc_over_spans : FnScope ["one", "other"] ["one", "other"] (defScope (top 38)) := ⟨rfl, rfl, rfl, by decide +kernel, rfl, by decide +kernel, by decide +kernel⟩
theorem b_over_spans {X : Cx} (B : Bod X ["one", "other"] (defScope (top 38)) 3) (hsc : X.env.scope = defScope (top 38)) (G_has : Dfn X "has" 2 p_has) (G_span_of : Dfn X "span_of" 3 p_span_of) (G_over : Dfn X "over" 3 p_over) (g_NOUGHT : Glb X "NOUGHT" v_NOUGHT) : ∀ ds t Φ, p_over_spans ds t Φ → WB X (defBody (top 38)) (ds.map some ++ List.replicate (2 - ds.length) none) t (fun _ t' => Φ .non t') Φ := by
  rintro _ t Φ ⟨_, ⟨a, b, c, e, rfl, ha, hb, hc, he, hce, hn, rfl⟩, h⟩
  obtain ⟨nc, ne⟩ := ne_of_out hce hn
  refine (wb_cons (ws_if ((tv_val (wv_call B G_has (av_cons (wv_var B 1 rfl rfl (.inl rfl)) (av_cons (wv_glob B g_NOUGHT rfl) av_nil)) (⟨_, _, _, rfl, hc.big15, he.big15, Sz.zero.le (by decide), rfl⟩) rfl)) _ _ ⟨fun k1 => (wb_one (ws_ret (wv_non _ _ ?ret1))), fun k1 => (wb_nil (wb_one (ws_ret ((wv_call B G_span_of (av_cons (wv_lst (av_cons (wv_call B G_over (av_cons (wv_ixT (wv_var B 0 rfl rfl (.inl rfl)) wv_int rfl) (av_cons (wv_ixT (wv_var B 1 rfl rfl (.inl rfl)) wv_int rfl) av_nil)) (⟨_, _, rfl, ha.big15, hc.big15, nc, rfl⟩) rfl) (av_cons (wv_call B G_over (av_cons (wv_ixT (wv_var B 0 rfl rfl (.inl rfl)) wv_int rfl) (av_cons (wv_ixT (wv_var B 1 rfl rfl (.inl rfl)) wv_int rfl) av_nil)) (⟨_, _, rfl, ha.big15, he.big15, ne, rfl⟩) rfl) (av_cons (wv_call B G_over (av_cons (wv_ixT (wv_var B 0 rfl rfl (.inl rfl)) wv_int rfl) (av_cons (wv_ixT (wv_var B 1 rfl rfl (.inl rfl)) wv_int rfl) av_nil)) (⟨_, _, rfl, hb.big15, hc.big15, nc, rfl⟩) rfl) (av_cons (wv_call B G_over (av_cons (wv_ixT (wv_var B 0 rfl rfl (.inl rfl)) wv_int rfl) (av_cons (wv_ixT (wv_var B 1 rfl rfl (.inl rfl)) wv_int rfl) av_nil)) (⟨_, _, rfl, hb.big15, he.big15, ne, rfl⟩) rfl) av_nil)))) (len_le rfl)) av_nil) (⟨_, _, _, _, rfl, (ha.div hc).le (by decide), (ha.div he).le (by decide), (hb.div hc).le (by decide), (hb.div he).le (by decide), rfl⟩) rfl) _ _ ?ret2))))⟩)))
  case ret1 => exact absurd (of_decide_eq_true k1) hn
  case ret2 => exact h
theorem sc_great_size : FnScope ["span"] ["span"] (defScope (top 39)) := ⟨rfl, rfl, rfl, by decide +kernel, rfl, by decide +kernel, by decide +kernel⟩
theorem b_great_size {X : Cx} (B : Bod X ["span"] (defScope (top 39)) 2) (hsc : X.env.scope = defScope (top 39)) (G_greater : Dfn X "greater" 2 p_greater) (G_size_of : Dfn X "size_of" 1 p_size_of) : ∀ ds t Φ, p_great_size ds t Φ → WB X (defBody (top 39)) (ds.map some ++ List.replicate (1 - ds.length) none) t (fun _ t' => Φ .non t') Φ := by
  rintro _ t Φ ⟨_, ⟨a, b, rfl, ha, hb, rfl⟩, h⟩
  refine (wb_one (ws_ret ((wv_call B G_greater (av_cons (wv_call B G_size_of (av_cons (wv_ixT (wv_var B 0 rfl rfl (.inl rfl)) wv_int rfl) av_nil) (⟨_, rfl, rfl⟩) rfl) (av_cons (wv_call B G_size_of (av_cons (wv_ixT (wv_var B 0 rfl rfl (.inl rfl)) wv_int rfl) av_nil) (⟨_, rfl, rfl⟩) rfl) av_nil)) (⟨_, _, rfl, ha.abs, hb.abs, rfl⟩) rfl) _ _ ?ret1)))
  case ret1 => exact h
theorem sc_small_size : FnScope ["span"] ["span"] (defScope (top 40)) := ⟨rfl, rfl, rfl, by decide +kernel, rfl, by decide +kernel, by decide +kernel⟩
theorem b_small_size {X : Cx} (B : Bod X ["span"] (defScope (top 40)) 2) (hsc : X.env.scope = defScope (top 40)) (G_has : Dfn X "has" 2 p_has) (G_lesser : Dfn X "lesser" 2 p_lesser) (G_size_of : Dfn X "size_of" 1 p_size_of) (g_NOUGHT : Glb X "NOUGHT" v_NOUGHT) : ∀ ds t Φ, p_small_size ds t Φ → WB X (defBody (top 40)) (ds.map some ++ List.replicate (1 - ds.length) none) t (fun _ t' => Φ .non t') Φ := by
  rintro _ t Φ ⟨_, ⟨a, b, rfl, ha, hb, rfl⟩, h⟩
  have s1 : decide (a ≤ 0 ∧ 0 ≤ b) = true → v_NOUGHT = fr (smallSize a b) := fun k => by
    unfold smallSize v_NOUGHT
    rw [if_pos (of_decide_eq_true k)]
  have s2 : decide (a ≤ 0 ∧ 0 ≤ b) = false → fr (min a.abs b.abs) = fr (smallSize a b) := fun k => by
    unfold smallSize
    rw [if_neg (of_decide_eq_false k)]
  refine (wb_one (ws_ret ((wv_if (tv_val (wv_call B G_has (av_cons (wv_var B 0 rfl rfl (.inl rfl)) (av_cons (wv_glob B g_NOUGHT rfl) av_nil)) (⟨_, _, _, rfl, ha, hb, Sz.zero.le (by decide), rfl⟩) rfl)) (fun k1 => wv_is (wv_glob B g_NOUGHT rfl) (s1 k1)) (fun k1 => wv_is (wv_call B G_lesser (av_cons (wv_call B G_size_of (av_cons (wv_ixT (wv_var B 0 rfl rfl (.inl rfl)) wv_int rfl) av_nil) (⟨_, rfl, rfl⟩) rfl) (av_cons (wv_call B G_size_of (av_cons (wv_ixT (wv_var B 0 rfl rfl (.inl rfl)) wv_int rfl) av_nil) (⟨_, rfl, rfl⟩) rfl) av_nil)) (⟨_, _, rfl, ha.abs, hb.abs, rfl⟩) rfl) (s2 k1))) _ _ ?ret1)))
  case ret1 => exact h
theorem sc_size_span : FnScope ["span"] ["span"] (defScope (top 41)) := ⟨rfl, rfl, rfl, by decide +kernel, rfl, by decide +kernel, by decide +kernel⟩
theorem b_size_span {X : Cx} (B : Bod X ["span"] (defScope (top 41)) 3) (hsc : X.env.scope = defScope (top 41)) (G_small_size : Dfn X "small_size" 3 p_small_size) (G_great_size : Dfn X "great_size" 3 p_great_size) : ∀ ds t Φ, p_size_span ds t Φ → WB X (defBody (top 41)) (ds.map some ++ List.replicate (1 - ds.length) none) t (fun _ t' => Φ .non t') Φ := by
  rintro _ t Φ ⟨_, ⟨a, b, rfl, ha, hb, rfl⟩, h⟩
  refine (wb_one (ws_ret ((wv_tup (av_cons (wv_call B G_small_size (av_cons (wv_var B 0 rfl rfl (.inl rfl)) av_nil) (⟨_, _, rfl, ha, hb, rfl⟩) rfl) (av_cons (wv_call B G_great_size (av_cons (wv_var B 0 rfl rfl (.inl rfl)) av_nil) (⟨_, _, rfl, ha, hb, rfl⟩) rfl) av_nil)) (len_le rfl)) _ _ ?ret1)))
  case ret1 => exact h
theorem sc_least_span : FnScope ["one", "other"] ["one", "other"] (defScope (top 42)) := ⟨rfl, rfl, rfl, by decide +kernel, rfl, by decide +kernel, by decide +kernel⟩
theorem b_least_span {X : Cx} (B : Bod X ["one", "other"] (defScope (top 42)) 2) (hsc : X.env.scope = defScope (top 42)) (G_lesser : Dfn X "lesser" 2 p_lesser) : ∀ ds t Φ, p_least_span ds t Φ → WB X (defBody (top 42)) (ds.map some ++ List.replicate (2 - ds.length) none) t (fun _ t' => Φ .non t') Φ := by
  rintro _ t Φ ⟨_, ⟨a, b, c, e, rfl, ha, hb, hc, he, rfl⟩, h⟩
  refine (wb_one (ws_ret ((wv_tup (av_cons (wv_call B G_lesser (av_cons (wv_ixT (wv_var B 0 rfl rfl (.inl rfl)) wv_int rfl) (av_cons (wv_ixT (wv_var B 1 rfl rfl (.inl rfl)) wv_int rfl) av_nil)) (⟨_, _, rfl, ha, hc, rfl⟩) rfl) (av_cons (wv_call B G_lesser (av_cons (wv_ixT (wv_var B 0 rfl rfl (.inl rfl)) wv_int rfl) (av_cons (wv_ixT (wv_var B 1 rfl rfl (.inl rfl)) wv_int rfl) av_nil)) (⟨_, _, rfl, hb, he, rfl⟩) rfl) av_nil)) (len_le rfl)) _ _ ?ret1)))
  case ret1 => exact h
theorem sc_most_span : FnScope ["one", "other"] ["one", "other"] (defScope (top 43)) := ⟨rfl, rfl, rfl, by decide +kernel, rfl, by decide +kernel, by decide +kernel⟩
theorem b_most_span {X : Cx} (B : Bod X ["one", "other"] (defScope (top 43)) 2) (hsc : X.env.scope = defScope (top 43)) (G_greater : Dfn X "greater" 2 p_greater) : ∀ ds t Φ, p_most_span ds t Φ → WB X (defBody (top 43)) (ds.map some ++ List.replicate (2 - ds.length) none) t (fun _ t' => Φ .non t') Φ := by
  rintro _ t Φ ⟨_, ⟨a, b, c, e, rfl, ha, hb, hc, he, rfl⟩, h⟩
  refine (wb_one (ws_ret ((wv_tup (av_cons (wv_call B G_greater (av_cons (wv_ixT (wv_var B 0 rfl rfl (.inl rfl)) wv_int rfl) (av_cons (wv_ixT (wv_var B 1 rfl rfl (.inl rfl)) wv_int rfl) av_nil)) (⟨_, _, rfl, ha, hc, rfl⟩) rfl) (av_cons (wv_call B G_greater (av_cons (wv_ixT (wv_var B 0 rfl rfl (.inl rfl)) wv_int rfl) (av_cons (wv_ixT (wv_var B 1 rfl rfl (.inl rfl)) wv_int rfl) av_nil)) (⟨_, _, rfl, hb, he, rfl⟩) rfl) av_nil)) (len_le rfl)) _ _ ?ret1)))
  case ret1 => exact h
theorem sc_apart : FnScope ["one", "other"] ["one", "other"] (defScope (top 44)) := ⟨rfl, rfl, rfl, by decide +kernel, rfl, by decide +kernel, by decide +kernel⟩
theorem b_apart {X : Cx} (B : Bod X ["one", "other"] (defScope (top 44)) 4) (hsc : X.env.scope = defScope (top 44)) (G_greater : Dfn X "greater" 2 p_greater) (G_less : Dfn X "less" 4 p_less) : ∀ ds t Φ, p_apart ds t Φ → WB X (defBody (top 44)) (ds.map some ++ List.replicate (2 - ds.length) none) t (fun _ t' => Φ .non t') Φ := by
  rintro _ t Φ ⟨_, ⟨a, b, c, e, rfl, ha, hb, hc, he, rfl⟩, h⟩
  refine (wb_one (ws_ret ((wv_call B G_greater (av_cons (wv_call B G_less (av_cons (wv_ixT (wv_var B 0 rfl rfl (.inl rfl)) wv_int rfl) (av_cons (wv_ixT (wv_var B 1 rfl rfl (.inl rfl)) wv_int rfl) av_nil)) (⟨_, _, rfl, hb.big15, hc.big15, rfl⟩) rfl) (av_cons (wv_call B G_less (av_cons (wv_ixT (wv_var B 1 rfl rfl (.inl rfl)) wv_int rfl) (av_cons (wv_ixT (wv_var B 0 rfl rfl (.inl rfl)) wv_int rfl) av_nil)) (⟨_, _, rfl, he.big15, ha.big15, rfl⟩) rfl) av_nil)) (⟨_, _, rfl, (hb.sub hc).le (by decide), (he.sub ha).le (by decide), rfl⟩) rfl) _ _ ?ret1)))
  case ret1 => exact h
end RS
/-! part RSLay7 -/
namespace RS
open PySem L2
section
variable {X : Cx} {N : List Str} {sc : Scope} {kk : Nat} {ρ : Env'} {t : Nat} {Nx : Env' → Nat → Prop} {R : D → Nat → Prop} {x : Str} {pos p1 p2 : Pos} {d d' : D} {a b c e : Expr} {es rest : List Expr} {k k' : Bool} {sa sb : List Stmt}
/-! ### tests whose end is known -/
theorem ov_orT (h : TV X a ρ true) : OV X (.BoolOp .Or (a :: b :: rest) pos) ρ true := fun t Ψ q => ww_or (h _ _ ⟨fun _ => q, fun e => nomatch e⟩)
theorem ov_andF (h : TV X a ρ false) : OV X (.BoolOp .And (a :: b :: rest) pos) ρ false := fun t Ψ q => ww_and (h _ _ ⟨fun e => (nomatch e), fun _ => q⟩)
theorem wv_ifT (hc : TV X c ρ true) (h1 : WV X a ρ d) : WV X (.IfExp c a b pos) ρ d := wv_if hc (fun _ => h1) fun e => nomatch e
theorem wv_ifF (hc : TV X c ρ false) (h1 : WV X b ρ d) : WV X (.IfExp c a b pos) ρ d := wv_if hc (fun e => (nomatch e)) fun _ => h1
theorem ws_ifT (h : TV X c ρ true) (hb : WB X sa ρ t Nx R) : WS X (.If c sa sb pos) ρ t Nx R := ws_if (h _ _ ⟨fun _ => hb, fun e => nomatch e⟩)
theorem ws_ifF (h : TV X c ρ false) (hb : WB X sb ρ t Nx R) : WS X (.If c sa sb pos) ρ t Nx R := ws_if (h _ _ ⟨fun e => (nomatch e), fun _ => hb⟩)
end
/-! ### fractions compared in whole -/
theorem fr_plain (q : Rat) : (fr q).plain = true := rfl
theorem fr_shaped (q : Rat) : SeqAt.shaped (fr q).py = true := rfl
theorem fr_eqv (a b : Rat) : PyData.eqv (fr a).py (fr b).py = decide (a = b) := by
  have h : PyData.eqv (fr a).py (fr b).py = (decide (a.num = b.num) && decide ((a.den : Int) = (b.den : Int))) := by
    simp [fr, D.py, D.pyL, PyData.eqv, PyData.eqvAll]
    rfl
  rw [h, ← Bool.decide_and, decide_eq_decide]
  constructor
  · rintro ⟨h1, h2⟩
    exact Rat.ext h1 (by omega)
  · rintro rfl
    exact ⟨rfl, rfl⟩
/-! ### comprehensions that draw nothing -/
section
variable {X X' : Cx} {N : List Str} {sc scope : Scope} {kk : Nat} {ρ : Env'} {t : Nat} {Nx : Env' → Nat → Prop} {R : D → Nat → Prop} {x y : Str} {pos p1 p2 spos : Pos} {d : D} {elt iter e : Expr}
theorem flatL_get : ∀ {l : List D} {j : Nat} {r : D}, D.flatL l = true → l[j]? = some r → r.flat = true
  | [], _, _, _, h => by simp at h
  | a :: l, 0, r, f, h => by
    simp at h
    subst h
    exact (Bool.and_eq_true_iff.mp f).1
  | a :: l, j + 1, r, f, h => flatL_get (l := l) (Bool.and_eq_true_iff.mp f).2 (by simpa using h)
/-- each element gives what stands in out -/
def Elts (X : Cx) (scope : Scope) (elt : Expr) (ρ : Env') (i : Nat) (l out : List D) : Prop :=
  ∀ (j : Nat) d r, l[j]? = some d → out[j]? = some r → ∀ X', Blk X X' scope → WV X' elt (ρ.set i (some d)) r
theorem elts_turn {i : Nat} {l out : List D} (hl : out.length = l.length) (hf : D.flatL out = true) (h : Elts X scope elt ρ i l out) {t0 : Nat} (j : Nat) (d : D) (acc : List D) (t' : Nat) (hd : l[j]? = some d) (hp : acc = out.take j ∧ t' = t0) :
    CTurn X scope [] elt (ρ.set i (some d)) t' (fun r t2 => r.flat = true ∧ acc ++ [r] = out.take (j + 1) ∧ t2 = t0) (fun t2 => acc = out.take (j + 1) ∧ t2 = t0) := by
  obtain ⟨rfl, rfl⟩ := hp
  have hj : j < out.length := by
    have := (List.getElem?_eq_some_iff.mp hd).1
    omega
  have hr : out[j]? = some out[j] := by simp [hj]
  intro X' b
  refine ⟨fun _ X2 b2 => h j d _ hd hr X2 b2 _ _ ⟨flatL_get hf hr, ?_, rfl⟩, fun e => nomatch e⟩
  rw [List.take_add_one, hr]
  rfl
theorem wv_lcL (B : Bod X N sc kk) {i : Nat} {l out : List D} (ok : BlkOk N X.env.scope scope [(x, i)]) (hx : N[i]? = some x) (hlo : scope.names.lookup x = some .local) (hi : WV X iter ρ (.lst l)) (hz : l.length ≤ 900) (hl : out.length = l.length) (hf : D.flatL out = true) (h : Elts X scope elt ρ i l out)
    (hs : ∀ z, foldedSetIterable iter X.env z = pure z := by intro _; rfl) : WV X (.ListComp elt [⟨.Name x p1, iter, [], 0⟩] scope pos) ρ (.lst out) := fun t Φ q => by
  refine we_lc B (pi_list semE) ok hx hlo (fun σ H er hb Q hq => lcL_run (Φ := Φ) B (fun j acc t' => acc = out.take j ∧ t' = t) ?_ er hb hq) hs
  refine hi _ _ ⟨l, rfl, hz, ⟨by rw [List.take_zero], rfl⟩, fun j d acc t' hd hp => elts_turn hl hf h j d acc t' hd hp, fun acc t' _ hp => ?_⟩
  obtain ⟨rfl, rfl⟩ := hp
  rw [← hl, List.take_length]
  exact q
theorem ws_setLcL (B : Bod X N sc kk) {i k : Nat} {l out : List D} (hk : N[k]? = some y) (hy : X.env.scope.names.lookup y = some .local) (hkd : X.env.scope.kind = .function) (hline : (p2.line == pos.line) = true)
    (ha : (scope.names.any fun (n, kd) => n == y && (kd == .local || kd == .cell)) = false) (ok : BlkOk N X.env.scope scope [(x, i)]) (hx : N[i]? = some x) (hlo : scope.names.lookup x = some .local) (hi : WV X iter ρ (.lst l)) (hz : l.length ≤ 900) (hl : out.length = l.length) (hf : D.flatL out = true) (h : Elts X scope elt ρ i l out)
    (q : Nx (ρ.set k (some (.lst out))) t) (hs : ∀ z, foldedSetIterable iter X.env z = pure z := by intro _; rfl) : WS X (.Assign [.Name y p2] (.ListComp elt [⟨.Name x p1, iter, [], 0⟩] scope pos) spos) ρ t Nx R := by
  refine ws_setLc B hk hy hkd hline ha (pi_list semE) ok hx hlo (fun σ H er hb Q hq => lcL_run (Φ := fun d t' => Nx (ρ.set k (some d)) t') B (fun j acc t' => acc = out.take j ∧ t' = t) ?_ er hb hq) hs
  refine hi _ _ ⟨l, rfl, hz, ⟨by rw [List.take_zero], rfl⟩, fun j d acc t' hd hp => elts_turn hl hf h j d acc t' hd hp, fun acc t' _ hp => ?_⟩
  obtain ⟨rfl, rfl⟩ := hp
  rw [← hl, List.take_length]
  exact q
theorem ws_setLcT (B : Bod X N sc kk) {i k : Nat} {l out : List D} (hk : N[k]? = some y) (hy : X.env.scope.names.lookup y = some .local) (hkd : X.env.scope.kind = .function) (hline : (p2.line == pos.line) = true)
    (ha : (scope.names.any fun (n, kd) => n == y && (kd == .local || kd == .cell)) = false) (ok : BlkOk N X.env.scope scope [(x, i)]) (hx : N[i]? = some x) (hlo : scope.names.lookup x = some .local) (hi : WV X iter ρ (.tup l)) (hz : l.length ≤ 900) (hl : out.length = l.length) (hf : D.flatL out = true) (h : Elts X scope elt ρ i l out)
    (q : Nx (ρ.set k (some (.lst out))) t) (hs : ∀ z, foldedSetIterable iter X.env z = pure z := by intro _; rfl) : WS X (.Assign [.Name y p2] (.ListComp elt [⟨.Name x p1, iter, [], 0⟩] scope pos) spos) ρ t Nx R := by
  refine ws_setLc B hk hy hkd hline ha (pi_tup semE) ok hx hlo (fun σ H er hb Q hq => lcT_run (Φ := fun d t' => Nx (ρ.set k (some d)) t') B (fun j acc t' => acc = out.take j ∧ t' = t) ?_ er hb hq) hs
  refine hi _ _ ⟨l, rfl, hz, ⟨by rw [List.take_zero], rfl⟩, fun j d acc t' hd hp => elts_turn hl hf h j d acc t' hd hp, fun acc t' _ hp => ?_⟩
  obtain ⟨rfl, rfl⟩ := hp
  rw [← hl, List.take_length]
  exact q
end
end RS
/-! part RSGrain -/
namespace RS
open PySem L2
/-! ### the promises of the module grains -/
def v_HALF : D := .tup [.int 1, .int 2]
def GB (g : Option Int) : Prop := ∀ a, g = some a → a.natAbs ≤ 800
def p_grain_of : Pr := det fun ds d => ∃ (r : Ruler) (x : Rat), ds = [rul r, fr x] ∧ r.Ok ∧ Sz 350 x ∧ d = gr (grainSpan r x x)
def p_grain_of_span : Pr := det fun ds d => ∃ (r : Ruler) (a b : Rat), ds = [rul r, fr a, fr b] ∧ r.Ok ∧ Sz 350 a ∧ Sz 350 b ∧ d = gr (grainSpan r a b)
def p_less_grain : Pr := det fun ds d => ∃ g g', ds = [gr g, gr g'] ∧ d = gr (lessGrain g g')
def p_great_grain : Pr := det fun ds d => ∃ g g', ds = [gr g, gr g'] ∧ d = gr (greatGrain g g')
def p_both_grains : Pr := det fun ds d => ∃ g g', ds = [gr g, gr g'] ∧ d = gr (bothGrains g g')
open Classical in
def p_is_exact : Pr := det fun ds d => ∃ (r : Ruler) (a b : Rat) (g : Option Int), ds = [rul r, sp a b, gr g] ∧ r.Ok ∧ Big a ∧ Big b ∧ GB g ∧ d = .bl (decide (exactly r a b g))
def p_slack : Pr := det fun ds d => ∃ (r : Ruler) (a b : Rat) (g : Option Int), ds = [rul r, sp a b, gr g] ∧ r.Ok ∧ Sz 350 a ∧ Sz 350 b ∧ GB g ∧ d = fr (slack r a b g)
theorem two_le_pw {r : Ruler} (h : r.Ok) (k : Nat) : twp k ≤ pw r (k : Int) := by
  rw [pw_nat]
  unfold twp
  refine Rat.intCast_le_intCast.mpr ?_
  have b1 := h.b1
  induction k with
  | zero => simp
  | succ k ih =>
    rw [Int.pow_succ, Int.pow_succ]
    exact Int.mul_le_mul ih b1 (by decide) (by
      have : (0 : Int) < r.B ^ k := Int.pow_pos (by omega)
      omega)
theorem mul_le {r : Ruler} (h : r.Ok) {x : Rat} {n : Nat} (hx : x ≠ 0) (hs : x.abs < twp n) {e : Int} (m : Mul r x e) : e < n := by
  have h1 := m.size h hx
  have h2 := two_le_pw h n
  have h3 := pw_lt_of h (r := r) (a := e) (b := n) (by grind)
  exact h3
theorem grainUp_le {r : Ruler} (h : r.Ok) {x : Rat} {n : Nat} (hx : x ≠ 0) (hs : x.abs < twp n) : grainUp r x ≤ (n : Int) + 16 := by
  have h1 := grainUp_is h hx
  have h2 := placeOf_le h hs
  by_cases h3 : placeOf r x < grainUp r x
  · have := mul_le h hx hs (h1.2.2 _ h3 (Int.le_refl _))
    omega
  · omega
theorem sc_grain_of : FnScope ["ruler", "number", "found"] ["ruler", "number"] (defScope (top 47)) := ⟨rfl, rfl, rfl, by decide +kernel, rfl, by decide +kernel, by decide +kernel⟩
theorem b_grain_of {X : Cx} (B : Bod X ["ruler", "number", "found"] (defScope (top 47)) 4) (hsc : X.env.scope = defScope (top 47)) (G_place_of : Dfn X "place_of" 3 p_place_of) (G_is_multiple : Dfn X "is_multiple" 4 p_is_multiple) (g_NOUGHT : Glb X "NOUGHT" v_NOUGHT) : ∀ ds t Φ, p_grain_of ds t Φ → WB X (defBody (top 47)) (ds.map some ++ List.replicate (3 - ds.length) none) t (fun _ t' => Φ .non t') Φ := by
  rintro _ t Φ ⟨_, ⟨r, x, rfl, hr, hx, rfl⟩, h⟩
  unfold grainSpan at h
  rw [if_pos rfl] at h
  refine (wb_cons (ws_if ((tv_eqD B (wv_var B 1 rfl rfl (.inl rfl)) (wv_glob B g_NOUGHT rfl) (rfl) (rfl) (rfl) (rfl) (fr_eqv x 0)) _ _ ⟨fun k1 => (wb_one (ws_ret (wv_non _ _ ?ret1))), fun k1 => (wb_nil (wb_cons (ws_set B 2 rfl (.inl rfl) ((wv_call B G_place_of (av_cons (wv_var B 0 rfl rfl (.inl rfl)) (av_cons (wv_var B 1 rfl rfl (.inl rfl)) av_nil)) (⟨r, x, rfl, hr, hx, rfl⟩) rfl) _ _ (wb_cons ?loop1)))))⟩)))
  case ret1 =>
    rw [if_pos (of_decide_eq_true k1)] at h
    exact h
  case loop1 =>
    have hn := of_decide_eq_false k1
    rw [if_neg hn] at h
    obtain ⟨g1, g2, g3⟩ := grainUp_is hr hn
    have hg := grainUp_le hr hn hx.abs_lt
    have hl := placeOf_low hr x
    have l1 := hr.l1
    have : ∀ z, Decidable (Mul r x z) := fun z => Classical.propDecidable _
    refine ws_while B (fun m ρ t' => t' = t ∧ ∃ g : Int, ρ = [some (rul r), some (fr x), some (.int g)] ∧ placeOf r x ≤ g ∧ g ≤ grainUp r x ∧ (grainUp r x - g).toNat = m) _ ⟨rfl, _, rfl, Int.le_refl _, g1, rfl⟩ ?_
    rintro m ρ t' ⟨rfl, g, rfl, h1, h2, rfl⟩
    refine (tv_val (wv_call B G_is_multiple (av_cons (wv_var B 0 rfl rfl (.inl rfl)) (av_cons (wv_var B 1 rfl rfl (.inl rfl)) (av_cons (wv_add (wv_var B 2 rfl rfl (.inl rfl)) wv_int) av_nil))) (⟨r, x, g + 1, decide (Mul r x (g + 1)), rfl, hr, hx.le_big (by decide), by omega, decide_eq_true_iff, rfl⟩) rfl)) _ _ ⟨fun k => ?_, fun k => ?_⟩
    · have k := of_decide_eq_true k
      have hne : g ≠ grainUp r x := fun z => g2 (z ▸ k)
      refine (wb_one (ws_aug B 2 rfl (.inl rfl) rfl (wv_int _ _ ⟨_, rfl, ?next1⟩)))
      case next1 => exact ⟨(grainUp r x - (g + 1)).toNat, by omega, rfl, g + 1, rfl, by omega, by omega, rfl⟩
    · have k := of_decide_eq_false k
      have he : g = grainUp r x := by
        by_cases hlt : g < grainUp r x
        · exact absurd (g3 (g + 1) (by omega) (by omega)) k
        · omega
      refine (wb_one (ws_ret ((wv_var B 2 rfl rfl (.inl rfl)) _ _ ?ret2)))
      case ret2 =>
        rw [← he] at h
        exact h
theorem sc_grain_of_span : FnScope ["ruler", "low", "high"] ["ruler", "low", "high"] (defScope (top 48)) := ⟨rfl, rfl, rfl, by decide +kernel, rfl, by decide +kernel, by decide +kernel⟩
theorem b_grain_of_span {X : Cx} (B : Bod X ["ruler", "low", "high"] (defScope (top 48)) 5) (hsc : X.env.scope = defScope (top 48)) (G_has : Dfn X "has" 2 p_has) (G_place_of : Dfn X "place_of" 3 p_place_of) (G_grain_of : Dfn X "grain_of" 5 p_grain_of) (G_small_size : Dfn X "small_size" 3 p_small_size) (g_NOUGHT : Glb X "NOUGHT" v_NOUGHT) : ∀ ds t Φ, p_grain_of_span ds t Φ → WB X (defBody (top 48)) (ds.map some ++ List.replicate (3 - ds.length) none) t (fun _ t' => Φ .non t') Φ := by
  rintro _ t Φ ⟨_, ⟨r, a, b, rfl, hr, ha, hb, rfl⟩, h⟩
  refine (wb_cons (ws_if ((tv_eqD B (wv_var B 1 rfl rfl (.inl rfl)) (wv_var B 2 rfl rfl (.inl rfl)) (rfl) (rfl) (rfl) (rfl) (fr_eqv a b)) _ _ ⟨fun k1 => (wb_one (ws_ret ((wv_call B G_grain_of (av_cons (wv_var B 0 rfl rfl (.inl rfl)) (av_cons (wv_var B 1 rfl rfl (.inl rfl)) av_nil)) (⟨r, a, rfl, hr, ha, rfl⟩) rfl) _ _ ?ret1))), fun k1 => (wb_nil (wb_cons (ws_if ((tv_val (wv_call B G_has (av_cons (wv_tup (av_cons (wv_var B 1 rfl rfl (.inl rfl)) (av_cons (wv_var B 2 rfl rfl (.inl rfl)) av_nil)) (len_le rfl)) (av_cons (wv_glob B g_NOUGHT rfl) av_nil)) (⟨a, b, 0, rfl, ha.le_big (by decide), hb.le_big (by decide), Sz.zero.le (by decide), rfl⟩) rfl)) _ _ ⟨fun k2 => (wb_one (ws_ret ((wv_ixT (wv_var B 0 rfl rfl (.inl rfl)) wv_int rfl) _ _ ?ret2))), fun k2 => (wb_nil (wb_one (ws_ret ((wv_call B G_place_of (av_cons (wv_var B 0 rfl rfl (.inl rfl)) (av_cons (wv_call B G_small_size (av_cons (wv_tup (av_cons (wv_var B 1 rfl rfl (.inl rfl)) (av_cons (wv_var B 2 rfl rfl (.inl rfl)) av_nil)) (len_le rfl)) av_nil) (⟨a, b, rfl, ha.le_big (by decide), hb.le_big (by decide), rfl⟩) rfl) av_nil)) (⟨r, _, rfl, hr, ha.small hb (by decide), rfl⟩) rfl) _ _ ?ret3))))⟩))))⟩)))
  case ret1 =>
    have e := of_decide_eq_true k1
    rw [← e] at h
    exact h
  case ret2 =>
    have e := of_decide_eq_false k1
    have e2 := of_decide_eq_true k2
    unfold grainSpan at h
    rw [if_neg e, if_pos e2] at h
    exact h
  case ret3 =>
    have e := of_decide_eq_false k1
    have e2 := of_decide_eq_false k2
    unfold grainSpan at h
    rw [if_neg e, if_neg e2] at h
    exact h
theorem sc_less_grain : FnScope ["one", "other"] ["one", "other"] (defScope (top 49)) := ⟨rfl, rfl, rfl, by decide +kernel, rfl, by decide +kernel, by decide +kernel⟩
theorem b_less_grain {X : Cx} (B : Bod X ["one", "other"] (defScope (top 49)) 0) (hsc : X.env.scope = defScope (top 49)) (m_min : X.mg "min" = none) : ∀ ds t Φ, p_less_grain ds t Φ → WB X (defBody (top 49)) (ds.map some ++ List.replicate (2 - ds.length) none) t (fun _ t' => Φ .non t') Φ := by
  rintro _ t Φ ⟨_, ⟨g, g', rfl, rfl⟩, h⟩
  cases g with
  | none =>
    refine (wb_cons (ws_ifT (tv_is (tv_ov (ov_orT (tv_is (tv_isN (wv_var B 0 rfl rfl (.inl rfl)) wv_non) rfl))) rfl) (wb_one (ws_ret ((wv_ifT (tv_is (tv_isN (wv_var B 0 rfl rfl (.inl rfl)) wv_non) rfl) (wv_var B 1 rfl rfl (.inl rfl))) _ _ ?ret1)))))
    case ret1 => exact h
  | some a =>
    cases g' with
    | none =>
      refine (wb_cons (ws_ifT (tv_is (tv_ov (ov_or (tv_isN (wv_var B 0 rfl rfl (.inl rfl)) wv_non) fun _ => (ov_or1 (tv_isN (wv_var B 1 rfl rfl (.inl rfl)) wv_non)))) rfl) (wb_one (ws_ret ((wv_ifF (tv_is (tv_isN (wv_var B 0 rfl rfl (.inl rfl)) wv_non) rfl) (wv_var B 0 rfl rfl (.inl rfl))) _ _ ?ret1)))))
      case ret1 => exact h
    | some b =>
      refine (wb_cons (ws_ifF (tv_is (tv_ov (ov_or (tv_isN (wv_var B 0 rfl rfl (.inl rfl)) wv_non) fun _ => (ov_or1 (tv_isN (wv_var B 1 rfl rfl (.inl rfl)) wv_non)))) rfl) (wb_nil (wb_one (ws_ret ((wv_min2 B m_min (av_cons (wv_var B 0 rfl rfl (.inl rfl)) (av_cons (wv_var B 1 rfl rfl (.inl rfl)) av_nil)) rfl) _ _ ?ret1))))))
      case ret1 => exact h
theorem sc_great_grain : FnScope ["one", "other"] ["one", "other"] (defScope (top 50)) := ⟨rfl, rfl, rfl, by decide +kernel, rfl, by decide +kernel, by decide +kernel⟩
theorem b_great_grain {X : Cx} (B : Bod X ["one", "other"] (defScope (top 50)) 0) (hsc : X.env.scope = defScope (top 50)) (m_max : X.mg "max" = none) : ∀ ds t Φ, p_great_grain ds t Φ → WB X (defBody (top 50)) (ds.map some ++ List.replicate (2 - ds.length) none) t (fun _ t' => Φ .non t') Φ := by
  rintro _ t Φ ⟨_, ⟨g, g', rfl, rfl⟩, h⟩
  cases g with
  | none =>
    refine (wb_cons (ws_ifT (tv_is (tv_ov (ov_orT (tv_is (tv_isN (wv_var B 0 rfl rfl (.inl rfl)) wv_non) rfl))) rfl) (wb_one (ws_ret ((wv_ifT (tv_is (tv_isN (wv_var B 0 rfl rfl (.inl rfl)) wv_non) rfl) (wv_var B 1 rfl rfl (.inl rfl))) _ _ ?ret1)))))
    case ret1 => exact h
  | some a =>
    cases g' with
    | none =>
      refine (wb_cons (ws_ifT (tv_is (tv_ov (ov_or (tv_isN (wv_var B 0 rfl rfl (.inl rfl)) wv_non) fun _ => (ov_or1 (tv_isN (wv_var B 1 rfl rfl (.inl rfl)) wv_non)))) rfl) (wb_one (ws_ret ((wv_ifF (tv_is (tv_isN (wv_var B 0 rfl rfl (.inl rfl)) wv_non) rfl) (wv_var B 0 rfl rfl (.inl rfl))) _ _ ?ret1)))))
      case ret1 => exact h
    | some b =>
      refine (wb_cons (ws_ifF (tv_is (tv_ov (ov_or (tv_isN (wv_var B 0 rfl rfl (.inl rfl)) wv_non) fun _ => (ov_or1 (tv_isN (wv_var B 1 rfl rfl (.inl rfl)) wv_non)))) rfl) (wb_nil (wb_one (ws_ret ((wv_max2 B m_max (av_cons (wv_var B 0 rfl rfl (.inl rfl)) (av_cons (wv_var B 1 rfl rfl (.inl rfl)) av_nil)) rfl) _ _ ?ret1))))))
      case ret1 => exact h
theorem sc_both_grains : FnScope ["one", "other"] ["one", "other"] (defScope (top 51)) := ⟨rfl, rfl, rfl, by decide +kernel, rfl, by decide +kernel, by decide +kernel⟩
theorem b_both_grains {X : Cx} (B : Bod X ["one", "other"] (defScope (top 51)) 0) (hsc : X.env.scope = defScope (top 51)) : ∀ ds t Φ, p_both_grains ds t Φ → WB X (defBody (top 51)) (ds.map some ++ List.replicate (2 - ds.length) none) t (fun _ t' => Φ .non t') Φ := by
  rintro _ t Φ ⟨_, ⟨g, g', rfl, rfl⟩, h⟩
  cases g with
  | none =>
    refine (wb_one (ws_ret ((wv_ifT (tv_is (tv_ov (ov_orT (tv_is (tv_isN (wv_var B 0 rfl rfl (.inl rfl)) wv_non) rfl))) rfl) wv_non) _ _ ?ret1)))
    case ret1 => exact h
  | some a =>
    cases g' with
    | none =>
      refine (wb_one (ws_ret ((wv_ifT (tv_is (tv_ov (ov_or (tv_isN (wv_var B 0 rfl rfl (.inl rfl)) wv_non) fun _ => (ov_or1 (tv_isN (wv_var B 1 rfl rfl (.inl rfl)) wv_non)))) rfl) wv_non) _ _ ?ret1)))
      case ret1 => exact h
    | some b =>
      refine (wb_one (ws_ret ((wv_ifF (tv_is (tv_ov (ov_or (tv_isN (wv_var B 0 rfl rfl (.inl rfl)) wv_non) fun _ => (ov_or1 (tv_isN (wv_var B 1 rfl rfl (.inl rfl)) wv_non)))) rfl) (wv_add (wv_var B 0 rfl rfl (.inl rfl)) (wv_var B 1 rfl rfl (.inl rfl)))) _ _ ?ret1)))
      case ret1 => exact h
section
open Classical
theorem sc_is_exact : FnScope ["ruler", "span", "grain"] ["ruler", "span", "grain"] (defScope (top 52)) := ⟨rfl, rfl, rfl, by decide +kernel, rfl, by decide +kernel, by decide +kernel⟩
theorem b_is_exact {X : Cx} (B : Bod X ["ruler", "span", "grain"] (defScope (top 52)) 3) (hsc : X.env.scope = defScope (top 52)) (G_is_less : Dfn X "is_less" 1 p_is_less) (G_power : Dfn X "power" 1 p_power) (G_great_size : Dfn X "great_size" 3 p_great_size) : ∀ ds t Φ, p_is_exact ds t Φ → WB X (defBody (top 52)) (ds.map some ++ List.replicate (3 - ds.length) none) t (fun _ t' => Φ .non t') Φ := by
  rintro _ t Φ ⟨_, ⟨r, a, b, g, rfl, hr, ha, hb, hg, rfl⟩, h⟩
  cases g with
  | none =>
    refine (wb_cons (ws_ifT (tv_is (tv_ov (ov_orT (tv_is (tv_isN (wv_var B 2 rfl rfl (.inl rfl)) wv_non) rfl))) rfl) (wb_one (ws_ret (wv_bl _ _ ?ret1)))))
    case ret1 =>
      rw [decide_eq_false (by rintro ⟨_, h1, _⟩; cases h1)] at h
      exact h
  | some g =>
    have hgb := hg g rfl
    have f1 := hr.f1; have f2 := hr.f2
    refine (wb_cons (ws_if ((tv_ov (ov_or (tv_isN (wv_var B 2 rfl rfl (.inl rfl)) wv_non) fun _ => (ov_or1 (tv_lt (wv_var B 2 rfl rfl (.inl rfl)) (wv_ixT (wv_var B 0 rfl rfl (.inl rfl)) wv_int rfl))))) _ _ ⟨fun k1 => (wb_one (ws_ret (wv_bl _ _ ?ret1))), fun k1 => (wb_nil (wb_one (ws_ret ((wv_not (wv_call B G_is_less (av_cons (wv_call B G_power (av_cons (wv_ixT (wv_var B 0 rfl rfl (.inl rfl)) wv_int rfl) (av_cons (wv_add (wv_var B 2 rfl rfl (.inl rfl)) (wv_ixT (wv_var B 0 rfl rfl (.inl rfl)) wv_int rfl)) av_nil)) (⟨r, g + r.F, rfl, hr, by omega, rfl⟩) rfl) (av_cons (wv_call B G_great_size (av_cons (wv_var B 1 rfl rfl (.inl rfl)) av_nil) (⟨a, b, rfl, ha, hb, rfl⟩) rfl) av_nil)) (⟨_, _, rfl, big_pw hr (by omega), ha.great hb, rfl⟩) rfl)) _ _ ?ret2))))⟩)))
    case ret1 =>
      have k : g < r.L := of_decide_eq_true k1
      rw [decide_eq_false (by rintro ⟨_, h1, h2, _⟩; cases h1; omega)] at h
      exact h
    case ret2 =>
      have k : ¬ g < r.L := of_decide_eq_false k1
      have e : (!decide (pw r (g + r.F) < greatSize a b)) = decide (exactly r a b (some g)) := by
        rw [← decide_not, decide_eq_decide]
        constructor
        · intro z
          exact ⟨g, rfl, by omega, Rat.not_lt.mp z⟩
        · rintro ⟨_, h1, _, h3⟩
          cases h1
          exact Rat.not_lt.mpr h3
      rw [e]
      exact h
theorem half_fr : v_HALF = fr (1 / 2) := by
  have e1 : (1 / 2 : Rat).num = 1 := by decide +kernel
  have e2 : (1 / 2 : Rat).den = 2 := by decide +kernel
  unfold fr v_HALF
  rw [e1, e2]
  rfl
theorem half_sz : Sz 2 (1 / 2 : Rat) := ⟨by decide +kernel, by decide +kernel⟩
theorem sc_slack : FnScope ["ruler", "span", "grain", "step"] ["ruler", "span", "grain"] (defScope (top 53)) := ⟨rfl, rfl, rfl, by decide +kernel, rfl, by decide +kernel, by decide +kernel⟩
theorem b_slack {X : Cx} (B : Bod X ["ruler", "span", "grain", "step"] (defScope (top 53)) 6) (hsc : X.env.scope = defScope (top 53)) (G_is_exact : Dfn X "is_exact" 4 p_is_exact) (G_step_of : Dfn X "step_of" 4 p_step_of) (G_off_of : Dfn X "off_of" 6 p_off_of) (G_great_size : Dfn X "great_size" 3 p_great_size) (G_times : Dfn X "times" 3 p_times) (g_HALF : Glb X "HALF" v_HALF) (g_NOUGHT : Glb X "NOUGHT" v_NOUGHT) : ∀ ds t Φ, p_slack ds t Φ → WB X (defBody (top 53)) (ds.map some ++ List.replicate (4 - ds.length) none) t (fun _ t' => Φ .non t') Φ := by
  rintro _ t Φ ⟨_, ⟨r, a, b, g, rfl, hr, ha, hb, hg, rfl⟩, h⟩
  have hst := (ha.great hb).step hr
  have se1 : decide (wayS r.w = "near") = true → fr (1 / 2 * step r (greatSize a b)) = fr (slackStep r (greatSize a b)) := fun k => by
    rw [way_near hr.w3] at k
    have k := of_decide_eq_true k
    unfold slackStep
    rw [if_pos k]
  have se2 : decide (wayS r.w = "near") = false → fr (step r (greatSize a b)) = fr (slackStep r (greatSize a b)) := fun k => by
    rw [way_near hr.w3] at k
    have k := of_decide_eq_false k
    unfold slackStep
    rw [if_neg k]
  unfold slack at h
  rw [half_fr] at g_HALF
  refine (wb_cons (ws_if ((tv_eqD B (wv_ixT (wv_var B 1 rfl rfl (.inl rfl)) wv_int rfl) (wv_ixT (wv_var B 1 rfl rfl (.inl rfl)) wv_int rfl) (rfl) (rfl) (rfl) (rfl) (fr_eqv a b)) _ _ ⟨fun k1 => (wb_one (ws_ret ((wv_call B G_off_of (av_cons (wv_var B 0 rfl rfl (.inl rfl)) (av_cons (wv_ixT (wv_var B 1 rfl rfl (.inl rfl)) wv_int rfl) av_nil)) (⟨r, a, rfl, hr, ha, rfl⟩) rfl) _ _ ?ret1))), fun k1 => (wb_nil (wb_cons (ws_if ((tv_val (wv_call B G_is_exact (av_cons (wv_var B 0 rfl rfl (.inl rfl)) (av_cons (wv_var B 1 rfl rfl (.inl rfl)) (av_cons (wv_var B 2 rfl rfl (.inl rfl)) av_nil))) (⟨r, a, b, g, rfl, hr, ha.le_big (by decide), hb.le_big (by decide), hg, rfl⟩) rfl)) _ _ ⟨fun k2 => (wb_one (ws_ret ((wv_glob B g_NOUGHT rfl) _ _ ?ret2))), fun k2 => (wb_nil (wb_cons (ws_set B 3 rfl (.inl rfl) ((wv_call B G_step_of (av_cons (wv_var B 0 rfl rfl (.inl rfl)) (av_cons (wv_call B G_great_size (av_cons (wv_var B 1 rfl rfl (.inl rfl)) av_nil) (⟨a, b, rfl, ha.le_big (by decide), hb.le_big (by decide), rfl⟩) rfl) av_nil)) (⟨r, _, rfl, hr, ha.great hb, rfl⟩) rfl) _ _ (wb_one (ws_ret ((wv_if (tv_eq (wv_ixT (wv_var B 0 rfl rfl (.inl rfl)) wv_int rfl) wv_str rfl) (fun k3 => wv_is (wv_call B G_times (av_cons (wv_glob B g_HALF rfl) (av_cons (wv_var B 3 rfl rfl (.inl rfl)) av_nil)) (⟨_, _, rfl, half_sz.le_big (by decide), hst.le_big (by decide), rfl⟩) rfl) (se1 k3)) (fun k3 => wv_is (wv_var B 3 rfl rfl (.inl rfl)) (se2 k3))) _ _ ?ret3)))))))⟩))))⟩)))
  case ret1 =>
    rw [if_pos (of_decide_eq_true k1)] at h
    exact h
  case ret2 =>
    rw [if_neg (of_decide_eq_false k1), if_pos (of_decide_eq_true k2)] at h
    exact h
  case ret3 =>
    rw [if_neg (of_decide_eq_false k1), if_neg (of_decide_eq_false k2)] at h
    exact h
end
end RS
/-! part RSRule -/
namespace RS
open PySem L2
/-! ### the promises of the module rules -/
/-- an entry with no great figures -/
structure Ent.Ok (e : Ent) : Prop where
  lo : Sz 150 e.lo
  hi : Sz 150 e.hi
  tlo : Sz 150 e.tlo
  thi : Sz 150 e.thi
  err : Sz 150 e.err
  g : ∀ a, e.g = some a → a.natAbs ≤ 400
abbrev Low (q : Rat) : Prop := Sz 350 q
theorem Sz.b {n : Nat} {q : Rat} (h : Sz n q) (hn : n ≤ 4000 := by decide) : Big q := h.le hn
theorem Sz.m {n : Nat} {q : Rat} (h : Sz n q) (hn : n ≤ 1500 := by decide) : Mid q := h.le hn
theorem Sz.l {n : Nat} {q : Rat} (h : Sz n q) (hn : n ≤ 350 := by decide) : Low q := h.le hn
def p_rounded_part : Pr := det fun ds d => ∃ e : Ent, ds = [en e] ∧ d = sp e.lo e.hi
def p_true_part : Pr := det fun ds d => ∃ e : Ent, ds = [en e] ∧ d = sp e.tlo e.thi
def p_last_entry : Pr := det fun ds d => ∃ (r : Ruler) (lo hi tlo thi err : Rat) (g : Option Int), ds = [rul r, sp lo hi, sp tlo thi, fr err, gr g] ∧ r.Ok ∧ Low lo ∧ Low hi ∧ Low tlo ∧ Low thi ∧ Mid err ∧ d = en (lastEnt r lo hi tlo thi err g)
def p_rounded_entry : Pr := det fun ds d => ∃ (r : Ruler) (lo hi tlo thi err : Rat) (g : Option Int), ds = [rul r, sp lo hi, sp tlo thi, fr err, gr g] ∧ r.Ok ∧ Sz 310 lo ∧ Sz 310 hi ∧ Low tlo ∧ Low thi ∧ Sz 800 err ∧ GB g ∧ d = en (roundEnt r lo hi tlo thi err g)
def p_sum_entry : Pr := det fun ds d => ∃ (r : Ruler) (w : Str) (x y : Ent), ds = [rul r, .str w, en x, en y] ∧ r.Ok ∧ x.Ok ∧ y.Ok ∧ (w = "plus" ∧ d = en (sumEnt r x y) ∨ w = "less" ∧ d = en (diffEnt r x y))
def p_product_entry : Pr := det fun ds d => ∃ (r : Ruler) (x y : Ent), ds = [rul r, en x, en y] ∧ r.Ok ∧ x.Ok ∧ y.Ok ∧ d = en (prodEnt r x y)
def p_single_entry : Pr := det fun ds d => ∃ (r : Ruler) (w : Str) (x : Ent), ds = [rul r, .str w, en x] ∧ r.Ok ∧ x.Ok ∧ (w = "turned" ∧ d = en (turnedEnt r x) ∨ w = "size" ∧ d = en (sizeEnt r x))
def p_chosen_entry : Pr := det fun ds d => ∃ (r : Ruler) (w : Str) (x y : Ent), ds = [rul r, .str w, en x, en y] ∧ r.Ok ∧ x.Ok ∧ y.Ok ∧ (w = "least" ∧ d = en (leastEnt r x y) ∨ w = "most" ∧ d = en (mostEnt r x y))
def bi (s : Bool) : Int := if s then 1 else 0
def p_sides : Pr := det fun ds d => ∃ a b c e, ds = [sp a b, sp c e] ∧ Big a ∧ Big b ∧ Big c ∧ Big e ∧ d = .tup ((sideList (sides a b c e)).map fun s => .int (bi s))
def p_picked_entry : Pr := det fun ds d => ∃ (r : Ruler) (x y u v : Ent) (same : Bool), ds = [rul r, en x, en y, .lst [en u, en v], .bl same] ∧ r.Ok ∧ x.Ok ∧ y.Ok ∧ u.Ok ∧ v.Ok ∧ d = en (pickEnt r x y u v same)
theorem sc_rounded_part : FnScope ["entry"] ["entry"] (defScope (top 55)) := ⟨rfl, rfl, rfl, by decide +kernel, rfl, by decide +kernel, by decide +kernel⟩
theorem b_rounded_part {X : Cx} (B : Bod X ["entry"] (defScope (top 55)) 0) (hsc : X.env.scope = defScope (top 55)) : ∀ ds t Φ, p_rounded_part ds t Φ → WB X (defBody (top 55)) (ds.map some ++ List.replicate (1 - ds.length) none) t (fun _ t' => Φ .non t') Φ := by
  rintro _ t Φ ⟨_, ⟨e, rfl, rfl⟩, h⟩
  refine (wb_one (ws_ret ((wv_slT (wv_var B 0 rfl rfl (.inl rfl)) po_n po_c (of_decide_eq_false rfl)) _ _ ?ret1)))
  case ret1 => exact h
theorem sc_true_part : FnScope ["entry"] ["entry"] (defScope (top 56)) := ⟨rfl, rfl, rfl, by decide +kernel, rfl, by decide +kernel, by decide +kernel⟩
theorem b_true_part {X : Cx} (B : Bod X ["entry"] (defScope (top 56)) 0) (hsc : X.env.scope = defScope (top 56)) : ∀ ds t Φ, p_true_part ds t Φ → WB X (defBody (top 56)) (ds.map some ++ List.replicate (1 - ds.length) none) t (fun _ t' => Φ .non t') Φ := by
  rintro _ t Φ ⟨_, ⟨e, rfl, rfl⟩, h⟩
  refine (wb_one (ws_ret ((wv_slT (wv_var B 0 rfl rfl (.inl rfl)) po_c po_c (of_decide_eq_false rfl)) _ _ ?ret1)))
  case ret1 => exact h
theorem gr_last {r : Ruler} {lo hi : Rat} {g : Option Int} : ((gr (grainSpan r lo hi)).isNon = true → D.non = gr (lastGrain r lo hi g)) ∧ ((gr (grainSpan r lo hi)).isNon = false → gr (greatGrain (grainSpan r lo hi) g) = gr (lastGrain r lo hi g)) := by
  unfold lastGrain
  cases e : grainSpan r lo hi with
  | none => exact ⟨fun _ => rfl, fun z => (by cases z)⟩
  | some o => exact ⟨fun z => (by cases z), fun _ => rfl⟩
theorem sc_last_entry : FnScope ["ruler", "span", "trues", "err", "grain", "found", "own", "number"] ["ruler", "span", "trues", "err", "grain"] (defScope (top 57)) := ⟨rfl, rfl, rfl, by decide +kernel, rfl, by decide +kernel, by decide +kernel⟩
theorem b_last_entry {X : Cx} (B : Bod X ["ruler", "span", "trues", "err", "grain", "found", "own", "number"] (defScope (top 57)) 6) (hsc : X.env.scope = defScope (top 57)) (G_grain_of_span : Dfn X "grain_of_span" 6 p_grain_of_span) (G_lesser : Dfn X "lesser" 2 p_lesser) (G_apart : Dfn X "apart" 5 p_apart) (G_need_small : Dfn X "need_small" 2 p_need_small) (G_great_grain : Dfn X "great_grain" 1 p_great_grain) (m_tuple : X.mg "tuple" = none) (m_list : X.mg "list" = none) : ∀ ds t Φ, p_last_entry ds t Φ → WB X (defBody (top 57)) (ds.map some ++ List.replicate (8 - ds.length) none) t (fun _ t' => Φ .non t') Φ := by
  rintro _ t Φ ⟨_, ⟨r, lo, hi, tlo, thi, err, g, rfl, hr, h1, h2, h3, h4, h5, rfl⟩, h⟩
  have hap : Sz 701 (apart lo hi tlo thi) := (h2.sub h3).max (h4.sub h1)
  refine (wb_cons (ws_set B 5 rfl (.inl rfl) ((wv_cat (wv_cat (wv_list B m_list (av_cons (wv_var B 1 rfl rfl (.inl rfl)) av_nil) rfl) (wv_list B m_list (av_cons (wv_var B 2 rfl rfl (.inl rfl)) av_nil) rfl) (len_le rfl)) (wv_lst (av_cons (wv_call B G_lesser (av_cons (wv_var B 3 rfl rfl (.inl rfl)) (av_cons (wv_call B G_apart (av_cons (wv_var B 1 rfl rfl (.inl rfl)) (av_cons (wv_var B 2 rfl rfl (.inl rfl)) av_nil)) (⟨lo, hi, tlo, thi, rfl, h1.m, h2.m, h3.m, h4.m, rfl⟩) rfl) av_nil)) (⟨err, _, rfl, h5.b, hap.b, rfl⟩) rfl) av_nil) (len_le rfl)) (len_le rfl)) _ _ (wb_cons (ws_set B 6 rfl (.inl rfl) ((wv_call B G_grain_of_span (av_cons (wv_var B 0 rfl rfl (.inl rfl)) (av_cons (wv_ixT (wv_var B 1 rfl rfl (.inl rfl)) wv_int rfl) (av_cons (wv_ixT (wv_var B 1 rfl rfl (.inl rfl)) wv_int rfl) av_nil))) (⟨r, lo, hi, rfl, hr, h1, h2, rfl⟩) rfl) _ _ (wb_one (ws_ret ((wv_tuple B m_tuple (av_cons (wv_cat (wv_lcL (i := 7) (l := [fr lo, fr hi, fr tlo, fr thi, fr (min err (apart lo hi tlo thi))]) (out := [fr lo, fr hi, fr tlo, fr thi, fr (min err (apart lo hi tlo thi))]) B (by rw [hsc]; exact ⟨rfl, by decide +kernel, by decide +kernel, by decide +kernel, by decide +kernel⟩) rfl rfl (wv_var B 5 rfl rfl (.inl rfl)) (Nat.le_of_ble_eq_true rfl) rfl rfl ?el1) (wv_lst (av_cons (wv_if (tv_isN (wv_var B 6 rfl rfl (.inl rfl)) wv_non) (fun k1 => wv_is wv_non (gr_last.1 k1)) (fun k1 => wv_is (wv_call B G_great_grain (av_cons (wv_var B 6 rfl rfl (.inl rfl)) (av_cons (wv_var B 4 rfl rfl (.inl rfl)) av_nil)) (⟨_, g, rfl, rfl⟩) rfl) (gr_last.2 k1))) av_nil) (len_le rfl)) (len_le rfl)) av_nil) rfl) _ _ ?ret1)))))))))
  case ret1 => exact h
  case el1 =>
    intro j d q hd hq X' b
    rw [hd] at hq
    cases hq
    obtain ⟨x, hx, rfl⟩ := fr_inj_at (l := [lo, hi, tlo, thi, min err (apart lo hi tlo thi)]) hd
    have hs : Sz 1990 x := by
      have hm : x ∈ [lo, hi, tlo, thi, min err (apart lo hi tlo thi)] := List.mem_of_getElem? hx
      simp only [List.mem_cons, List.not_mem_nil, or_false] at hm
      rcases hm with rfl | rfl | rfl | rfl | rfl
      · exact h1.le (by decide)
      · exact h2.le (by decide)
      · exact h3.le (by decide)
      · exact h4.le (by decide)
      · exact (h5.min (hap.m)).le (by decide)
    exact wv_call (b.bod B) (b.dfn G_need_small) (av_cons (wv_var (b.bod B) 7 rfl rfl (.inl rfl)) av_nil) ⟨x, rfl, hs, rfl⟩ rfl
theorem sc_rounded_entry : FnScope ["ruler", "span", "trues", "err", "grain", "marks"] ["ruler", "span", "trues", "err", "grain"] (defScope (top 58)) := ⟨rfl, rfl, rfl, by decide +kernel, rfl, by decide +kernel, by decide +kernel⟩
theorem b_rounded_entry {X : Cx} (B : Bod X ["ruler", "span", "trues", "err", "grain", "marks"] (defScope (top 58)) 7) (hsc : X.env.scope = defScope (top 58)) (G_last_entry : Dfn X "last_entry" 7 p_last_entry) (G_rounded : Dfn X "rounded" 5 p_rounded) (G_plus : Dfn X "plus" 3 p_plus) (G_slack : Dfn X "slack" 7 p_slack) : ∀ ds t Φ, p_rounded_entry ds t Φ → WB X (defBody (top 58)) (ds.map some ++ List.replicate (6 - ds.length) none) t (fun _ t' => Φ .non t') Φ := by
  rintro _ t Φ ⟨_, ⟨r, lo, hi, tlo, thi, err, g, rfl, hr, h1, h2, h3, h4, h5, hg, rfl⟩, h⟩
  have hsl := Sz.slack hr (g := g) h1 h2
  refine (wb_cons (ws_set B 5 rfl (.inl rfl) ((wv_tup (av_cons (wv_call B G_rounded (av_cons (wv_var B 0 rfl rfl (.inl rfl)) (av_cons (wv_ixT (wv_var B 1 rfl rfl (.inl rfl)) wv_int rfl) av_nil)) (⟨r, lo, rfl, hr, h1.l, rfl⟩) rfl) (av_cons (wv_call B G_rounded (av_cons (wv_var B 0 rfl rfl (.inl rfl)) (av_cons (wv_ixT (wv_var B 1 rfl rfl (.inl rfl)) wv_int rfl) av_nil)) (⟨r, hi, rfl, hr, h2.l, rfl⟩) rfl) av_nil)) (len_le rfl)) _ _ (wb_one (ws_ret ((wv_call B G_last_entry (av_cons (wv_var B 0 rfl rfl (.inl rfl)) (av_cons (wv_var B 5 rfl rfl (.inl rfl)) (av_cons (wv_var B 2 rfl rfl (.inl rfl)) (av_cons (wv_call B G_plus (av_cons (wv_var B 3 rfl rfl (.inl rfl)) (av_cons (wv_call B G_slack (av_cons (wv_var B 0 rfl rfl (.inl rfl)) (av_cons (wv_var B 1 rfl rfl (.inl rfl)) (av_cons (wv_var B 4 rfl rfl (.inl rfl)) av_nil))) (⟨r, lo, hi, g, rfl, hr, h1.l, h2.l, hg, rfl⟩) rfl) av_nil)) (⟨err, _, rfl, h5.b, hsl.b, rfl⟩) rfl) (av_cons (wv_var B 4 rfl rfl (.inl rfl)) av_nil))))) (⟨r, rnd r lo, rnd r hi, tlo, thi, _, g, rfl, hr, h1.rnd hr, h2.rnd hr, h3, h4, (h5.add hsl).m, rfl⟩) rfl) _ _ ?ret1))))))
  case ret1 => exact h
theorem gb_less {x y : Ent} (hx : x.Ok) (hy : y.Ok) : GB (lessGrain x.g y.g) := by
  intro a ha
  have h1 := hx.g; have h2 := hy.g
  cases e1 : x.g with
  | none =>
    rw [e1] at ha
    have := h2 a ha
    omega
  | some b =>
    have b1 := h1 b e1
    cases e2 : y.g with
    | none =>
      rw [e1, e2] at ha
      cases ha
      omega
    | some c =>
      have c1 := h2 c e2
      rw [e1, e2] at ha
      have : min b c = a := Option.some.inj ha
      omega
theorem gb_both {x y : Ent} (hx : x.Ok) (hy : y.Ok) : GB (bothGrains x.g y.g) := by
  intro a ha
  obtain ⟨b, c, e1, e2, rfl⟩ := both_some ha
  have h1 := hx.g b e1; have h2 := hy.g c e2
  omega
theorem sc_sum_entry : FnScope ["ruler", "word", "one", "other", "spans", "trues", "span", "true"] ["ruler", "word", "one", "other"] (defScope (top 59)) := ⟨rfl, rfl, rfl, by decide +kernel, rfl, by decide +kernel, by decide +kernel⟩
theorem b_sum_entry {X : Cx} (B : Bod X ["ruler", "word", "one", "other", "spans", "trues", "span", "true"] (defScope (top 59)) 8) (hsc : X.env.scope = defScope (top 59)) (G_rounded_entry : Dfn X "rounded_entry" 8 p_rounded_entry) (G_rounded_part : Dfn X "rounded_part" 1 p_rounded_part) (G_true_part : Dfn X "true_part" 1 p_true_part) (G_plus_spans : Dfn X "plus_spans" 4 p_plus_spans) (G_less_spans : Dfn X "less_spans" 5 p_less_spans) (G_plus : Dfn X "plus" 3 p_plus) (G_less_grain : Dfn X "less_grain" 1 p_less_grain) : ∀ ds t Φ, p_sum_entry ds t Φ → WB X (defBody (top 59)) (ds.map some ++ List.replicate (8 - ds.length) none) t (fun _ t' => Φ .non t') Φ := by
  rintro _ t Φ ⟨_, ⟨r, w, x, y, rfl, hr, hx, hy, hw⟩, h⟩
  rcases hw with ⟨rfl, rfl⟩ | ⟨rfl, rfl⟩
  · refine (wb_cons (ws_set B 4 rfl (.inl rfl) ((wv_tup (av_cons (wv_call B G_rounded_part (av_cons (wv_var B 2 rfl rfl (.inl rfl)) av_nil) (⟨x, rfl, rfl⟩) rfl) (av_cons (wv_call B G_rounded_part (av_cons (wv_var B 3 rfl rfl (.inl rfl)) av_nil) (⟨y, rfl, rfl⟩) rfl) av_nil)) (len_le rfl)) _ _ (wb_cons (ws_set B 5 rfl (.inl rfl) ((wv_tup (av_cons (wv_call B G_true_part (av_cons (wv_var B 2 rfl rfl (.inl rfl)) av_nil) (⟨x, rfl, rfl⟩) rfl) (av_cons (wv_call B G_true_part (av_cons (wv_var B 3 rfl rfl (.inl rfl)) av_nil) (⟨y, rfl, rfl⟩) rfl) av_nil)) (len_le rfl)) _ _ (wb_cons (ws_set B 6 rfl (.inl rfl) ((wv_ifT (tv_is (tv_eq (wv_var B 1 rfl rfl (.inl rfl)) wv_str rfl) rfl) (wv_call B G_plus_spans (av_cons (wv_ixT (wv_var B 4 rfl rfl (.inl rfl)) wv_int rfl) (av_cons (wv_ixT (wv_var B 4 rfl rfl (.inl rfl)) wv_int rfl) av_nil)) (⟨x.lo, x.hi, y.lo, y.hi, rfl, hx.lo.b, hx.hi.b, hy.lo.b, hy.hi.b, rfl⟩) rfl)) _ _ (wb_cons (ws_set B 7 rfl (.inl rfl) ((wv_ifT (tv_is (tv_eq (wv_var B 1 rfl rfl (.inl rfl)) wv_str rfl) rfl) (wv_call B G_plus_spans (av_cons (wv_ixT (wv_var B 5 rfl rfl (.inl rfl)) wv_int rfl) (av_cons (wv_ixT (wv_var B 5 rfl rfl (.inl rfl)) wv_int rfl) av_nil)) (⟨x.tlo, x.thi, y.tlo, y.thi, rfl, hx.tlo.b, hx.thi.b, hy.tlo.b, hy.thi.b, rfl⟩) rfl)) _ _ (wb_one (ws_ret ((wv_call B G_rounded_entry (av_cons (wv_var B 0 rfl rfl (.inl rfl)) (av_cons (wv_var B 6 rfl rfl (.inl rfl)) (av_cons (wv_var B 7 rfl rfl (.inl rfl)) (av_cons (wv_call B G_plus (av_cons (wv_ixT (wv_var B 2 rfl rfl (.inl rfl)) wv_int rfl) (av_cons (wv_ixT (wv_var B 3 rfl rfl (.inl rfl)) wv_int rfl) av_nil)) (⟨x.err, y.err, rfl, hx.err.b, hy.err.b, rfl⟩) rfl) (av_cons (wv_call B G_less_grain (av_cons (wv_ixT (wv_var B 2 rfl rfl (.inl rfl)) wv_int rfl) (av_cons (wv_ixT (wv_var B 3 rfl rfl (.inl rfl)) wv_int rfl) av_nil)) (⟨x.g, y.g, rfl, rfl⟩) rfl) av_nil))))) (⟨r, _, _, _, _, _, _, rfl, hr, (hx.lo.add hy.lo).le (by decide), (hx.hi.add hy.hi).le (by decide), (hx.tlo.add hy.tlo).l, (hx.thi.add hy.thi).l, (hx.err.add hy.err).le (by decide), gb_less hx hy, rfl⟩) rfl) _ _ ?ret1)))))))))))))))
    case ret1 => exact h
  · refine (wb_cons (ws_set B 4 rfl (.inl rfl) ((wv_tup (av_cons (wv_call B G_rounded_part (av_cons (wv_var B 2 rfl rfl (.inl rfl)) av_nil) (⟨x, rfl, rfl⟩) rfl) (av_cons (wv_call B G_rounded_part (av_cons (wv_var B 3 rfl rfl (.inl rfl)) av_nil) (⟨y, rfl, rfl⟩) rfl) av_nil)) (len_le rfl)) _ _ (wb_cons (ws_set B 5 rfl (.inl rfl) ((wv_tup (av_cons (wv_call B G_true_part (av_cons (wv_var B 2 rfl rfl (.inl rfl)) av_nil) (⟨x, rfl, rfl⟩) rfl) (av_cons (wv_call B G_true_part (av_cons (wv_var B 3 rfl rfl (.inl rfl)) av_nil) (⟨y, rfl, rfl⟩) rfl) av_nil)) (len_le rfl)) _ _ (wb_cons (ws_set B 6 rfl (.inl rfl) ((wv_ifF (tv_is (tv_eq (wv_var B 1 rfl rfl (.inl rfl)) wv_str rfl) rfl) (wv_call B G_less_spans (av_cons (wv_ixT (wv_var B 4 rfl rfl (.inl rfl)) wv_int rfl) (av_cons (wv_ixT (wv_var B 4 rfl rfl (.inl rfl)) wv_int rfl) av_nil)) (⟨x.lo, x.hi, y.lo, y.hi, rfl, hx.lo.b, hx.hi.b, hy.lo.b, hy.hi.b, rfl⟩) rfl)) _ _ (wb_cons (ws_set B 7 rfl (.inl rfl) ((wv_ifF (tv_is (tv_eq (wv_var B 1 rfl rfl (.inl rfl)) wv_str rfl) rfl) (wv_call B G_less_spans (av_cons (wv_ixT (wv_var B 5 rfl rfl (.inl rfl)) wv_int rfl) (av_cons (wv_ixT (wv_var B 5 rfl rfl (.inl rfl)) wv_int rfl) av_nil)) (⟨x.tlo, x.thi, y.tlo, y.thi, rfl, hx.tlo.b, hx.thi.b, hy.tlo.b, hy.thi.b, rfl⟩) rfl)) _ _ (wb_one (ws_ret ((wv_call B G_rounded_entry (av_cons (wv_var B 0 rfl rfl (.inl rfl)) (av_cons (wv_var B 6 rfl rfl (.inl rfl)) (av_cons (wv_var B 7 rfl rfl (.inl rfl)) (av_cons (wv_call B G_plus (av_cons (wv_ixT (wv_var B 2 rfl rfl (.inl rfl)) wv_int rfl) (av_cons (wv_ixT (wv_var B 3 rfl rfl (.inl rfl)) wv_int rfl) av_nil)) (⟨x.err, y.err, rfl, hx.err.b, hy.err.b, rfl⟩) rfl) (av_cons (wv_call B G_less_grain (av_cons (wv_ixT (wv_var B 2 rfl rfl (.inl rfl)) wv_int rfl) (av_cons (wv_ixT (wv_var B 3 rfl rfl (.inl rfl)) wv_int rfl) av_nil)) (⟨x.g, y.g, rfl, rfl⟩) rfl) av_nil))))) (⟨r, _, _, _, _, _, _, rfl, hr, (hx.lo.add hy.hi.neg).le (by decide), (hx.hi.add hy.lo.neg).le (by decide), (hx.tlo.add hy.thi.neg).l, (hx.thi.add hy.tlo.neg).l, (hx.err.add hy.err).le (by decide), gb_less hx hy, rfl⟩) rfl) _ _ ?ret1)))))))))))))))
    case ret1 => exact h
theorem sz_mulLo {m n : Nat} {a b c e : Rat} (ha : Sz m a) (hb : Sz m b) (hc : Sz n c) (he : Sz n e) : Sz (m + n) (mulLo a b c e) := Sz.lo4 (ha.mul hc) (ha.mul he) (hb.mul hc) (hb.mul he)
theorem sz_mulHi {m n : Nat} {a b c e : Rat} (ha : Sz m a) (hb : Sz m b) (hc : Sz n c) (he : Sz n e) : Sz (m + n) (mulHi a b c e) := Sz.hi4 (ha.mul hc) (ha.mul he) (hb.mul hc) (hb.mul he)
theorem sz_divLo {m n : Nat} {a b c e : Rat} (ha : Sz m a) (hb : Sz m b) (hc : Sz n c) (he : Sz n e) : Sz (m + n) (divLo a b c e) := Sz.lo4 (ha.div hc) (ha.div he) (hb.div hc) (hb.div he)
theorem sz_divHi {m n : Nat} {a b c e : Rat} (ha : Sz m a) (hb : Sz m b) (hc : Sz n c) (he : Sz n e) : Sz (m + n) (divHi a b c e) := Sz.hi4 (ha.div hc) (ha.div he) (hb.div hc) (hb.div he)
theorem sc_product_entry : FnScope ["ruler", "one", "other", "span", "true", "err"] ["ruler", "one", "other"] (defScope (top 60)) := ⟨rfl, rfl, rfl, by decide +kernel, rfl, by decide +kernel, by decide +kernel⟩
theorem b_product_entry {X : Cx} (B : Bod X ["ruler", "one", "other", "span", "true", "err"] (defScope (top 60)) 8) (hsc : X.env.scope = defScope (top 60)) (G_times_spans : Dfn X "times_spans" 4 p_times_spans) (G_plus : Dfn X "plus" 3 p_plus) (G_rounded_entry : Dfn X "rounded_entry" 8 p_rounded_entry) (G_rounded_part : Dfn X "rounded_part" 1 p_rounded_part) (G_true_part : Dfn X "true_part" 1 p_true_part) (G_times : Dfn X "times" 3 p_times) (G_both_grains : Dfn X "both_grains" 1 p_both_grains) (G_great_size : Dfn X "great_size" 3 p_great_size) : ∀ ds t Φ, p_product_entry ds t Φ → WB X (defBody (top 60)) (ds.map some ++ List.replicate (6 - ds.length) none) t (fun _ t' => Φ .non t') Φ := by
  rintro _ t Φ ⟨_, ⟨r, x, y, rfl, hr, hx, hy, rfl⟩, h⟩
  have g1 : Sz 150 (greatSize x.lo x.hi) := hx.lo.great hx.hi
  have g2 : Sz 150 (greatSize y.tlo y.thi) := hy.tlo.great hy.thi
  refine (wb_cons (ws_set B 3 rfl (.inl rfl) ((wv_call B G_times_spans (av_cons (wv_call B G_rounded_part (av_cons (wv_var B 1 rfl rfl (.inl rfl)) av_nil) (⟨x, rfl, rfl⟩) rfl) (av_cons (wv_call B G_rounded_part (av_cons (wv_var B 2 rfl rfl (.inl rfl)) av_nil) (⟨y, rfl, rfl⟩) rfl) av_nil)) (⟨x.lo, x.hi, y.lo, y.hi, rfl, hx.lo.m, hx.hi.m, hy.lo.m, hy.hi.m, rfl⟩) rfl) _ _ (wb_cons (ws_set B 4 rfl (.inl rfl) ((wv_call B G_times_spans (av_cons (wv_call B G_true_part (av_cons (wv_var B 1 rfl rfl (.inl rfl)) av_nil) (⟨x, rfl, rfl⟩) rfl) (av_cons (wv_call B G_true_part (av_cons (wv_var B 2 rfl rfl (.inl rfl)) av_nil) (⟨y, rfl, rfl⟩) rfl) av_nil)) (⟨x.tlo, x.thi, y.tlo, y.thi, rfl, hx.tlo.m, hx.thi.m, hy.tlo.m, hy.thi.m, rfl⟩) rfl) _ _ (wb_cons (ws_set B 5 rfl (.inl rfl) ((wv_call B G_plus (av_cons (wv_call B G_times (av_cons (wv_call B G_great_size (av_cons (wv_call B G_rounded_part (av_cons (wv_var B 1 rfl rfl (.inl rfl)) av_nil) (⟨x, rfl, rfl⟩) rfl) av_nil) (⟨x.lo, x.hi, rfl, hx.lo.b, hx.hi.b, rfl⟩) rfl) (av_cons (wv_ixT (wv_var B 2 rfl rfl (.inl rfl)) wv_int rfl) av_nil)) (⟨_, y.err, rfl, g1.b, hy.err.b, rfl⟩) rfl) (av_cons (wv_call B G_times (av_cons (wv_call B G_great_size (av_cons (wv_call B G_true_part (av_cons (wv_var B 2 rfl rfl (.inl rfl)) av_nil) (⟨y, rfl, rfl⟩) rfl) av_nil) (⟨y.tlo, y.thi, rfl, hy.tlo.b, hy.thi.b, rfl⟩) rfl) (av_cons (wv_ixT (wv_var B 1 rfl rfl (.inl rfl)) wv_int rfl) av_nil)) (⟨_, x.err, rfl, g2.b, hx.err.b, rfl⟩) rfl) av_nil)) (⟨_, _, rfl, (g1.mul hy.err).b, (g2.mul hx.err).b, rfl⟩) rfl) _ _ (wb_one (ws_ret ((wv_call B G_rounded_entry (av_cons (wv_var B 0 rfl rfl (.inl rfl)) (av_cons (wv_var B 3 rfl rfl (.inl rfl)) (av_cons (wv_var B 4 rfl rfl (.inl rfl)) (av_cons (wv_var B 5 rfl rfl (.inl rfl)) (av_cons (wv_call B G_both_grains (av_cons (wv_ixT (wv_var B 1 rfl rfl (.inl rfl)) wv_int rfl) (av_cons (wv_ixT (wv_var B 2 rfl rfl (.inl rfl)) wv_int rfl) av_nil)) (⟨x.g, y.g, rfl, rfl⟩) rfl) av_nil))))) (⟨r, _, _, _, _, _, _, rfl, hr, (sz_mulLo hx.lo hx.hi hy.lo hy.hi).le (by decide), (sz_mulHi hx.lo hx.hi hy.lo hy.hi).le (by decide), (sz_mulLo hx.tlo hx.thi hy.tlo hy.thi).l, (sz_mulHi hx.tlo hx.thi hy.tlo hy.thi).l, ((g1.mul hy.err).add (g2.mul hx.err)).le (by decide), gb_both hx hy, rfl⟩) rfl) _ _ ?ret1))))))))))))
  case ret1 => exact h
theorem sc_single_entry : FnScope ["ruler", "word", "one"] ["ruler", "word", "one"] (defScope (top 62)) := ⟨rfl, rfl, rfl, by decide +kernel, rfl, by decide +kernel, by decide +kernel⟩
theorem b_single_entry {X : Cx} (B : Bod X ["ruler", "word", "one"] (defScope (top 62)) 7) (hsc : X.env.scope = defScope (top 62)) (G_last_entry : Dfn X "last_entry" 7 p_last_entry) (G_size_span : Dfn X "size_span" 4 p_size_span) (G_turned_span : Dfn X "turned_span" 2 p_turned_span) (G_rounded_part : Dfn X "rounded_part" 1 p_rounded_part) (G_true_part : Dfn X "true_part" 1 p_true_part) : ∀ ds t Φ, p_single_entry ds t Φ → WB X (defBody (top 62)) (ds.map some ++ List.replicate (3 - ds.length) none) t (fun _ t' => Φ .non t') Φ := by
  rintro _ t Φ ⟨_, ⟨r, w, x, rfl, hr, hx, hw⟩, h⟩
  rcases hw with ⟨rfl, rfl⟩ | ⟨rfl, rfl⟩
  · refine (wb_cons (ws_ifT (tv_is (tv_eq (wv_var B 1 rfl rfl (.inl rfl)) wv_str rfl) rfl) (wb_one (ws_ret ((wv_call B G_last_entry (av_cons (wv_var B 0 rfl rfl (.inl rfl)) (av_cons (wv_call B G_turned_span (av_cons (wv_call B G_rounded_part (av_cons (wv_var B 2 rfl rfl (.inl rfl)) av_nil) (⟨x, rfl, rfl⟩) rfl) av_nil) (⟨x.lo, x.hi, rfl, rfl⟩) rfl) (av_cons (wv_call B G_turned_span (av_cons (wv_call B G_true_part (av_cons (wv_var B 2 rfl rfl (.inl rfl)) av_nil) (⟨x, rfl, rfl⟩) rfl) av_nil) (⟨x.tlo, x.thi, rfl, rfl⟩) rfl) (av_cons (wv_ixT (wv_var B 2 rfl rfl (.inl rfl)) wv_int rfl) (av_cons (wv_ixT (wv_var B 2 rfl rfl (.inl rfl)) wv_int rfl) av_nil))))) (⟨r, _, _, _, _, x.err, x.g, rfl, hr, hx.hi.neg.l, hx.lo.neg.l, hx.thi.neg.l, hx.tlo.neg.l, hx.err.m, rfl⟩) rfl) _ _ ?ret1)))))
    case ret1 => exact h
  · refine (wb_cons (ws_ifF (tv_is (tv_eq (wv_var B 1 rfl rfl (.inl rfl)) wv_str rfl) rfl) (wb_nil (wb_one (ws_ret ((wv_call B G_last_entry (av_cons (wv_var B 0 rfl rfl (.inl rfl)) (av_cons (wv_call B G_size_span (av_cons (wv_call B G_rounded_part (av_cons (wv_var B 2 rfl rfl (.inl rfl)) av_nil) (⟨x, rfl, rfl⟩) rfl) av_nil) (⟨x.lo, x.hi, rfl, hx.lo.b, hx.hi.b, rfl⟩) rfl) (av_cons (wv_call B G_size_span (av_cons (wv_call B G_true_part (av_cons (wv_var B 2 rfl rfl (.inl rfl)) av_nil) (⟨x, rfl, rfl⟩) rfl) av_nil) (⟨x.tlo, x.thi, rfl, hx.tlo.b, hx.thi.b, rfl⟩) rfl) (av_cons (wv_ixT (wv_var B 2 rfl rfl (.inl rfl)) wv_int rfl) (av_cons (wv_ixT (wv_var B 2 rfl rfl (.inl rfl)) wv_int rfl) av_nil))))) (⟨r, _, _, _, _, x.err, x.g, rfl, hr, (hx.lo.small hx.hi (by decide)).l, (hx.lo.great hx.hi).l, (hx.tlo.small hx.thi (by decide)).l, (hx.tlo.great hx.thi).l, hx.err.m, rfl⟩) rfl) _ _ ?ret1))))))
    case ret1 => exact h
theorem sc_chosen_entry : FnScope ["ruler", "word", "one", "other", "spans", "trues", "span", "true"] ["ruler", "word", "one", "other"] (defScope (top 63)) := ⟨rfl, rfl, rfl, by decide +kernel, rfl, by decide +kernel, by decide +kernel⟩
theorem b_chosen_entry {X : Cx} (B : Bod X ["ruler", "word", "one", "other", "spans", "trues", "span", "true"] (defScope (top 63)) 7) (hsc : X.env.scope = defScope (top 63)) (G_last_entry : Dfn X "last_entry" 7 p_last_entry) (G_rounded_part : Dfn X "rounded_part" 1 p_rounded_part) (G_true_part : Dfn X "true_part" 1 p_true_part) (G_least_span : Dfn X "least_span" 3 p_least_span) (G_most_span : Dfn X "most_span" 3 p_most_span) (G_greater : Dfn X "greater" 2 p_greater) (G_less_grain : Dfn X "less_grain" 1 p_less_grain) : ∀ ds t Φ, p_chosen_entry ds t Φ → WB X (defBody (top 63)) (ds.map some ++ List.replicate (8 - ds.length) none) t (fun _ t' => Φ .non t') Φ := by
  rintro _ t Φ ⟨_, ⟨r, w, x, y, rfl, hr, hx, hy, hw⟩, h⟩
  rcases hw with ⟨rfl, rfl⟩ | ⟨rfl, rfl⟩
  · refine (wb_cons (ws_set B 4 rfl (.inl rfl) ((wv_tup (av_cons (wv_call B G_rounded_part (av_cons (wv_var B 2 rfl rfl (.inl rfl)) av_nil) (⟨x, rfl, rfl⟩) rfl) (av_cons (wv_call B G_rounded_part (av_cons (wv_var B 3 rfl rfl (.inl rfl)) av_nil) (⟨y, rfl, rfl⟩) rfl) av_nil)) (len_le rfl)) _ _ (wb_cons (ws_set B 5 rfl (.inl rfl) ((wv_tup (av_cons (wv_call B G_true_part (av_cons (wv_var B 2 rfl rfl (.inl rfl)) av_nil) (⟨x, rfl, rfl⟩) rfl) (av_cons (wv_call B G_true_part (av_cons (wv_var B 3 rfl rfl (.inl rfl)) av_nil) (⟨y, rfl, rfl⟩) rfl) av_nil)) (len_le rfl)) _ _ (wb_cons (ws_set B 6 rfl (.inl rfl) ((wv_ifT (tv_is (tv_eq (wv_var B 1 rfl rfl (.inl rfl)) wv_str rfl) rfl) (wv_call B G_least_span (av_cons (wv_ixT (wv_var B 4 rfl rfl (.inl rfl)) wv_int rfl) (av_cons (wv_ixT (wv_var B 4 rfl rfl (.inl rfl)) wv_int rfl) av_nil)) (⟨x.lo, x.hi, y.lo, y.hi, rfl, hx.lo.b, hx.hi.b, hy.lo.b, hy.hi.b, rfl⟩) rfl)) _ _ (wb_cons (ws_set B 7 rfl (.inl rfl) ((wv_ifT (tv_is (tv_eq (wv_var B 1 rfl rfl (.inl rfl)) wv_str rfl) rfl) (wv_call B G_least_span (av_cons (wv_ixT (wv_var B 5 rfl rfl (.inl rfl)) wv_int rfl) (av_cons (wv_ixT (wv_var B 5 rfl rfl (.inl rfl)) wv_int rfl) av_nil)) (⟨x.tlo, x.thi, y.tlo, y.thi, rfl, hx.tlo.b, hx.thi.b, hy.tlo.b, hy.thi.b, rfl⟩) rfl)) _ _ (wb_one (ws_ret ((wv_call B G_last_entry (av_cons (wv_var B 0 rfl rfl (.inl rfl)) (av_cons (wv_var B 6 rfl rfl (.inl rfl)) (av_cons (wv_var B 7 rfl rfl (.inl rfl)) (av_cons (wv_call B G_greater (av_cons (wv_ixT (wv_var B 2 rfl rfl (.inl rfl)) wv_int rfl) (av_cons (wv_ixT (wv_var B 3 rfl rfl (.inl rfl)) wv_int rfl) av_nil)) (⟨x.err, y.err, rfl, hx.err.b, hy.err.b, rfl⟩) rfl) (av_cons (wv_call B G_less_grain (av_cons (wv_ixT (wv_var B 2 rfl rfl (.inl rfl)) wv_int rfl) (av_cons (wv_ixT (wv_var B 3 rfl rfl (.inl rfl)) wv_int rfl) av_nil)) (⟨x.g, y.g, rfl, rfl⟩) rfl) av_nil))))) (⟨r, _, _, _, _, _, _, rfl, hr, (hx.lo.min hy.lo).l, (hx.hi.min hy.hi).l, (hx.tlo.min hy.tlo).l, (hx.thi.min hy.thi).l, (hx.err.max hy.err).m, rfl⟩) rfl) _ _ ?ret1)))))))))))))))
    case ret1 => exact h
  · refine (wb_cons (ws_set B 4 rfl (.inl rfl) ((wv_tup (av_cons (wv_call B G_rounded_part (av_cons (wv_var B 2 rfl rfl (.inl rfl)) av_nil) (⟨x, rfl, rfl⟩) rfl) (av_cons (wv_call B G_rounded_part (av_cons (wv_var B 3 rfl rfl (.inl rfl)) av_nil) (⟨y, rfl, rfl⟩) rfl) av_nil)) (len_le rfl)) _ _ (wb_cons (ws_set B 5 rfl (.inl rfl) ((wv_tup (av_cons (wv_call B G_true_part (av_cons (wv_var B 2 rfl rfl (.inl rfl)) av_nil) (⟨x, rfl, rfl⟩) rfl) (av_cons (wv_call B G_true_part (av_cons (wv_var B 3 rfl rfl (.inl rfl)) av_nil) (⟨y, rfl, rfl⟩) rfl) av_nil)) (len_le rfl)) _ _ (wb_cons (ws_set B 6 rfl (.inl rfl) ((wv_ifF (tv_is (tv_eq (wv_var B 1 rfl rfl (.inl rfl)) wv_str rfl) rfl) (wv_call B G_most_span (av_cons (wv_ixT (wv_var B 4 rfl rfl (.inl rfl)) wv_int rfl) (av_cons (wv_ixT (wv_var B 4 rfl rfl (.inl rfl)) wv_int rfl) av_nil)) (⟨x.lo, x.hi, y.lo, y.hi, rfl, hx.lo.b, hx.hi.b, hy.lo.b, hy.hi.b, rfl⟩) rfl)) _ _ (wb_cons (ws_set B 7 rfl (.inl rfl) ((wv_ifF (tv_is (tv_eq (wv_var B 1 rfl rfl (.inl rfl)) wv_str rfl) rfl) (wv_call B G_most_span (av_cons (wv_ixT (wv_var B 5 rfl rfl (.inl rfl)) wv_int rfl) (av_cons (wv_ixT (wv_var B 5 rfl rfl (.inl rfl)) wv_int rfl) av_nil)) (⟨x.tlo, x.thi, y.tlo, y.thi, rfl, hx.tlo.b, hx.thi.b, hy.tlo.b, hy.thi.b, rfl⟩) rfl)) _ _ (wb_one (ws_ret ((wv_call B G_last_entry (av_cons (wv_var B 0 rfl rfl (.inl rfl)) (av_cons (wv_var B 6 rfl rfl (.inl rfl)) (av_cons (wv_var B 7 rfl rfl (.inl rfl)) (av_cons (wv_call B G_greater (av_cons (wv_ixT (wv_var B 2 rfl rfl (.inl rfl)) wv_int rfl) (av_cons (wv_ixT (wv_var B 3 rfl rfl (.inl rfl)) wv_int rfl) av_nil)) (⟨x.err, y.err, rfl, hx.err.b, hy.err.b, rfl⟩) rfl) (av_cons (wv_call B G_less_grain (av_cons (wv_ixT (wv_var B 2 rfl rfl (.inl rfl)) wv_int rfl) (av_cons (wv_ixT (wv_var B 3 rfl rfl (.inl rfl)) wv_int rfl) av_nil)) (⟨x.g, y.g, rfl, rfl⟩) rfl) av_nil))))) (⟨r, _, _, _, _, _, _, rfl, hr, (hx.lo.max hy.lo).l, (hx.hi.max hy.hi).l, (hx.tlo.max hy.tlo).l, (hx.thi.max hy.thi).l, (hx.err.max hy.err).m, rfl⟩) rfl) _ _ ?ret1)))))))))))))))
    case ret1 => exact h
theorem sides_1 {a b c e : Rat} (k : decide (b < c) = true) : D.tup [.int 0] = .tup ((sideList (sides a b c e)).map fun s => .int (bi s)) := by
  unfold sides
  rw [if_pos (of_decide_eq_true k)]
  rfl
theorem sides_2 {a b c e : Rat} (k : decide (b < c) = false) (k2 : (!decide (a < e)) = true) : D.tup [.int 1] = .tup ((sideList (sides a b c e)).map fun s => .int (bi s)) := by
  unfold sides
  have k2 : ¬ a < e := by simpa using k2
  rw [if_neg (of_decide_eq_false k), if_pos (Rat.not_lt.mp k2)]
  rfl
theorem sides_3 {a b c e : Rat} (k : decide (b < c) = false) (k2 : (!decide (a < e)) = false) : D.tup [.int 0, .int 1] = .tup ((sideList (sides a b c e)).map fun s => .int (bi s)) := by
  unfold sides
  have k2 : a < e := by simpa using k2
  rw [if_neg (of_decide_eq_false k), if_neg (Rat.not_le.mpr k2)]
  rfl
theorem sc_sides : FnScope ["one", "other"] ["one", "other"] (defScope (top 64)) := ⟨rfl, rfl, rfl, by decide +kernel, rfl, by decide +kernel, by decide +kernel⟩
theorem b_sides {X : Cx} (B : Bod X ["one", "other"] (defScope (top 64)) 1) (hsc : X.env.scope = defScope (top 64)) (G_is_less : Dfn X "is_less" 1 p_is_less) : ∀ ds t Φ, p_sides ds t Φ → WB X (defBody (top 64)) (ds.map some ++ List.replicate (2 - ds.length) none) t (fun _ t' => Φ .non t') Φ := by
  rintro _ t Φ ⟨_, ⟨a, b, c, e, rfl, ha, hb, hc, he, rfl⟩, h⟩
  refine (wb_cons (ws_if ((tv_val (wv_call B G_is_less (av_cons (wv_ixT (wv_var B 0 rfl rfl (.inl rfl)) wv_int rfl) (av_cons (wv_ixT (wv_var B 1 rfl rfl (.inl rfl)) wv_int rfl) av_nil)) (⟨b, c, rfl, hb, hc, rfl⟩) rfl)) _ _ ⟨fun k1 => (wb_one (ws_ret ((wv_tup (av_cons wv_int av_nil) (len_le rfl)) _ _ ?ret1))), fun k1 => (wb_nil (wb_one (ws_ret ((wv_if (tv_not (tv_val (wv_call B G_is_less (av_cons (wv_ixT (wv_var B 0 rfl rfl (.inl rfl)) wv_int rfl) (av_cons (wv_ixT (wv_var B 1 rfl rfl (.inl rfl)) wv_int rfl) av_nil)) (⟨a, e, rfl, ha, he, rfl⟩) rfl))) (fun k2 => wv_is (wv_tup (av_cons wv_int av_nil) (len_le rfl)) (sides_2 k1 k2)) (fun k2 => wv_is (wv_tup (av_cons wv_int (av_cons wv_int av_nil)) (len_le rfl)) (sides_3 k1 k2))) _ _ ?ret2))))⟩)))
  case ret1 =>
    rw [← sides_1 k1] at h
    exact h
  case ret2 => exact h
end RS
/-! part RSPick -/
namespace RS
open PySem L2
theorem fold_take {α β : Type} {f : α → β → α} {l : List β} {j : Nat} {x : β} {a : α} (h : l[j]? = some x) : (l.take (j + 1)).foldl f a = f ((l.take j).foldl f a) x := by
  rw [List.take_add_one, h]
  simp [List.foldl_append]
theorem fold_keep {α β : Type} {f : α → β → α} {P : α → Prop} (hf : ∀ a b, P a → P (f a b)) : ∀ (l : List β) (a : α), P a → P (l.foldl f a)
  | [], a, h => h
  | x :: l, a, h => fold_keep hf l (f a x) (hf a x h)
theorem bi_at {l : List Bool} {j : Nat} {d : D} (h : (l.map fun s => D.int (bi s))[j]? = some d) : ∃ s, l[j]? = some s ∧ d = .int (bi s) := by
  rw [List.getElem?_map] at h
  cases e : l[j]? with
  | none => rw [e] at h; cases h
  | some x => rw [e] at h; exact ⟨x, rfl, (Option.some.inj h).symm⟩
theorem side_first (p : Bool × Bool) : atI ((sideList p).map fun s => D.int (bi s)) 0 = some (.int (bi p.1)) := by
  obtain ⟨a, b⟩ := p
  cases a <;> cases b <;> rfl
theorem side_last (p : Bool × Bool) : atI ((sideList p).map fun s => D.int (bi s)) (-1) = some (.int (bi p.2)) := by
  obtain ⟨a, b⟩ := p
  cases a <;> cases b <;> rfl
theorem sel_at (u v : Ent) (s : Bool) : atI [en u, en v] (bi s) = some (en (sel u v s)) := by cases s <;> rfl
theorem scal_bi (s t : Bool) : D.scal (.int (bi s)) (.int (bi t)) = some (s == t) := by cases s <;> cases t <;> rfl
theorem sel_ok {u v : Ent} (hu : u.Ok) (hv : v.Ok) (s : Bool) : (sel u v s).Ok := by cases s <;> assumption
theorem sz_far {u v : Ent} (hu : u.Ok) (hv : v.Ok) (same s t : Bool) : Sz 301 (far u v same s t) := by
  have h1 := sel_ok hu hv s
  have h2 := sel_ok hu hv t
  unfold far
  split
  · exact h1.err.le (by decide)
  · exact (h1.hi.sub h2.tlo).max (h2.thi.sub h1.lo)
theorem far_1 {u v : Ent} {same s t : Bool} (k : (same || (s == t)) = true) : fr (sel u v s).err = fr (far u v same s t) := by
  unfold far
  rw [if_pos k]
theorem far_2 {u v : Ent} {same s t : Bool} (k : (same || (s == t)) = false) : fr (apart (sel u v s).lo (sel u v s).hi (sel u v t).tlo (sel u v t).thi) = fr (far u v same s t) := by
  unfold far
  rw [if_neg (by rw [k]; decide)]
theorem sc_picked_entry : FnScope ["ruler", "one", "other", "some", "is_same", "mine", "its", "err", "side", "span", "trues", "true", "is_one", "far"] ["ruler", "one", "other", "some", "is_same"] (defScope (top 65)) := ⟨rfl, rfl, rfl, by decide +kernel, rfl, by decide +kernel, by decide +kernel⟩
theorem b_picked_entry {X : Cx} (B : Bod X ["ruler", "one", "other", "some", "is_same", "mine", "its", "err", "side", "span", "trues", "true", "is_one", "far"] (defScope (top 65)) 7) (hsc : X.env.scope = defScope (top 65)) (G_sides : Dfn X "sides" 2 p_sides) (G_hull : Dfn X "hull" 3 p_hull) (G_last_entry : Dfn X "last_entry" 7 p_last_entry) (G_rounded_part : Dfn X "rounded_part" 1 p_rounded_part) (G_true_part : Dfn X "true_part" 1 p_true_part) (G_less_grain : Dfn X "less_grain" 1 p_less_grain) (G_greater : Dfn X "greater" 2 p_greater) (G_apart : Dfn X "apart" 5 p_apart) (g_NOUGHT : Glb X "NOUGHT" v_NOUGHT) : ∀ ds t Φ, p_picked_entry ds t Φ → WB X (defBody (top 65)) (ds.map some ++ List.replicate (14 - ds.length) none) t (fun _ t' => Φ .non t') Φ := by
  rintro _ t Φ ⟨_, ⟨r, x, y, u, v, same, rfl, hr, hx, hy, hu, hv, rfl⟩, h⟩
  refine (wb_cons (ws_set B 5 rfl (.inl rfl) ((wv_call B G_sides (av_cons (wv_call B G_rounded_part (av_cons (wv_var B 1 rfl rfl (.inl rfl)) av_nil) (⟨x, rfl, rfl⟩) rfl) (av_cons (wv_call B G_rounded_part (av_cons (wv_var B 2 rfl rfl (.inl rfl)) av_nil) (⟨y, rfl, rfl⟩) rfl) av_nil)) (⟨x.lo, x.hi, y.lo, y.hi, rfl, hx.lo.b, hx.hi.b, hy.lo.b, hy.hi.b, rfl⟩) rfl) _ _ (wb_cons (ws_set B 6 rfl (.inl rfl) ((wv_call B G_sides (av_cons (wv_call B G_true_part (av_cons (wv_var B 1 rfl rfl (.inl rfl)) av_nil) (⟨x, rfl, rfl⟩) rfl) (av_cons (wv_call B G_true_part (av_cons (wv_var B 2 rfl rfl (.inl rfl)) av_nil) (⟨y, rfl, rfl⟩) rfl) av_nil)) (⟨x.tlo, x.thi, y.tlo, y.thi, rfl, hx.tlo.b, hx.thi.b, hy.tlo.b, hy.thi.b, rfl⟩) rfl) _ _ (wb_cons (ws_set B 7 rfl (.inl rfl) ((wv_glob B g_NOUGHT rfl) _ _ (wb_cons ?loop1))))))))))
  case loop1 =>
    generalize hp : sides x.lo x.hi y.lo y.hi = p
    generalize hq : sides x.tlo x.thi y.tlo y.thi = q
    have hfar : ∀ s t e, Sz 301 e → Sz 301 (max e (far u v same s t)) := fun s t e he => he.max (sz_far hu hv same s t)
    have hin : ∀ s e (l : List Bool), Sz 301 e → Sz 301 (l.foldl (fun e t => max e (far u v same s t)) e) := fun s e l he => fold_keep (fun e t he => hfar s t e he) l e he
    have hout : ∀ (l : List Bool), Sz 301 (l.foldl (fun e s => (sideList q).foldl (fun e t => max e (far u v same s t)) e) 0) := fun l => fold_keep (P := Sz 301) (fun e s he => hin s e _ he) l 0 (Sz.zero.le (by decide))
    refine ws_forT B 8 rfl (.inl rfl) (fun j ρ t' => t' = t ∧ ∃ sd tr is fa : Option D, ρ = [some (rul r), some (en x), some (en y), some (.lst [en u, en v]), some (.bl same), some (.tup ((sideList p).map fun s => .int (bi s))), some (.tup ((sideList q).map fun s => .int (bi s))), some (fr (((sideList p).take j).foldl (fun e s => (sideList q).foldl (fun e t => max e (far u v same s t)) e) 0)), sd, none, none, tr, is, fa]) ?_
    refine (wv_var B 5 rfl rfl (.inl rfl)) _ _ ⟨_, rfl, ⟨rfl, none, none, none, none, rfl⟩, ?_, ?_⟩
    · rintro j d ρ t' hd ⟨rfl, sd, tr, is, fa, rfl⟩
      obtain ⟨s, hs, rfl⟩ := bi_at hd
      refine (wb_one ?loop2)
      case loop2 =>
        have hE := hout ((sideList p).take j)
        generalize hgE : ((sideList p).take j).foldl (fun e s => (sideList q).foldl (fun e t => max e (far u v same s t)) e) 0 = E at *
        refine ws_forT B 11 rfl (.inl rfl) (fun k ρ t2 => t2 = t' ∧ ∃ tr is fa : Option D, ρ = [some (rul r), some (en x), some (en y), some (.lst [en u, en v]), some (.bl same), some (.tup ((sideList p).map fun s => .int (bi s))), some (.tup ((sideList q).map fun s => .int (bi s))), some (fr (((sideList q).take k).foldl (fun e t => max e (far u v same s t)) E)), some (.int (bi s)), none, none, tr, is, fa]) ?_
        refine (wv_var B 6 rfl rfl (.inl rfl)) _ _ ⟨_, rfl, ⟨rfl, tr, is, fa, rfl⟩, ?_, ?_⟩
        · rintro k d ρ t2 hd2 ⟨rfl, tr2, is2, fa2, rfl⟩
          obtain ⟨tt, htt, rfl⟩ := bi_at hd2
          have hs1 := sel_ok hu hv s
          have ht1 := sel_ok hu hv tt
          refine (wb_cons (ws_set B 12 rfl (.inl rfl) ((wv_or (wv_var B 4 rfl rfl (.inl rfl)) fun _ => (wv_one (wv_eq (wv_var B 8 rfl rfl (.inl rfl)) (wv_var B 11 rfl rfl (.inl rfl)) (scal_bi s tt)))) _ _ (wb_cons (ws_set B 13 rfl (.inl rfl) ((wv_if (tv_val (wv_var B 12 rfl rfl (.inl rfl))) (fun k1 => wv_is (wv_ixT (wv_ixL (wv_var B 3 rfl rfl (.inl rfl)) (wv_var B 8 rfl rfl (.inl rfl)) (sel_at u v s)) wv_int rfl) (far_1 k1)) (fun k1 => wv_is (wv_call B G_apart (av_cons (wv_call B G_rounded_part (av_cons (wv_ixL (wv_var B 3 rfl rfl (.inl rfl)) (wv_var B 8 rfl rfl (.inl rfl)) (sel_at u v s)) av_nil) (⟨sel u v s, rfl, rfl⟩) rfl) (av_cons (wv_call B G_true_part (av_cons (wv_ixL (wv_var B 3 rfl rfl (.inl rfl)) (wv_var B 11 rfl rfl (.inl rfl)) (sel_at u v tt)) av_nil) (⟨sel u v tt, rfl, rfl⟩) rfl) av_nil)) (⟨_, _, _, _, rfl, hs1.lo.m, hs1.hi.m, ht1.tlo.m, ht1.thi.m, rfl⟩) rfl) (far_2 k1))) _ _ (wb_one (ws_set B 7 rfl (.inl rfl) ((wv_call B G_greater (av_cons (wv_var B 7 rfl rfl (.inl rfl)) (av_cons (wv_var B 13 rfl rfl (.inl rfl)) av_nil)) (⟨_, _, rfl, (hin s E _ hE).b, (sz_far hu hv same s tt).b, rfl⟩) rfl) _ _ ?next1)))))))))
          case next1 =>
            refine ⟨rfl, some (.int (bi tt)), some (.bl (same || (s == tt))), some (fr (far u v same s tt)), ?_⟩
            rw [fold_take htt]
            rfl
        · rintro ρ t2 ⟨rfl, tr2, is2, fa2, rfl⟩
          refine ⟨rfl, some (.int (bi s)), tr2, is2, fa2, ?_⟩
          rw [fold_take hs, hgE, List.length_map, List.take_length]
    · rintro ρ t' ⟨rfl, sd, tr, is, fa, rfl⟩
      have e1 := sel_ok hu hv p.1
      have e2 := sel_ok hu hv p.2
      have e3 := sel_ok hu hv q.1
      have e4 := sel_ok hu hv q.2
      rw [List.length_map, List.take_length]
      refine (wb_cons (ws_set B 9 rfl (.inl rfl) ((wv_call B G_hull (av_cons (wv_call B G_rounded_part (av_cons (wv_ixL (wv_var B 3 rfl rfl (.inl rfl)) (wv_ixT (wv_var B 5 rfl rfl (.inl rfl)) wv_int (side_first p)) (sel_at u v p.1)) av_nil) (⟨sel u v p.1, rfl, rfl⟩) rfl) (av_cons (wv_call B G_rounded_part (av_cons (wv_ixL (wv_var B 3 rfl rfl (.inl rfl)) (wv_ixT (wv_var B 5 rfl rfl (.inl rfl)) (wv_neg wv_int) (side_last p)) (sel_at u v p.2)) av_nil) (⟨sel u v p.2, rfl, rfl⟩) rfl) av_nil)) (⟨_, _, _, _, rfl, e1.lo.b, e1.hi.b, e2.lo.b, e2.hi.b, rfl⟩) rfl) _ _ (wb_cons (ws_set B 10 rfl (.inl rfl) ((wv_call B G_hull (av_cons (wv_call B G_true_part (av_cons (wv_ixL (wv_var B 3 rfl rfl (.inl rfl)) (wv_ixT (wv_var B 6 rfl rfl (.inl rfl)) wv_int (side_first q)) (sel_at u v q.1)) av_nil) (⟨sel u v q.1, rfl, rfl⟩) rfl) (av_cons (wv_call B G_true_part (av_cons (wv_ixL (wv_var B 3 rfl rfl (.inl rfl)) (wv_ixT (wv_var B 6 rfl rfl (.inl rfl)) (wv_neg wv_int) (side_last q)) (sel_at u v q.2)) av_nil) (⟨sel u v q.2, rfl, rfl⟩) rfl) av_nil)) (⟨_, _, _, _, rfl, e3.tlo.b, e3.thi.b, e4.tlo.b, e4.thi.b, rfl⟩) rfl) _ _ (wb_one (ws_ret ((wv_call B G_last_entry (av_cons (wv_var B 0 rfl rfl (.inl rfl)) (av_cons (wv_var B 9 rfl rfl (.inl rfl)) (av_cons (wv_var B 10 rfl rfl (.inl rfl)) (av_cons (wv_var B 7 rfl rfl (.inl rfl)) (av_cons (wv_call B G_less_grain (av_cons (wv_ixT (wv_ixL (wv_var B 3 rfl rfl (.inl rfl)) (wv_ixT (wv_var B 5 rfl rfl (.inl rfl)) wv_int (side_first p)) (sel_at u v p.1)) wv_int rfl) (av_cons (wv_ixT (wv_ixL (wv_var B 3 rfl rfl (.inl rfl)) (wv_ixT (wv_var B 5 rfl rfl (.inl rfl)) (wv_neg wv_int) (side_last p)) (sel_at u v p.2)) wv_int rfl) av_nil)) (⟨(sel u v p.1).g, (sel u v p.2).g, rfl, rfl⟩) rfl) av_nil))))) (⟨r, _, _, _, _, _, _, rfl, hr, (e1.lo.min e2.lo).l, (e1.hi.max e2.hi).l, (e3.tlo.min e4.tlo).l, (e3.thi.max e4.thi).l, (hout _).m, rfl⟩) rfl) _ _ ?ret1)))))))))
      case ret1 =>
        unfold pickEnt pickErr at h
        rw [hp, hq] at h
        exact h
end RS
/-! part RSExc -/
namespace RS
open PySem L2 PySem.Spec PyProof.Rows
/-! ### C.__init__(self, ..) of a class that has ValueError's -/
section
variable {X : Cx} {e : Expr} {es : List Expr} {ta : TA} {p p1 p2 pos : Pos} {CR CN fI : Addr} {mc : Value} {x : Str}
theorem pe_reinit {pl : Sem Bool} (hg : Gl X x) (hm : X.mg x = some (.ref CR)) (r : ClX.CRead X.K CR mc) (vV : PySem.W.findCls X.K (.ref CR) mc "__init__" = some (.val (.builtin "ValueError.__init__"))) (ha : PA X (e :: es) ta)
    (hdb : (x == ("__debug__" : Str)) = false := by decide)
    (hc : eval (.Call (.Attribute (.Name x p1) "__init__" p2) (e :: es) [] pos) X.env = (do
      let ov ← eval (.Name x p1) X.env
      standAt p2.atName
      let (f, first) ← holding [ov] (getMethod ov "__init__" pl)
      callWith pos f first (backTo pos (starEach (e :: es) X.env)) (backToKw pos (keywordEach [] X.env))) := by rfl)
    (he : starEach (e :: es) X.env = (false, eval e X.env) :: starEach es X.env := by rfl) (hpl : (backTo pos (starEach es X.env)).any (·.1) = false := by rfl) :
    PE X (.Call (.Attribute (.Name x p1) "__init__" p2) (e :: es) [] pos) (tVeI X.K ta) := by
  refine ⟨fun pins s σ H Q I h => ?_⟩
  refine PySem.W.methodCall_KW (ld_glob I hg hm ?_ hdb) hc
  refine PySem.W.method_cls I.kIn r.ga (PySem.W.cls_value I.kIn r.rd vV (by decide +kernel) ?_)
  show wpAny _ _ (callWith pos (Value.builtin "ValueError.__init__") [] (backTo pos (starEach (e :: es) X.env)) []) _ _ _
  refine PyProof.Rows.callWith_method1 (thn (ha.run pos pins _ σ H _ (I.tok _) h) fun us s1 ⟨vs, H1, I1, r1, a, C, ws, ev, hl, T, ea, q⟩ => ?_) he hpl
  subst ev
  cases r1 with
  | @cons _ u0 _ ur ra rw' =>
    obtain rfl : u0 = Value.ref a := ra
    have hlen : ur.length ≤ sizeLine := by
      rw [← Paired.length rw', sizeLine_eq]
      omega
    exact oinit_ok T I1 ea hlen fun s' J => ⟨.non, H1, J, rfl, q⟩
end
/-! ### NoPaper and its __init__ -/
/-- what is known of the class NoPaper -/
structure NpC (X : Cx) (CN : Addr) : Prop where
  oex : OexC X.K CN
  mgn : X.mg "NoPaper" = some (.ref CN)
  kn : PySem.W.exmOne X.K (.ref CN) (.ref CN) = some true
  ini : ∃ fI fd, PySem.W.findIn X.K (.ref CN) "__init__" = some (some (.ref fI)) ∧ PySem.W.typeIn X.K (.ref fI) = some (.type "function") ∧ Binds X.K fd ["self", "row"] [] ∧
    FnOk X.prog X.w X.K X.mg X.base CX0 1 fI fd ["self", "row"] (fun vs H Q _ => ∃ (a : Addr) (y : V), vs = [.ref a, y] ∧ H a = some (exo a CN none) ∧ ∀ dx, H dx = none → dx ≠ a → Q .non (upd (upd H dx (exd dx [("row", y)])) a (exo a CN (some dx))))
theorem exd_st {e : Addr} {fs : List (Str × V)} (c : V) (x y z : Int) : exd e fs ≠ stD c x y z := fun q => by
  have z' : HO.ext _ = HO.dK _ := q
  cases z'
theorem xd_st {fs : List (Str × V)} (c : V) (x y z : Int) : HO.xd fs ≠ stD c x y z := fun q => by
  have z' : HO.xd _ = HO.dK _ := q
  cases z'
theorem exo_st {e C : Addr} {d : Option Addr} (c : V) (x y z : Int) : exo e C d ≠ stD c x y z := fun q => by
  have z' : HO.ext _ = HO.dK _ := q
  cases z'
/-- the heap once the exception is let go -/
theorem gone {H : Hp} {a dx C : Addr} {y : V} {t : Nat} {fs : List (Str × V)} (ha : H a = none) (hd : upd H a (exo a C none) dx = none) (hne : dx ≠ a) (hb : HB H t) :
    ExS H (upd (del (upd (upd (upd H a (exo a C none)) dx (exd dx [("row", y)])) a (exo a C (some dx))) a) dx (.xd fs)) ∧ HB (upd (del (upd (upd (upd H a (exo a C none)) dx (exd dx [("row", y)])) a (exo a C (some dx))) a) dx (.xd fs)) t := by
  have hd' : H dx = none := by rw [upd_ne hne] at hd; exact hd
  have key : ∀ b, b ≠ a → b ≠ dx → (upd (del (upd (upd (upd H a (exo a C none)) dx (exd dx [("row", y)])) a (exo a C (some dx))) a) dx (.xd fs)) b = H b := fun b h1 h2 => by
    rw [upd_ne h2, del_ne h1, upd_ne h1, upd_ne h2, upd_ne h1]
  refine ⟨fun b o q => .inl ?_, fun b c x z w q => ?_⟩
  · rw [key b (ne_of_none q ha) (ne_of_none q hd')]
    exact q
  · by_cases h2 : b = dx
    · subst h2
      rw [upd_same] at q
      exact absurd (Option.some.inj q) (xd_st c x z w)
    · by_cases h1 : b = a
      · subst h1
        rw [upd_ne h2, del_same] at q
        cases q
      · rw [key b h1 h2] at q
        exact hb b c x z w q
/-! ### code that may let NoPaper out -/
section
variable {X : Cx} {CN : Addr} {N : List Str} {sc : Scope} {kk : Nat} {ρ : Env'} {t : Nat} {Φ : D → Prop} {Nx : Env' → Nat → Prop} {R : D → Nat → Prop} {x y : Str} {pos p1 p2 : Pos} {d : D} {a b c e : Expr} {es : List Expr} {st : Stmt} {sts rest sa sb : List Stmt} {k : Bool} {Ω : Prop} {ds : List D}
/-- at these slots NoPaper may be let out if Ω -/
def Lets (X : Cx) (CN : Addr) (σ : L2.St) (H : Hp) (t : Nat) (Ω : Prop) : Prop := ∃ W : WX, Takes X W ∧ (Ω → ∀ d H', ExS H H' → HB H' t → W (.ref CN) d σ H')
structure WEr (X : Cx) (CN : Addr) (e : Expr) (ρ : Env') (t : Nat) (Φ : D → Prop) (Ω : Prop) : Prop where
  run : ∀ σ H, EnvR X.K H σ ρ → HB H t → Lets X CN σ H t Ω → ∀ Q : VK, (∀ d v H', Φ d → ExS H H' → HB H' t → Rp X.K H' d v → Q v H') → SemE X e σ H Q
instance {X : Cx} {CN : Addr} {e : Expr} {ρ : Env'} {t : Nat} {Φ : D → Prop} {Ω : Prop} : CoeFun (WEr X CN e ρ t Φ Ω) (fun _ => ∀ σ H, EnvR X.K H σ ρ → HB H t → Lets X CN σ H t Ω → ∀ Q : VK, (∀ d v H', Φ d → ExS H H' → HB H' t → Rp X.K H' d v → Q v H') → SemE X e σ H Q) := ⟨WEr.run⟩
structure WSr (X : Cx) (CN : Addr) (st : Stmt) (ρ : Env') (t : Nat) (N : Env' → Nat → Prop) (R : D → Nat → Prop) (Ω : Prop) : Prop where
  run : ∀ σ H, EnvR X.K H σ ρ → HB H t → (∀ σ, Lets X CN σ H t Ω) → ∀ E : Ends, WEnds X H N R E → SemS X st E σ H
instance {X : Cx} {CN : Addr} {st : Stmt} {ρ : Env'} {t : Nat} {N : Env' → Nat → Prop} {R : D → Nat → Prop} {Ω : Prop} : CoeFun (WSr X CN st ρ t N R Ω) (fun _ => ∀ σ H, EnvR X.K H σ ρ → HB H t → (∀ σ, Lets X CN σ H t Ω) → ∀ E : Ends, WEnds X H N R E → SemS X st E σ H) := ⟨WSr.run⟩
structure WBr (X : Cx) (CN : Addr) (sts : List Stmt) (ρ : Env') (t : Nat) (N : Env' → Nat → Prop) (R : D → Nat → Prop) (Ω : Prop) : Prop where
  run : ∀ σ H, EnvR X.K H σ ρ → HB H t → (∀ σ, Lets X CN σ H t Ω) → ∀ E : Ends, WEnds X H N R E → SemB X sts E σ H
instance {X : Cx} {CN : Addr} {sts : List Stmt} {ρ : Env'} {t : Nat} {N : Env' → Nat → Prop} {R : D → Nat → Prop} {Ω : Prop} : CoeFun (WBr X CN sts ρ t N R Ω) (fun _ => ∀ σ H, EnvR X.K H σ ρ → HB H t → (∀ σ, Lets X CN σ H t Ω) → ∀ E : Ends, WEnds X H N R E → SemB X sts E σ H) := ⟨WBr.run⟩
theorem Lets.mono {σ : L2.St} {H H' : Hp} (h : Lets X CN σ H t Ω) (e : ExS H H') : Lets X CN σ H' t Ω := by
  obtain ⟨W, tk, w⟩ := h
  exact ⟨W, tk, fun o d H2 e2 b2 => w o d H2 (e.trans e2) b2⟩
theorem wbr_wb (h : WB X sts ρ t Nx R) : WBr X CN sts ρ t Nx R Ω := .mk fun σ H er hb _ E q => h σ H er hb E q
theorem wbr_cons (h : WS X st ρ t (fun ρ1 t1 => t1 = t ∧ WBr X CN rest ρ1 t Nx R Ω) R) : WBr X CN (st :: rest) ρ t Nx R Ω := .mk fun σ H er hb hl E q => by
  refine ofB (pss_cons semS semB) ?_
  refine h σ H er hb { E with nx := SemB X rest E } ⟨fun ρ1 t1 σ1 H1 ⟨et, h1⟩ e1 b1 er1 => ?_, fun d v t1 H1 h1 e1 b1 r1 => q.2 d v t1 H1 h1 e1 b1 r1⟩
  subst et
  exact h1 σ1 H1 er1 b1 (fun σ => (hl σ).mono e1) E (q.mono e1)
theorem wbr_consr (h : WSr X CN st ρ t (fun ρ1 t1 => t1 = t ∧ WBr X CN rest ρ1 t Nx R Ω) R Ω) : WBr X CN (st :: rest) ρ t Nx R Ω := .mk fun σ H er hb hl E q => by
  refine ofB (pss_cons semS semB) ?_
  refine h σ H er hb hl { E with nx := SemB X rest E } ⟨fun ρ1 t1 σ1 H1 ⟨et, h1⟩ e1 b1 er1 => ?_, fun d v t1 H1 h1 e1 b1 r1 => q.2 d v t1 H1 h1 e1 b1 r1⟩
  subst et
  exact h1 σ1 H1 er1 b1 (fun σ => (hl σ).mono e1) E (q.mono e1)
theorem wbr_one (h : WSr X CN st ρ t Nx R Ω) : WBr X CN [st] ρ t Nx R Ω := .mk fun σ H er hb hl E q => ofB (pss_one semS) (h σ H er hb hl E q)
theorem wsr_if (h : TV X c ρ k) (h1 : k = true → WBr X CN sa ρ t Nx R Ω) (h2 : k = false → WBr X CN sb ρ t Nx R Ω) : WSr X CN (.If c sa sb pos) ρ t Nx R Ω := .mk fun σ H er hb hl E q => by
  refine ofS (ps_if semT semB semB) ?_
  refine h t (fun b t1 => t1 = t ∧ b = k) ⟨rfl, rfl⟩ σ H er hb _ fun b t1 H1 ⟨et, eb⟩ e1 b1 => ?_
  subst et eb
  cases b with
  | true => exact h1 rfl σ H1 (er.mono e1) b1 (fun σ => (hl σ).mono e1) E (q.mono e1)
  | false => exact h2 rfl σ H1 (er.mono e1) b1 (fun σ => (hl σ).mono e1) E (q.mono e1)
theorem wsr_ret (h : WEr X CN e ρ t (fun d => R d t) Ω) : WSr X CN (.Return (some e) pos) ρ t Nx R Ω := .mk fun σ H er hb hl E q => by
  refine ofS (ps_ret semE) ?_
  exact h σ H er hb (hl σ) _ fun d v H1 h1 e1 b1 r1 => q.2 d v t H1 h1 e1 b1 r1
/-- a def that may let NoPaper out -/
abbrev PrX : Type := List D → (D → Prop) → Prop → Prop
def spX (K : PySem.W.Frag) (CN : Addr) (p : PrX) : Sp := fun vs H Q E => ∃ ds t Φ Ω, RpL K H ds vs ∧ HB H t ∧ p ds Φ Ω ∧ (∀ d v H', Φ d → ExS H H' → HB H' t → Rp K H' d v → Q v H') ∧ (Ω → ∀ d H', ExS H H' → HB H' t → E (.ref CN) d H')
structure DfnX (X : Cx) (CN : Addr) (name : Str) (k : Nat) (p : PrX) : Prop where
  ex : ∃ f fd ps, X.mg name = some (.ref f) ∧ PySem.W.keepIn X.K (.ref f) = true ∧ Binds X.K fd ps [] ∧ FnOk X.prog X.w X.K X.mg X.base (L2.CX X.prog X.w) k f fd ps (spX X.K CN p)
theorem wer_call {k : Nat} {p : PrX} (B : Bod X N sc kk) (G : DfnX X CN x k p) (h : AV X (e :: es) ρ ds) (hp : p ds Φ Ω) (hg : sc.names.lookup x = some .globalImplicit) (hk : k ≤ kk := by decide) (hdb : (x == ("__debug__" : Str)) = false := by decide)
    (he : notStar e = true := by rfl) (hpl : noStars es = true := by rfl) : WEr X CN (.Call (.Name x p1) (e :: es) [] pos) ρ t Φ Ω := .mk fun σ H er hb hl Q q => by
  obtain ⟨f, fd, ps, mgf, kp, b, F⟩ := G.ex
  obtain ⟨W, tk, w⟩ := hl
  refine ofE (pe_callS (E := fun σ cls d H => W cls d σ H) F (B.room.mono hk) (gl_of B hg) mgf kp b (fun σ => passAt tk σ) semA hdb (star_ok he) (star_any hpl)) ?_
  refine h t (fun ds' t1 => t1 = t ∧ ds' = ds) ⟨rfl, rfl⟩ σ H er hb _ fun ds' vs t1 H1 ⟨et, ed⟩ e1 b1 r1 => ?_
  subst et ed
  exact ⟨ds', t1, Φ, Ω, r1, b1, hp, fun d v H2 h2 e2 b2 r2 => q d v H2 h2 (e1.trans e2) b2 r2, fun o d H2 e2 b2 => w o d H2 (e1.trans e2) b2⟩
/-- raise NoPaper(e) -/
theorem wsr_raise (B : Bod X N sc kk) (T : NpC X CN) (hg : sc.names.lookup ("NoPaper" : Str) = some .globalImplicit) (h : AV X [e] ρ [d]) (ho : Ω) (hk : 2 ≤ kk := by decide)
    (he : notStar e = true := by rfl) : WSr X CN (.Raise (some (.Call (.Name "NoPaper" p1) [e] [] pos)) none p2) ρ t Nx R Ω := .mk fun σ H er hb hl E q => by
  obtain ⟨W, tk, w⟩ := hl σ
  obtain ⟨fI, fd, iC, tI, b, F⟩ := T.ini
  refine ofS (ps_raise B.calm tk (pmk_oex (dvs := []) T.oex iC tI F (B.room.mono hk) b .nil pass0 (gl_of B hg) T.mgn semA (by decide) (star_ok he) rfl)) ?_
  refine h t (fun ds' t1 => t1 = t ∧ ds' = [d]) ⟨rfl, rfl⟩ σ H er hb _ fun ds' vs t1 H1 ⟨et, ed⟩ e1 b1 r1 => ?_
  subst et ed
  obtain ⟨v, rfl, rv⟩ := rl1 r1
  refine ⟨by show 1 ≤ 1000; decide, fun a ha => ⟨a, v, rfl, upd_same, fun dx hd hne => ⟨rfl, dx, [("row", v)], upd_same, ?_, ?_, ?_⟩⟩⟩
  · rw [upd_ne hne, upd_same]
  · rw [upd_ne hne] at hd
    exact hd
  · have g := gone (y := v) (fs := [("row", v)]) ha hd hne b1
    exact w ho (some dx) _ (e1.trans g.1) g.2
/-- try: y = e / except NoPaper: y = None -/
theorem ws_tryNP (B : Bod X N sc kk) (T : NpC X CN) (hs : X.stack = X.env :: X.outer) (hf : X.env.frame = some X.env.locals) (hg : sc.names.lookup ("NoPaper" : Str) = some .globalImplicit) (i : Nat) (hN : N[i]? = some y) (hl : L2.Loc sc y) {pa pb pc np pos' : Pos}
    (h : ∀ pn xe, PassesOwn (model X.prog X.w) X.A X.env xe → WEr (X.tr pn xe) CN e ρ t Φ Ω) (q1 : ∀ d, Φ d → Nx (ρ.set i (some d)) t) (q2 : Ω → Nx (ρ.set i (some .non)) t)
    (hsw : swapsWith e (some (.Name y p1)) pa.line X.env = pure false := by rfl) :
    WS X (.Try [.Assign [.Name y p1] e pa] [.ExceptHandler (some (.Name "NoPaper" np)) none [.Assign [.Name y p2] (.Constant .none 0 pc) pb] pos'] [] [] pos) ρ t Nx R := .mk fun σ H er hb E q => by
  refine ofS (ps_try_only (Wout := fun _ _ _ _ => False) (c := .ref CN) (tb := fun W D σ H => ∀ pn xe, Takes (X.tr pn xe) W → PassesOwn (model X.prog X.w) X.A X.env xe → SemB (X.tr pn xe) [.Assign [.Name y p1] e pa] D σ H)
    (ts := fun a cls d D σ H => ∀ oe pn, SemB (X.suite a ((a, oe) :: pn)) [.Assign [.Name y p2] (.Constant .none 0 pc) pb] D σ H) hs hf ⟨gl_of B hg, by decide, .inl T.mgn⟩ takes0
    (fun W pn xe tk po => ⟨fun pins s σ H D I z => z pn xe tk po pins s I⟩) (fun a oe cls d pn _ _ => ⟨fun pins s σ H D I z => z oe pn pins s I⟩)) ?_
  intro pn xe tk po
  refine ofB (X := X.tr pn xe) (pss_one (ps_set (X := X.tr pn xe) (i := i) (by show X.N.Nodup; rw [B.n]; exact B.nd) (by show X.N[i]? = some y; rw [B.n]; exact hN) (B.loc y hl) semE hsw (B.fn y hl))) ?_
  refine h pn xe po σ H er hb ⟨_, tk, fun ho d H1 e1 b1 => ⟨true, T.kn, fun _ a ha oe pn => ?_, fun z => nomatch z⟩⟩ _ fun d v H1 h1 e1 b1 r1 => ?_
  · refine ofB (X := X.suite a ((a, oe) :: pn)) (pss_one (ps_set (X := X.suite a ((a, oe) :: pn)) (i := i) (by show X.N.Nodup; rw [B.n]; exact B.nd) (by show X.N[i]? = some y; rw [B.n]; exact hN) (B.loc y hl) pe_non (by rfl) (B.fn y hl))) ?_
    exact q.1 _ t _ H1 (q2 ho) e1 b1 ((er.mono e1).set .non i)
  · exact q.1 _ t _ H1 (q1 d h1) e1 b1 ((er.mono e1).set r1 i)
theorem Bod.tr (B : Bod X N sc kk) {pn : List (Addr × Obj)} {xe : Value → Shared → Prop} (po : PassesOwn (model X.prog X.w) X.A X.env xe) : Bod (X.tr pn xe) N sc kk := ⟨B.n, B.vis, B.gl, B.lo, B.loc, B.calm, B.nd, B.room, B.fn, po⟩
theorem DfnX.tr {k : Nat} {p : PrX} (G : DfnX X CN x k p) {pn : List (Addr × Obj)} {xe : Value → Shared → Prop} : DfnX (X.tr pn xe) CN x k p := ⟨G.ex⟩
/-- a def that may raise keeps its promise -/
theorem mk_defX {P : Program} {w : World} {K : PySem.W.Frag} {mg : Str → Option Value} {base : Heap} {nm qual : Str} {params : Arguments} {body : List Stmt} {scp : Scope} {f : Addr} {fd : FuncData} {ps : List Str} {k : Nat} {p : PrX}
    (F : FunD K nm qual params body scp [] [] f fd) (S : FnScope N ps scp) (har : ∀ ds Φ Ω, p ds Φ Ω → ds.length = ps.length)
    (hbody : ∀ X : Cx, X.prog = P → X.w = w → X.K = K → X.mg = mg → X.base = base → Bod X N scp k → X.env.scope = scp → ∀ ds t Φ Ω, p ds Φ Ω → WBr X CN body (ds.map some ++ List.replicate (N.length - ds.length) none) t (fun _ t' => t' = t ∧ Φ .non) (fun d t' => t' = t ∧ Φ d) Ω) :
    FnOk P w K mg base (L2.CX P w) (k + 1) f fd ps (spX K CN p) := by
  refine F.ok S (fun vs H Q E ⟨ds, t, Φ, Ω, r, _, h, _⟩ => by rw [r.len]; exact har ds Φ Ω h) fun cdv A outer s H vs Q E hr ⟨ds, t, Φ, Ω, r, hb, h, q, qx⟩ => ?_
  refine ⟨_, semB, ?_⟩
  have tk : Takes (cxOf (L2.CX P w) P w K mg base N qual scp f cdv A outer s H E) (fun cls d _ H => E cls d H) := takes_of rfl rfl rfl rfl
  refine hbody _ rfl rfl rfl rfl rfl ⟨rfl, fun _ z => z, fun _ z => z, fun _ z => z, fun _ z => z, rfl, S.nd, hr, fun _ _ => .inl rfl, passes_of rfl⟩ rfl ds t Φ Ω h (L2.start N vs) H (envR_start N r) hb (fun σ => ⟨_, tk, qx⟩) _ ⟨fun ρ' t' σ' H' ⟨et, n⟩ e b _ => ?_, fun d v t' H' ⟨et, h'⟩ e b r' => ?_⟩
  · subst et
    exact q _ _ H' n e b .non
  · subst et
    exact q d v H' h' e b r'
end
/-! ### NoPaper.__init__ -/
def initSt : Stmt := match top 3 with
  | .ClassDef (body := b) .. => b.getD 0 (.Pass ⟨0, 0, 0, 0⟩)
  | _ => .Pass ⟨0, 0, 0, 0⟩
end RS
/-! part RSQuot -/
namespace RS
open PySem L2 PySem.Spec PyProof.Rows
/-! ### NoPaper.__init__ -/
theorem sc_init : FnScope ["self", "row"] ["self", "row"] (defScope initSt) := ⟨rfl, rfl, rfl, by decide +kernel, rfl, by decide +kernel, by decide +kernel⟩
theorem fn_init {P : Program} {w : World} {K : PySem.W.Frag} {mg : Str → Option Value} {base : Heap} {CN CR f : Addr} {mc : Value} {nm qual : Str} {params : Arguments} {fd : FuncData} (F : FunD K nm qual params (defBody initSt) (defScope initSt) [] [] f fd)
    (T : OexC K CN) (hR : mg "RoundError" = some (.ref CR)) (r : ClX.CRead K CR mc) (vV : PySem.W.findCls K (.ref CR) mc "__init__" = some (.val (.builtin "ValueError.__init__"))) (hrow : PySem.W.findIn K (.ref CN) "row" = some none) :
    FnOk P w K mg base CX0 1 f fd ["self", "row"] (fun vs H Q _ => ∃ (a : Addr) (y : V), vs = [.ref a, y] ∧ H a = some (exo a CN none) ∧ ∀ dx, H dx = none → dx ≠ a → Q .non (upd (upd H dx (exd dx [("row", y)])) a (exo a CN (some dx)))) := by
  refine F.ok sc_init (fun vs H Q E ⟨a, y, e, _⟩ => by rw [e]; rfl) fun cdv A outer s H vs Q E hr ⟨a, y, ev, ha, q⟩ => ?_
  subst ev
  refine ⟨_, pss_cons (ps_expr (pe_reinit (show L2.Gl _ _ from rfl) hR r vV (pa_cons (pe_var (i := 0) rfl (.inl rfl)) (pa_cons pe_str pa_nil)))) (pss_one (ps_ost (pe_var (i := 0) rfl (.inl rfl)) (pe_var (i := 1) rfl (.inl rfl)))), ?_⟩
  refine ⟨.ref a, rfl, a, CN, _, rfl, by show 1 ≤ 1000; decide, T, ha, ?_⟩
  exact ⟨y, rfl, .ref a, rfl, a, CN, rfl, T, hrow, .inl ⟨ha, fun dx h1 h2 => q dx h1 h2⟩⟩
/-! ### the works that entry_of tells of -/
inductive W2 | plus | less | times | over | least | most
inductive W1 | turned | size
inductive Wk
  | num (c : Rat) | two (w : W2) (a b : Str) | one (w : W1) (a : Str) | pick (a b c d : Str)
def W2.s : W2 → Str
  | .plus => "plus" | .less => "less" | .times => "times" | .over => "over" | .least => "least" | .most => "most"
def W1.s : W1 → Str
  | .turned => "turned" | .size => "size"
def Wk.D : Wk → D
  | .num c => .tup [.str "number", fr c]
  | .two w a b => .tup [.str w.s, .str a, .str b]
  | .one w a => .tup [.str w.s, .str a]
  | .pick a b c d => .tup [.str "pick", .str a, .str b, .str c, .str d]
def Wk.names : Wk → List Str
  | .num _ => []
  | .two _ a b => [a, b]
  | .one _ a => [a]
  | .pick a b c d => [a, b, c, d]
def Wk.Ok : Wk → Prop
  | .num c => Sz 150 c
  | _ => True
open Classical in
noncomputable def Wk.tell (r : Ruler) (kn : Str → Ent) : Wk → Option Ent
  | .num c => some (numEnt r c)
  | .two .plus a b => some (sumEnt r (kn a) (kn b))
  | .two .less a b => some (diffEnt r (kn a) (kn b))
  | .two .times a b => some (prodEnt r (kn a) (kn b))
  | .two .over a b => if byNought (kn b) then none else some (quotEnt r (kn a) (kn b))
  | .two .least a b => some (leastEnt r (kn a) (kn b))
  | .two .most a b => some (mostEnt r (kn a) (kn b))
  | .one .turned a => some (turnedEnt r (kn a))
  | .one .size a => some (sizeEnt r (kn a))
  | .pick a b c d => some (pickEnt r (kn a) (kn b) (kn c) (kn d) (decide (c = d)))
structure Kn (kvs : List (Key × D)) (kn : Str → Ent) (a : Str) : Prop where
  look : dlook kvs (.inr a) = some (en (kn a))
  ok : (kn a).Ok
  ord : (kn a).lo ≤ (kn a).hi
  tord : (kn a).tlo ≤ (kn a).thi
def p_quotient_entry : PrX := fun ds Φ Ω => ∃ (r : Ruler) (x y : Ent), ds = [rul r, en x, en y, .int 0] ∧ r.Ok ∧ x.Ok ∧ y.Ok ∧ y.lo ≤ y.hi ∧ y.tlo ≤ y.thi ∧ (¬ byNought y → Φ (en (quotEnt r x y))) ∧ (byNought y → Ω)
def p_entry_of : PrX := fun ds Φ Ω => ∃ (r : Ruler) (w : Wk) (kvs : List (Key × D)) (kn : Str → Ent), ds = [rul r, w.D, .dic kvs, .int 0] ∧ r.Ok ∧ w.Ok ∧ (∀ a ∈ w.names, Kn kvs kn a) ∧ (∀ e, w.tell r kn = some e → Φ (en e)) ∧ (w.tell r kn = none → Ω)
def told : Option Ent → D
  | none => .non
  | some e => en e
def p__law_told : Pr := det fun ds d => ∃ (r : Ruler) (w : Wk) (kvs : List (Key × D)) (kn : Str → Ent), ds = [rul r, w.D, .dic kvs] ∧ r.Ok ∧ w.Ok ∧ (∀ a ∈ w.names, Kn kvs kn a) ∧ d = told (w.tell r kn)
theorem sc_quotient_entry : FnScope ["ruler", "one", "other", "row", "span", "true", "err"] ["ruler", "one", "other", "row"] (defScope (top 61)) := ⟨rfl, rfl, rfl, by decide +kernel, rfl, by decide +kernel, by decide +kernel⟩
theorem b_quotient_entry {X : Cx} (B : Bod X ["ruler", "one", "other", "row", "span", "true", "err"] (defScope (top 61)) 8) (hsc : X.env.scope = defScope (top 61)) {CN : Addr} (T : NpC X CN) (G_over_spans : Dfn X "over_spans" 4 p_over_spans) (G_over : Dfn X "over" 3 p_over) (G_rounded_entry : Dfn X "rounded_entry" 8 p_rounded_entry) (G_has : Dfn X "has" 2 p_has) (G_rounded_part : Dfn X "rounded_part" 1 p_rounded_part) (G_true_part : Dfn X "true_part" 1 p_true_part) (G_plus : Dfn X "plus" 3 p_plus) (G_small_size : Dfn X "small_size" 3 p_small_size) (G_times : Dfn X "times" 3 p_times) (G_great_size : Dfn X "great_size" 3 p_great_size) (g_NOUGHT : Glb X "NOUGHT" v_NOUGHT) : ∀ ds t Φ Ω, p_quotient_entry ds Φ Ω → WBr X CN (defBody (top 61)) (ds.map some ++ List.replicate (7 - ds.length) none) t (fun _ t' => t' = t ∧ Φ .non) (fun d t' => t' = t ∧ Φ d) Ω := by
  rintro _ t Φ Ω ⟨r, x, y, rfl, hr, hx, hy, o1, o2, h, hno⟩
  refine (wbr_consr (wsr_if (tv_ov (ov_or (tv_val (wv_call B G_has (av_cons (wv_call B G_rounded_part (av_cons (wv_var B 2 rfl rfl (.inl rfl)) av_nil) (⟨y, rfl, rfl⟩) rfl) (av_cons (wv_glob B g_NOUGHT rfl) av_nil)) (⟨_, _, 0, rfl, hy.lo.b, hy.hi.b, Sz.zero.b, rfl⟩) rfl)) fun _ => (ov_or1 (tv_val (wv_call B G_has (av_cons (wv_call B G_true_part (av_cons (wv_var B 2 rfl rfl (.inl rfl)) av_nil) (⟨y, rfl, rfl⟩) rfl) (av_cons (wv_glob B g_NOUGHT rfl) av_nil)) (⟨_, _, 0, rfl, hy.tlo.b, hy.thi.b, Sz.zero.b, rfl⟩) rfl))))) (fun k1 => (wbr_one (wsr_raise B T rfl (av_cons (wv_var B 3 rfl rfl (.inl rfl)) av_nil) (hno ?n4)))) (fun k1 => wbr_wb (wb_nil ⟨rfl, (wbr_cons (ws_set B 4 rfl (.inl rfl) ((wv_call B G_over_spans (av_cons (wv_call B G_rounded_part (av_cons (wv_var B 1 rfl rfl (.inl rfl)) av_nil) (⟨x, rfl, rfl⟩) rfl) (av_cons (wv_call B G_rounded_part (av_cons (wv_var B 2 rfl rfl (.inl rfl)) av_nil) (⟨y, rfl, rfl⟩) rfl) av_nil)) (⟨_, _, _, _, rfl, hx.lo.m, hx.hi.m, hy.lo.m, hy.hi.m, o1, ?n1, rfl⟩) rfl) _ _ ⟨rfl, (wbr_cons (ws_set B 5 rfl (.inl rfl) ((wv_call B G_over_spans (av_cons (wv_call B G_true_part (av_cons (wv_var B 1 rfl rfl (.inl rfl)) av_nil) (⟨x, rfl, rfl⟩) rfl) (av_cons (wv_call B G_true_part (av_cons (wv_var B 2 rfl rfl (.inl rfl)) av_nil) (⟨y, rfl, rfl⟩) rfl) av_nil)) (⟨_, _, _, _, rfl, hx.tlo.m, hx.thi.m, hy.tlo.m, hy.thi.m, o2, ?n2, rfl⟩) rfl) _ _ ⟨rfl, (wbr_cons (ws_set B 6 rfl (.inl rfl) ((wv_call B G_over (av_cons (wv_call B G_plus (av_cons (wv_call B G_times (av_cons (wv_call B G_great_size (av_cons (wv_var B 4 rfl rfl (.inl rfl)) av_nil) (⟨_, _, rfl, (sz_divLo hx.lo hx.hi hy.lo hy.hi).b, (sz_divHi hx.lo hx.hi hy.lo hy.hi).b, rfl⟩) rfl) (av_cons (wv_ixT (wv_var B 2 rfl rfl (.inl rfl)) wv_int rfl) av_nil)) (⟨_, y.err, rfl, ((sz_divLo hx.lo hx.hi hy.lo hy.hi).great (sz_divHi hx.lo hx.hi hy.lo hy.hi)).b, hy.err.b, rfl⟩) rfl) (av_cons (wv_ixT (wv_var B 1 rfl rfl (.inl rfl)) wv_int rfl) av_nil)) (⟨_, x.err, rfl, (((sz_divLo hx.lo hx.hi hy.lo hy.hi).great (sz_divHi hx.lo hx.hi hy.lo hy.hi)).mul hy.err).b, hx.err.b, rfl⟩) rfl) (av_cons (wv_call B G_small_size (av_cons (wv_call B G_true_part (av_cons (wv_var B 2 rfl rfl (.inl rfl)) av_nil) (⟨y, rfl, rfl⟩) rfl) av_nil) (⟨y.tlo, y.thi, rfl, hy.tlo.b, hy.thi.b, rfl⟩) rfl) av_nil)) (⟨_, _, rfl, ((((sz_divLo hx.lo hx.hi hy.lo hy.hi).great (sz_divHi hx.lo hx.hi hy.lo hy.hi)).mul hy.err).add hx.err).b, (hy.tlo.small hy.thi (by decide)).b, ?n3, rfl⟩) rfl) _ _ ⟨rfl, (wbr_wb (wb_one (ws_ret ((wv_call B G_rounded_entry (av_cons (wv_var B 0 rfl rfl (.inl rfl)) (av_cons (wv_var B 4 rfl rfl (.inl rfl)) (av_cons (wv_var B 5 rfl rfl (.inl rfl)) (av_cons (wv_var B 6 rfl rfl (.inl rfl)) (av_cons wv_non av_nil))))) (⟨r, _, _, _, _, _, none, rfl, hr, (sz_divLo hx.lo hx.hi hy.lo hy.hi).le (by decide), (sz_divHi hx.lo hx.hi hy.lo hy.hi).le (by decide), (sz_divLo hx.tlo hx.thi hy.tlo hy.thi).l, (sz_divHi hx.tlo hx.thi hy.tlo hy.thi).l, (((((sz_divLo hx.lo hx.hi hy.lo hy.hi).great (sz_divHi hx.lo hx.hi hy.lo hy.hi)).mul hy.err).add hx.err).div (hy.tlo.small hy.thi (by decide))).le (by decide), (fun _ z => nomatch z), rfl⟩) rfl) _ _ ?ret1))))⟩)))⟩)))⟩)))⟩))))
  case n4 =>
    rcases Bool.or_eq_true_iff.mp k1 with z | z
    · exact .inl (of_decide_eq_true z)
    · exact .inr (of_decide_eq_true z)
  case n1 => exact of_decide_eq_false (Bool.or_eq_false_iff.mp k1).1
  case n2 => exact of_decide_eq_false (Bool.or_eq_false_iff.mp k1).2
  case n3 =>
    have := small_pos (of_decide_eq_false (Bool.or_eq_false_iff.mp k1).2) o2
    grind
  case ret1 =>
    refine ⟨rfl, h ?_⟩
    rintro (z | z)
    · exact of_decide_eq_false (Bool.or_eq_false_iff.mp k1).1 z
    · exact of_decide_eq_false (Bool.or_eq_false_iff.mp k1).2 z
end RS
/-! part RSTell0 -/
namespace RS
open PySem L2 PySem.Spec PyProof.Rows
theorem flat_en (e : Ent) : (en e).flat = true := by
  obtain ⟨_, _, _, _, _, g⟩ := e
  cases g <;> rfl
theorem flat_ents (kn : Str → Ent) : ∀ ns : List Str, D.flatL (ns.map fun a => en (kn a)) = true
  | [] => rfl
  | n :: ns => by
    show ((en (kn n)).flat && D.flatL (ns.map fun a => en (kn a))) = true
    rw [flat_en, flat_ents kn ns]
    rfl
theorem elts_known {X : Cx} {N : List Str} {sc scope : Scope} {kk : Nat} {ρ : Env'} {kvs : List (Key × D)} {kn : Str → Ent} {ns : List Str} {p1 p2 p3 : Pos} (B : Bod X N sc kk) (h2 : N[2]? = some ("known" : Str)) (h6 : N[6]? = some ("name" : Str)) (hρ : ρ[2]? = some (some (.dic kvs))) (hl : 6 < ρ.length)
    (v1 : Vis scope "known") (v2 : Vis scope "name") (hk : ∀ a ∈ ns, Kn kvs kn a) : Elts X scope (.Subscript (.Name "known" p1) (.Name "name" p2) p3) ρ 6 (ns.map D.str) (ns.map fun a => en (kn a)) := by
  intro j d q hd hq X' b
  rw [List.getElem?_map] at hd hq
  cases e : ns[j]? with
  | none => rw [e] at hd; cases hd
  | some a =>
    rw [e] at hd hq
    cases hd; cases hq
    exact wv_dget (b.bod B) (wv_var (b.bod B) 2 (by rw [List.getElem?_set_ne (by decide)]; exact hρ) h2 v1) (wv_var (b.bod B) 6 (by rw [List.getElem?_set_self hl]) h6 v2) (hk a (List.mem_of_getElem? e)).look
end RS
/-! part RSTell -/
namespace RS
open PySem L2 PySem.Spec PyProof.Rows
theorem sc_entry_of : FnScope ["ruler", "work", "known", "row", "word", "some", "name"] ["ruler", "work", "known", "row"] (defScope (top 66)) := ⟨rfl, rfl, rfl, by decide +kernel, rfl, by decide +kernel, by decide +kernel⟩
theorem b_entry_of {X : Cx} (B : Bod X ["ruler", "work", "known", "row", "word", "some", "name"] (defScope (top 66)) 9) (hsc : X.env.scope = defScope (top 66)) {CN : Addr} (T : NpC X CN) (G_picked_entry : Dfn X "picked_entry" 8 p_picked_entry) (G_rounded_entry : Dfn X "rounded_entry" 8 p_rounded_entry) (G_sum_entry : Dfn X "sum_entry" 9 p_sum_entry) (G_product_entry : Dfn X "product_entry" 9 p_product_entry) (G_quotient_entry : DfnX X CN "quotient_entry" 9 p_quotient_entry) (G_single_entry : Dfn X "single_entry" 8 p_single_entry) (G_chosen_entry : Dfn X "chosen_entry" 8 p_chosen_entry) (g_NOUGHT : Glb X "NOUGHT" v_NOUGHT) : ∀ ds t Φ Ω, p_entry_of ds Φ Ω → WBr X CN (defBody (top 66)) (ds.map some ++ List.replicate (7 - ds.length) none) t (fun _ t' => t' = t ∧ Φ .non) (fun d t' => t' = t ∧ Φ d) Ω := by
  rintro _ t Φ Ω ⟨r, w, kvs, kn, rfl, hr, hw, hk, h, hno⟩
  cases w with
  | num c =>
    apply wbr_wb
    refine (wb_cons (ws_set B 4 rfl (.inl rfl) ((wv_ixT (wv_var B 1 rfl rfl (.inl rfl)) wv_int rfl) _ _ (wb_cons (ws_ifT (tv_is (tv_eq (wv_var B 4 rfl rfl (.inl rfl)) wv_str rfl) rfl) (wb_one (ws_ret ((wv_call B G_rounded_entry (av_cons (wv_var B 0 rfl rfl (.inl rfl)) (av_cons (wv_tup (av_cons (wv_ixT (wv_var B 1 rfl rfl (.inl rfl)) wv_int rfl) (av_cons (wv_ixT (wv_var B 1 rfl rfl (.inl rfl)) wv_int rfl) av_nil)) (len_le rfl)) (av_cons (wv_tup (av_cons (wv_ixT (wv_var B 1 rfl rfl (.inl rfl)) wv_int rfl) (av_cons (wv_ixT (wv_var B 1 rfl rfl (.inl rfl)) wv_int rfl) av_nil)) (len_le rfl)) (av_cons (wv_glob B g_NOUGHT rfl) (av_cons wv_non av_nil))))) (⟨r, c, c, c, c, 0, none, rfl, hr, hw.le (by decide), hw.le (by decide), hw.l, hw.l, Sz.zero.le (by decide), (fun _ z => nomatch z), rfl⟩) rfl) _ _ ?ret1))))))))
    case ret1 => exact ⟨rfl, h _ rfl⟩
  | two w a b =>
    have ka := hk a (by simp [Wk.names])
    have kb := hk b (by simp [Wk.names])
    cases w with
    | plus =>
      apply wbr_wb
      refine (wb_cons (ws_set B 4 rfl (.inl rfl) ((wv_ixT (wv_var B 1 rfl rfl (.inl rfl)) wv_int rfl) _ _ (wb_cons (ws_ifF (tv_is (tv_eq (wv_var B 4 rfl rfl (.inl rfl)) wv_str rfl) rfl) (wb_nil (wb_cons ((ws_setLcT (k := 5) (i := 6) (l := [a, b].map D.str) (out := [a, b].map fun a => en (kn a)) B rfl (by rw [hsc]; decide +kernel) (by rw [hsc]; rfl) rfl rfl (by rw [hsc]; exact ⟨rfl, by decide +kernel, by decide +kernel, by decide +kernel, by decide +kernel⟩) rfl rfl (wv_is (wv_slT (wv_var B 1 rfl rfl (.inl rfl)) po_c po_n (of_decide_eq_false rfl)) rfl) (Nat.le_of_ble_eq_true rfl) rfl (flat_ents kn [a, b]) (elts_known B rfl rfl rfl (Nat.le_of_ble_eq_true (n := 7) rfl) (.inr (.inr rfl)) (.inl rfl) hk) ?rest1)))))))))
      case rest1 =>
        refine (wb_cons (ws_ifT (tv_is (tv_in (ls := ["plus", "less"]) (wv_var B 4 rfl rfl (.inl rfl)) (wv_tup (av_cons wv_str (av_cons wv_str av_nil)) (len_le rfl)) (rfl)) rfl) (wb_one (ws_ret ((wv_call B G_sum_entry (av_cons (wv_var B 0 rfl rfl (.inl rfl)) (av_cons (wv_var B 4 rfl rfl (.inl rfl)) (av_cons (wv_ixL (wv_var B 5 rfl rfl (.inl rfl)) wv_int rfl) (av_cons (wv_ixL (wv_var B 5 rfl rfl (.inl rfl)) wv_int rfl) av_nil)))) (⟨r, _, kn a, kn b, rfl, hr, ka.ok, kb.ok, .inl ⟨rfl, rfl⟩⟩) rfl) _ _ ?ret1)))))
        case ret1 => exact ⟨rfl, h _ rfl⟩
    | less =>
      apply wbr_wb
      refine (wb_cons (ws_set B 4 rfl (.inl rfl) ((wv_ixT (wv_var B 1 rfl rfl (.inl rfl)) wv_int rfl) _ _ (wb_cons (ws_ifF (tv_is (tv_eq (wv_var B 4 rfl rfl (.inl rfl)) wv_str rfl) rfl) (wb_nil (wb_cons ((ws_setLcT (k := 5) (i := 6) (l := [a, b].map D.str) (out := [a, b].map fun a => en (kn a)) B rfl (by rw [hsc]; decide +kernel) (by rw [hsc]; rfl) rfl rfl (by rw [hsc]; exact ⟨rfl, by decide +kernel, by decide +kernel, by decide +kernel, by decide +kernel⟩) rfl rfl (wv_is (wv_slT (wv_var B 1 rfl rfl (.inl rfl)) po_c po_n (of_decide_eq_false rfl)) rfl) (Nat.le_of_ble_eq_true rfl) rfl (flat_ents kn [a, b]) (elts_known B rfl rfl rfl (Nat.le_of_ble_eq_true (n := 7) rfl) (.inr (.inr rfl)) (.inl rfl) hk) ?rest1)))))))))
      case rest1 =>
        refine (wb_cons (ws_ifT (tv_is (tv_in (ls := ["plus", "less"]) (wv_var B 4 rfl rfl (.inl rfl)) (wv_tup (av_cons wv_str (av_cons wv_str av_nil)) (len_le rfl)) (rfl)) rfl) (wb_one (ws_ret ((wv_call B G_sum_entry (av_cons (wv_var B 0 rfl rfl (.inl rfl)) (av_cons (wv_var B 4 rfl rfl (.inl rfl)) (av_cons (wv_ixL (wv_var B 5 rfl rfl (.inl rfl)) wv_int rfl) (av_cons (wv_ixL (wv_var B 5 rfl rfl (.inl rfl)) wv_int rfl) av_nil)))) (⟨r, _, kn a, kn b, rfl, hr, ka.ok, kb.ok, .inr ⟨rfl, rfl⟩⟩) rfl) _ _ ?ret1)))))
        case ret1 => exact ⟨rfl, h _ rfl⟩
    | times =>
      apply wbr_wb
      refine (wb_cons (ws_set B 4 rfl (.inl rfl) ((wv_ixT (wv_var B 1 rfl rfl (.inl rfl)) wv_int rfl) _ _ (wb_cons (ws_ifF (tv_is (tv_eq (wv_var B 4 rfl rfl (.inl rfl)) wv_str rfl) rfl) (wb_nil (wb_cons ((ws_setLcT (k := 5) (i := 6) (l := [a, b].map D.str) (out := [a, b].map fun a => en (kn a)) B rfl (by rw [hsc]; decide +kernel) (by rw [hsc]; rfl) rfl rfl (by rw [hsc]; exact ⟨rfl, by decide +kernel, by decide +kernel, by decide +kernel, by decide +kernel⟩) rfl rfl (wv_is (wv_slT (wv_var B 1 rfl rfl (.inl rfl)) po_c po_n (of_decide_eq_false rfl)) rfl) (Nat.le_of_ble_eq_true rfl) rfl (flat_ents kn [a, b]) (elts_known B rfl rfl rfl (Nat.le_of_ble_eq_true (n := 7) rfl) (.inr (.inr rfl)) (.inl rfl) hk) ?rest1)))))))))
      case rest1 =>
        refine (wb_cons (ws_ifF (tv_is (tv_in (ls := ["plus", "less"]) (wv_var B 4 rfl rfl (.inl rfl)) (wv_tup (av_cons wv_str (av_cons wv_str av_nil)) (len_le rfl)) (rfl)) rfl) (wb_nil (wb_cons (ws_ifT (tv_is (tv_eq (wv_var B 4 rfl rfl (.inl rfl)) wv_str rfl) rfl) (wb_one (ws_ret ((wv_call B G_product_entry (av_cons (wv_var B 0 rfl rfl (.inl rfl)) (av_cons (wv_ixL (wv_var B 5 rfl rfl (.inl rfl)) wv_int rfl) (av_cons (wv_ixL (wv_var B 5 rfl rfl (.inl rfl)) wv_int rfl) av_nil))) (⟨r, kn a, kn b, rfl, hr, ka.ok, kb.ok, rfl⟩) rfl) _ _ ?ret1))))))))
        case ret1 => exact ⟨rfl, h _ rfl⟩
    | over =>
      refine (wbr_cons (ws_set B 4 rfl (.inl rfl) ((wv_ixT (wv_var B 1 rfl rfl (.inl rfl)) wv_int rfl) _ _ ⟨rfl, (wbr_cons (ws_ifF (tv_is (tv_eq (wv_var B 4 rfl rfl (.inl rfl)) wv_str rfl) rfl) (wb_nil ⟨rfl, (wbr_cons ((ws_setLcT (k := 5) (i := 6) (l := [a, b].map D.str) (out := [a, b].map fun a => en (kn a)) B rfl (by rw [hsc]; decide +kernel) (by rw [hsc]; rfl) rfl rfl (by rw [hsc]; exact ⟨rfl, by decide +kernel, by decide +kernel, by decide +kernel, by decide +kernel⟩) rfl rfl (wv_is (wv_slT (wv_var B 1 rfl rfl (.inl rfl)) po_c po_n (of_decide_eq_false rfl)) rfl) (Nat.le_of_ble_eq_true rfl) rfl (flat_ents kn [a, b]) (elts_known B rfl rfl rfl (Nat.le_of_ble_eq_true (n := 7) rfl) (.inr (.inr rfl)) (.inl rfl) hk) ?rest1)))⟩)))⟩)))
      case rest1 =>
        refine ⟨rfl, (wbr_cons (ws_ifF (tv_is (tv_in (ls := ["plus", "less"]) (wv_var B 4 rfl rfl (.inl rfl)) (wv_tup (av_cons wv_str (av_cons wv_str av_nil)) (len_le rfl)) (rfl)) rfl) (wb_nil ⟨rfl, (wbr_cons (ws_ifF (tv_is (tv_eq (wv_var B 4 rfl rfl (.inl rfl)) wv_str rfl) rfl) (wb_nil ⟨rfl, (wbr_consr (wsr_if (tv_is (tv_eq (wv_var B 4 rfl rfl (.inl rfl)) wv_str rfl) rfl) (fun _ => (wbr_one (wsr_ret (wer_call (Φ := fun d => t = t ∧ Φ d) B G_quotient_entry (av_cons (wv_var B 0 rfl rfl (.inl rfl)) (av_cons (wv_ixL (wv_var B 5 rfl rfl (.inl rfl)) wv_int rfl) (av_cons (wv_ixL (wv_var B 5 rfl rfl (.inl rfl)) wv_int rfl) (av_cons (wv_var B 3 rfl rfl (.inl rfl)) av_nil)))) ⟨r, kn a, kn b, rfl, hr, ka.ok, kb.ok, kb.ord, kb.tord, fun z => ⟨rfl, h _ (if_neg z)⟩, fun z => hno (if_pos z)⟩ rfl)))) (fun e => nomatch e)))⟩)))⟩)))⟩
    | least =>
      apply wbr_wb
      refine (wb_cons (ws_set B 4 rfl (.inl rfl) ((wv_ixT (wv_var B 1 rfl rfl (.inl rfl)) wv_int rfl) _ _ (wb_cons (ws_ifF (tv_is (tv_eq (wv_var B 4 rfl rfl (.inl rfl)) wv_str rfl) rfl) (wb_nil (wb_cons ((ws_setLcT (k := 5) (i := 6) (l := [a, b].map D.str) (out := [a, b].map fun a => en (kn a)) B rfl (by rw [hsc]; decide +kernel) (by rw [hsc]; rfl) rfl rfl (by rw [hsc]; exact ⟨rfl, by decide +kernel, by decide +kernel, by decide +kernel, by decide +kernel⟩) rfl rfl (wv_is (wv_slT (wv_var B 1 rfl rfl (.inl rfl)) po_c po_n (of_decide_eq_false rfl)) rfl) (Nat.le_of_ble_eq_true rfl) rfl (flat_ents kn [a, b]) (elts_known B rfl rfl rfl (Nat.le_of_ble_eq_true (n := 7) rfl) (.inr (.inr rfl)) (.inl rfl) hk) ?rest1)))))))))
      case rest1 =>
        refine (wb_cons (ws_ifF (tv_is (tv_in (ls := ["plus", "less"]) (wv_var B 4 rfl rfl (.inl rfl)) (wv_tup (av_cons wv_str (av_cons wv_str av_nil)) (len_le rfl)) (rfl)) rfl) (wb_nil (wb_cons (ws_ifF (tv_is (tv_eq (wv_var B 4 rfl rfl (.inl rfl)) wv_str rfl) rfl) (wb_nil (wb_cons (ws_ifF (tv_is (tv_eq (wv_var B 4 rfl rfl (.inl rfl)) wv_str rfl) rfl) (wb_nil (wb_cons (ws_ifF (tv_is (tv_in (ls := ["turned", "size"]) (wv_var B 4 rfl rfl (.inl rfl)) (wv_tup (av_cons wv_str (av_cons wv_str av_nil)) (len_le rfl)) (rfl)) rfl) (wb_nil (wb_cons (ws_ifT (tv_is (tv_in (ls := ["least", "most"]) (wv_var B 4 rfl rfl (.inl rfl)) (wv_tup (av_cons wv_str (av_cons wv_str av_nil)) (len_le rfl)) (rfl)) rfl) (wb_one (ws_ret ((wv_call B G_chosen_entry (av_cons (wv_var B 0 rfl rfl (.inl rfl)) (av_cons (wv_var B 4 rfl rfl (.inl rfl)) (av_cons (wv_ixL (wv_var B 5 rfl rfl (.inl rfl)) wv_int rfl) (av_cons (wv_ixL (wv_var B 5 rfl rfl (.inl rfl)) wv_int rfl) av_nil)))) (⟨r, _, kn a, kn b, rfl, hr, ka.ok, kb.ok, .inl ⟨rfl, rfl⟩⟩) rfl) _ _ ?ret1)))))))))))))))))
        case ret1 => exact ⟨rfl, h _ rfl⟩
    | most =>
      apply wbr_wb
      refine (wb_cons (ws_set B 4 rfl (.inl rfl) ((wv_ixT (wv_var B 1 rfl rfl (.inl rfl)) wv_int rfl) _ _ (wb_cons (ws_ifF (tv_is (tv_eq (wv_var B 4 rfl rfl (.inl rfl)) wv_str rfl) rfl) (wb_nil (wb_cons ((ws_setLcT (k := 5) (i := 6) (l := [a, b].map D.str) (out := [a, b].map fun a => en (kn a)) B rfl (by rw [hsc]; decide +kernel) (by rw [hsc]; rfl) rfl rfl (by rw [hsc]; exact ⟨rfl, by decide +kernel, by decide +kernel, by decide +kernel, by decide +kernel⟩) rfl rfl (wv_is (wv_slT (wv_var B 1 rfl rfl (.inl rfl)) po_c po_n (of_decide_eq_false rfl)) rfl) (Nat.le_of_ble_eq_true rfl) rfl (flat_ents kn [a, b]) (elts_known B rfl rfl rfl (Nat.le_of_ble_eq_true (n := 7) rfl) (.inr (.inr rfl)) (.inl rfl) hk) ?rest1)))))))))
      case rest1 =>
        refine (wb_cons (ws_ifF (tv_is (tv_in (ls := ["plus", "less"]) (wv_var B 4 rfl rfl (.inl rfl)) (wv_tup (av_cons wv_str (av_cons wv_str av_nil)) (len_le rfl)) (rfl)) rfl) (wb_nil (wb_cons (ws_ifF (tv_is (tv_eq (wv_var B 4 rfl rfl (.inl rfl)) wv_str rfl) rfl) (wb_nil (wb_cons (ws_ifF (tv_is (tv_eq (wv_var B 4 rfl rfl (.inl rfl)) wv_str rfl) rfl) (wb_nil (wb_cons (ws_ifF (tv_is (tv_in (ls := ["turned", "size"]) (wv_var B 4 rfl rfl (.inl rfl)) (wv_tup (av_cons wv_str (av_cons wv_str av_nil)) (len_le rfl)) (rfl)) rfl) (wb_nil (wb_cons (ws_ifT (tv_is (tv_in (ls := ["least", "most"]) (wv_var B 4 rfl rfl (.inl rfl)) (wv_tup (av_cons wv_str (av_cons wv_str av_nil)) (len_le rfl)) (rfl)) rfl) (wb_one (ws_ret ((wv_call B G_chosen_entry (av_cons (wv_var B 0 rfl rfl (.inl rfl)) (av_cons (wv_var B 4 rfl rfl (.inl rfl)) (av_cons (wv_ixL (wv_var B 5 rfl rfl (.inl rfl)) wv_int rfl) (av_cons (wv_ixL (wv_var B 5 rfl rfl (.inl rfl)) wv_int rfl) av_nil)))) (⟨r, _, kn a, kn b, rfl, hr, ka.ok, kb.ok, .inr ⟨rfl, rfl⟩⟩) rfl) _ _ ?ret1)))))))))))))))))
        case ret1 => exact ⟨rfl, h _ rfl⟩
  | one w a =>
    have ka := hk a (by simp [Wk.names])
    cases w with
    | turned =>
      apply wbr_wb
      refine (wb_cons (ws_set B 4 rfl (.inl rfl) ((wv_ixT (wv_var B 1 rfl rfl (.inl rfl)) wv_int rfl) _ _ (wb_cons (ws_ifF (tv_is (tv_eq (wv_var B 4 rfl rfl (.inl rfl)) wv_str rfl) rfl) (wb_nil (wb_cons ((ws_setLcT (k := 5) (i := 6) (l := [a].map D.str) (out := [a].map fun a => en (kn a)) B rfl (by rw [hsc]; decide +kernel) (by rw [hsc]; rfl) rfl rfl (by rw [hsc]; exact ⟨rfl, by decide +kernel, by decide +kernel, by decide +kernel, by decide +kernel⟩) rfl rfl (wv_is (wv_slT (wv_var B 1 rfl rfl (.inl rfl)) po_c po_n (of_decide_eq_false rfl)) rfl) (Nat.le_of_ble_eq_true rfl) rfl (flat_ents kn [a]) (elts_known B rfl rfl rfl (Nat.le_of_ble_eq_true (n := 7) rfl) (.inr (.inr rfl)) (.inl rfl) hk) ?rest1)))))))))
      case rest1 =>
        refine (wb_cons (ws_ifF (tv_is (tv_in (ls := ["plus", "less"]) (wv_var B 4 rfl rfl (.inl rfl)) (wv_tup (av_cons wv_str (av_cons wv_str av_nil)) (len_le rfl)) (rfl)) rfl) (wb_nil (wb_cons (ws_ifF (tv_is (tv_eq (wv_var B 4 rfl rfl (.inl rfl)) wv_str rfl) rfl) (wb_nil (wb_cons (ws_ifF (tv_is (tv_eq (wv_var B 4 rfl rfl (.inl rfl)) wv_str rfl) rfl) (wb_nil (wb_cons (ws_ifT (tv_is (tv_in (ls := ["turned", "size"]) (wv_var B 4 rfl rfl (.inl rfl)) (wv_tup (av_cons wv_str (av_cons wv_str av_nil)) (len_le rfl)) (rfl)) rfl) (wb_one (ws_ret ((wv_call B G_single_entry (av_cons (wv_var B 0 rfl rfl (.inl rfl)) (av_cons (wv_var B 4 rfl rfl (.inl rfl)) (av_cons (wv_ixL (wv_var B 5 rfl rfl (.inl rfl)) wv_int rfl) av_nil))) (⟨r, _, kn a, rfl, hr, ka.ok, .inl ⟨rfl, rfl⟩⟩) rfl) _ _ ?ret1))))))))))))))
        case ret1 => exact ⟨rfl, h _ rfl⟩
    | size =>
      apply wbr_wb
      refine (wb_cons (ws_set B 4 rfl (.inl rfl) ((wv_ixT (wv_var B 1 rfl rfl (.inl rfl)) wv_int rfl) _ _ (wb_cons (ws_ifF (tv_is (tv_eq (wv_var B 4 rfl rfl (.inl rfl)) wv_str rfl) rfl) (wb_nil (wb_cons ((ws_setLcT (k := 5) (i := 6) (l := [a].map D.str) (out := [a].map fun a => en (kn a)) B rfl (by rw [hsc]; decide +kernel) (by rw [hsc]; rfl) rfl rfl (by rw [hsc]; exact ⟨rfl, by decide +kernel, by decide +kernel, by decide +kernel, by decide +kernel⟩) rfl rfl (wv_is (wv_slT (wv_var B 1 rfl rfl (.inl rfl)) po_c po_n (of_decide_eq_false rfl)) rfl) (Nat.le_of_ble_eq_true rfl) rfl (flat_ents kn [a]) (elts_known B rfl rfl rfl (Nat.le_of_ble_eq_true (n := 7) rfl) (.inr (.inr rfl)) (.inl rfl) hk) ?rest1)))))))))
      case rest1 =>
        refine (wb_cons (ws_ifF (tv_is (tv_in (ls := ["plus", "less"]) (wv_var B 4 rfl rfl (.inl rfl)) (wv_tup (av_cons wv_str (av_cons wv_str av_nil)) (len_le rfl)) (rfl)) rfl) (wb_nil (wb_cons (ws_ifF (tv_is (tv_eq (wv_var B 4 rfl rfl (.inl rfl)) wv_str rfl) rfl) (wb_nil (wb_cons (ws_ifF (tv_is (tv_eq (wv_var B 4 rfl rfl (.inl rfl)) wv_str rfl) rfl) (wb_nil (wb_cons (ws_ifT (tv_is (tv_in (ls := ["turned", "size"]) (wv_var B 4 rfl rfl (.inl rfl)) (wv_tup (av_cons wv_str (av_cons wv_str av_nil)) (len_le rfl)) (rfl)) rfl) (wb_one (ws_ret ((wv_call B G_single_entry (av_cons (wv_var B 0 rfl rfl (.inl rfl)) (av_cons (wv_var B 4 rfl rfl (.inl rfl)) (av_cons (wv_ixL (wv_var B 5 rfl rfl (.inl rfl)) wv_int rfl) av_nil))) (⟨r, _, kn a, rfl, hr, ka.ok, .inr ⟨rfl, rfl⟩⟩) rfl) _ _ ?ret1))))))))))))))
        case ret1 => exact ⟨rfl, h _ rfl⟩
  | pick a b c d =>
    have ka := hk a (by simp [Wk.names])
    have kb := hk b (by simp [Wk.names])
    have kc := hk c (by simp [Wk.names])
    have kd := hk d (by simp [Wk.names])
    apply wbr_wb
    refine (wb_cons (ws_set B 4 rfl (.inl rfl) ((wv_ixT (wv_var B 1 rfl rfl (.inl rfl)) wv_int rfl) _ _ (wb_cons (ws_ifF (tv_is (tv_eq (wv_var B 4 rfl rfl (.inl rfl)) wv_str rfl) rfl) (wb_nil (wb_cons ((ws_setLcT (k := 5) (i := 6) (l := [a, b, c, d].map D.str) (out := [a, b, c, d].map fun a => en (kn a)) B rfl (by rw [hsc]; decide +kernel) (by rw [hsc]; rfl) rfl rfl (by rw [hsc]; exact ⟨rfl, by decide +kernel, by decide +kernel, by decide +kernel, by decide +kernel⟩) rfl rfl (wv_is (wv_slT (wv_var B 1 rfl rfl (.inl rfl)) po_c po_n (of_decide_eq_false rfl)) rfl) (Nat.le_of_ble_eq_true rfl) rfl (flat_ents kn [a, b, c, d]) (elts_known B rfl rfl rfl (Nat.le_of_ble_eq_true (n := 7) rfl) (.inr (.inr rfl)) (.inl rfl) hk) ?rest1)))))))))
    case rest1 =>
      refine (wb_cons (ws_ifF (tv_is (tv_in (ls := ["plus", "less"]) (wv_var B 4 rfl rfl (.inl rfl)) (wv_tup (av_cons wv_str (av_cons wv_str av_nil)) (len_le rfl)) (rfl)) rfl) (wb_nil (wb_cons (ws_ifF (tv_is (tv_eq (wv_var B 4 rfl rfl (.inl rfl)) wv_str rfl) rfl) (wb_nil (wb_cons (ws_ifF (tv_is (tv_eq (wv_var B 4 rfl rfl (.inl rfl)) wv_str rfl) rfl) (wb_nil (wb_cons (ws_ifF (tv_is (tv_in (ls := ["turned", "size"]) (wv_var B 4 rfl rfl (.inl rfl)) (wv_tup (av_cons wv_str (av_cons wv_str av_nil)) (len_le rfl)) (rfl)) rfl) (wb_nil (wb_cons (ws_ifF (tv_is (tv_in (ls := ["least", "most"]) (wv_var B 4 rfl rfl (.inl rfl)) (wv_tup (av_cons wv_str (av_cons wv_str av_nil)) (len_le rfl)) (rfl)) rfl) (wb_nil (wb_one (ws_ret ((wv_call B G_picked_entry (av_cons (wv_var B 0 rfl rfl (.inl rfl)) (av_cons (wv_ixL (wv_var B 5 rfl rfl (.inl rfl)) wv_int rfl) (av_cons (wv_ixL (wv_var B 5 rfl rfl (.inl rfl)) wv_int rfl) (av_cons (wv_slL (wv_var B 5 rfl rfl (.inl rfl)) po_c po_n) (av_cons (wv_eq (wv_ixT (wv_var B 1 rfl rfl (.inl rfl)) wv_int rfl) (wv_ixT (wv_var B 1 rfl rfl (.inl rfl)) wv_int rfl) rfl) av_nil))))) (⟨r, kn a, kn b, kn c, kn d, decide (c = d), rfl, hr, ka.ok, kb.ok, kc.ok, kd.ok, rfl⟩) rfl) _ _ ?ret1))))))))))))))))))
      case ret1 => exact ⟨rfl, h _ rfl⟩
theorem sc__law_told : FnScope ["_law_ruler_here", "_law_work", "_law_known", "_law_found"] ["_law_ruler_here", "_law_work", "_law_known"] (defScope (top 91)) := ⟨rfl, rfl, rfl, by decide +kernel, rfl, by decide +kernel, by decide +kernel⟩
theorem b__law_told {X : Cx} (B : Bod X ["_law_ruler_here", "_law_work", "_law_known", "_law_found"] (defScope (top 91)) 10) (hsc : X.env.scope = defScope (top 91)) {CN : Addr} (T : NpC X CN) (G_entry_of : DfnX X CN "entry_of" 10 p_entry_of) (hs : X.stack = X.env :: X.outer) (hf : X.env.frame = some X.env.locals) : ∀ ds t Φ, p__law_told ds t Φ → WB X (defBody (top 91)) (ds.map some ++ List.replicate (4 - ds.length) none) t (fun _ t' => Φ .non t') Φ := by
  rintro _ t Φ ⟨_, ⟨r, w, kvs, kn, rfl, hr, hw, hk, rfl⟩, h⟩
  refine (wb_cons (ws_set B 3 rfl (.inl rfl) (wv_non _ _ (wb_cons ?loop1))))
  case loop1 =>
    refine ws_tryNP B T hs hf rfl 3 rfl (.inl rfl) (Φ := fun d => ∃ e, w.tell r kn = some e ∧ d = en e) (Ω := w.tell r kn = none) (fun pn xe po => wer_call (B.tr po) G_entry_of.tr (av_cons (wv_var (B.tr po) 0 rfl rfl (.inl rfl)) (av_cons (wv_var (B.tr po) 1 rfl rfl (.inl rfl)) (av_cons (wv_var (B.tr po) 2 rfl rfl (.inl rfl)) (av_cons wv_int av_nil)))) ⟨r, w, kvs, kn, rfl, hr, hw, hk, fun e he => ⟨e, he, rfl⟩, fun z => z⟩ rfl) ?_ ?_
    · rintro d ⟨e, he, rfl⟩
      rw [he] at h
      refine (wb_one (ws_ret ((wv_var B 3 rfl rfl (.inl rfl)) _ _ ?ret1)))
      case ret1 => exact h
    · intro he
      rw [he] at h
      refine (wb_one (ws_ret ((wv_var B 3 rfl rfl (.inl rfl)) _ _ ?ret1)))
      case ret1 => exact h
end RS
/-! part RSLaw0 -/
namespace RS
open PySem L2
section
variable {X : Cx} {N : List Str} {sc : Scope} {kk : Nat} {ρ : Env'} {pos : Pos} {d d' d'' : D} {a b c : Expr} {k k' : Bool} {i j l : Int}
/-! ### chained comparisons -/
theorem tv_chainD (B : Bod X N sc kk) (ha : WV X a ρ d) (hb : WV X b ρ d') (hc : WV X c ρ d'') (p : d.plain = true) (p' : d'.plain = true) (p'' : d''.plain = true) (s : SeqAt.shaped d.py = true) (s' : SeqAt.shaped d'.py = true) (s'' : SeqAt.shaped d''.py = true)
    (hk : PyData.eqv d.py d'.py = k) (hk' : PyData.eqv d'.py d''.py = k') (hm : lastMarks [.Eq, .Eq] [b, c] = false := by with_unfolding_all rfl) : TV X (.Compare a [.Eq, .Eq] [b, c] pos) ρ (k && k') := fun t Ψ h =>
  wt_chain (op_eqD (hu64 B)) (op_eqD (hu64 B)) rok_eqD rok_eqD (ha _ _ (hb _ _ ⟨p, p', s, s', k, by rw [hk], fun e => hc _ _ ⟨p', p'', s', s'', k', by rw [hk'], by rw [e] at h; exact h⟩, fun e => by rw [e] at h; exact h⟩)) hm
theorem tv_chainLe (ha : WV X a ρ (.int i)) (hb : WV X b ρ (.int j)) (hc : WV X c ρ (.int l)) (hm : lastMarks [.LtE, .LtE] [b, c] = false := by with_unfolding_all rfl) : TV X (.Compare a [.LtE, .LtE] [b, c] pos) ρ (decide (i ≤ j) && decide (j ≤ l)) := fun t Ψ h =>
  wt_chain op_le op_le rok_B0 rok_B0 (ha _ _ (hb _ _ ⟨i, j, rfl, rfl, _, rfl, fun e => hc _ _ ⟨j, l, rfl, rfl, _, rfl, by rw [e] at h; exact h⟩, fun e => by rw [e] at h; exact h⟩)) hm
end
end RS
/-! part RSLaw1 -/
namespace RS
open PySem L2
/-! ### the promises of the law's own arithmetic -/
def mixedV (c k : Int) : Int := (((c % 2147483629 * 48271 + 7919 * k * k + 31 * k + 1) % 2147483647) * 69621 % 2147483629).fdiv 3
def p__law_mixed : Pr := det fun ds d => ∃ c k : Int, ds = [.int c, .int k] ∧ k.natAbs < 2 ^ 1000 ∧ d = .int (mixedV c k)
def p__law_made : Pr := det fun ds d => ∃ a b : Int, ds = [.int a, .int b] ∧ b ≠ 0 ∧ b.natAbs < 2 ^ 9000 ∧ d = fr (Rat.divInt a b)
def p__law_plus : Pr := det fun ds d => ∃ x y, ds = [fr x, fr y] ∧ Big x ∧ Big y ∧ d = fr (x + y)
def p__law_less : Pr := det fun ds d => ∃ x y, ds = [fr x, fr y] ∧ Big x ∧ Big y ∧ d = fr (x - y)
def p__law_times : Pr := det fun ds d => ∃ x y, ds = [fr x, fr y] ∧ Big x ∧ Big y ∧ d = fr (x * y)
def p__law_below : Pr := det fun ds d => ∃ x y, ds = [fr x, fr y] ∧ Big x ∧ Big y ∧ d = .bl (decide (x < y))
def p__law_ends : Pr := det fun ds d => ∃ a b, ds = [.lst [fr a, fr b]] ∧ Big a ∧ Big b ∧ d = sp (min a b) (max a b)
def p__law_power : Pr := det fun ds d => ∃ (r : Ruler) (e : Int), ds = [.int r.B, .int e] ∧ r.Ok ∧ e.natAbs ≤ 900 ∧ d = fr (pw r e)
def p__law_place : Pr := det fun ds d => ∃ (r : Ruler) (x : Rat), ds = [rul r, fr x] ∧ r.Ok ∧ Sz 350 x ∧ d = .int (placeOf r x)
def p__law_rounded : Pr := det fun ds d => ∃ (r : Ruler) (x : Rat), ds = [rul r, fr x] ∧ r.Ok ∧ Sz 350 x ∧ d = fr (rnd r x)
def p__law_size_of : Pr := det fun ds d => ∃ x : Rat, ds = [fr x] ∧ d = fr x.abs
def p__law_own_grain : Pr := det fun ds d => ∃ (r : Ruler) (a b : Rat), ds = [rul r, fr a, fr b] ∧ r.Ok ∧ Sz 350 a ∧ Sz 350 b ∧ d = gr (grainSpan r a b)
structure Ent.Big (e : Ent) : Prop where
  lo : Sz 1990 e.lo
  hi : Sz 1990 e.hi
  tlo : Sz 1990 e.tlo
  thi : Sz 1990 e.thi
  err : Sz 1990 e.err
def p__law_holds : Pr := det fun ds d => ∃ W N : Ent, ds = [en W, en N] ∧ W.Big ∧ N.Big ∧ Holds W N ∧ d = .bl true
theorem mod_lt {n : Int} {m : Nat} (hm : 0 < m) {k : Nat} (h : m < 2 ^ k) : (n % (m : Int)).natAbs < 2 ^ k := by
  have h1 := Int.emod_nonneg n (show (m : Int) ≠ 0 by omega)
  have h2 := Int.emod_lt_of_pos n (show (0 : Int) < (m : Int) by omega)
  omega
theorem mod31 {n : Int} {m : Nat} (hm : 0 < m) (h : m < 2 ^ 31) : (n % (m : Int)).natAbs < 2 ^ 4000 := Nat.lt_of_lt_of_le (mod_lt hm h) (Nat.pow_le_pow_right (by decide) (by decide))
theorem sm {i : Int} (h : i.natAbs < 2 ^ 31) : i.natAbs < 2 ^ 4000 := Nat.lt_of_lt_of_le h (Nat.pow_le_pow_right (by decide) (by decide))
theorem sc__law_mixed : FnScope ["_law_cell", "_law_k", "_law_number_here"] ["_law_cell", "_law_k"] (defScope (top 68)) := ⟨rfl, rfl, rfl, by decide +kernel, rfl, by decide +kernel, by decide +kernel⟩
theorem b__law_mixed {X : Cx} (B : Bod X ["_law_cell", "_law_k", "_law_number_here"] (defScope (top 68)) 0) (hsc : X.env.scope = defScope (top 68)) : ∀ ds t Φ, p__law_mixed ds t Φ → WB X (defBody (top 68)) (ds.map some ++ List.replicate (3 - ds.length) none) t (fun _ t' => Φ .non t') Φ := by
  rintro _ t Φ ⟨_, ⟨c, k, rfl, hk, rfl⟩, h⟩
  have hk4 : k.natAbs < 2 ^ 4000 := Nat.lt_of_lt_of_le hk (Nat.pow_le_pow_right (by decide) (by decide))
  have h2 : (7919 * k : Int).natAbs < 2 ^ 4000 := by
    have e : (7919 : Nat) < 2 ^ 13 := by decide
    rw [Int.natAbs_mul]
    exact Nat.lt_of_lt_of_le (pow_mul_lt (m := 13) (n := 1000) e hk) (Nat.pow_le_pow_right (by decide) (by decide))
  refine (wb_cons (ws_set B 2 rfl (.inl rfl) ((wv_mod (wv_add (wv_add (wv_add (wv_mul (wv_mod (wv_var B 0 rfl rfl (.inl rfl)) wv_int ?r1) wv_int ?m1) (wv_mul (wv_mul wv_int (wv_var B 1 rfl rfl (.inl rfl)) ?m2) (wv_var B 1 rfl rfl (.inl rfl)) ?m3)) (wv_mul wv_int (wv_var B 1 rfl rfl (.inl rfl)) ?m4)) wv_int) wv_int ?r2) _ _ (wb_one (ws_ret ((wv_divA (wv_mod (wv_mul (wv_var B 2 rfl rfl (.inl rfl)) wv_int ?m5) wv_int ?r3) wv_int ?q1) _ _ ?ret1))))))
  case r1 => decide
  case r2 => decide
  case r3 => decide
  case m1 => exact mw (mod31 (m := 2147483629) (by decide) (by decide)) (sm (by decide))
  case m2 => exact mw (sm (by decide)) hk4
  case m3 => exact mw h2 hk4
  case m4 => exact mw (sm (by decide)) hk4
  case m5 => exact mw (mod31 (m := 2147483647) (by decide) (by decide)) (sm (by decide))
  case q1 => exact ⟨by decide, by decide⟩
  case ret1 => exact h
theorem made_1 {a b : Int} {o : Int} (ho : o = (Int.gcd a b : Int)) (k : decide (0 < b) = true) : D.int o = D.int (if 0 < b then (Int.gcd a b : Int) else 0 - (Int.gcd a b : Int)) := by
  rw [if_pos (of_decide_eq_true k), ho]
theorem made_2 {a b : Int} {o : Int} (ho : o = (Int.gcd a b : Int)) (k : decide (0 < b) = false) : D.int (0 - o) = D.int (if 0 < b then (Int.gcd a b : Int) else 0 - (Int.gcd a b : Int)) := by
  rw [if_neg (of_decide_eq_false k), ho]
theorem sc__law_made : FnScope ["_law_above", "_law_below_here", "_law_one", "_law_other"] ["_law_above", "_law_below_here"] (defScope (top 72)) := ⟨rfl, rfl, rfl, by decide +kernel, rfl, by decide +kernel, by decide +kernel⟩
theorem b__law_made {X : Cx} (B : Bod X ["_law_above", "_law_below_here", "_law_one", "_law_other"] (defScope (top 72)) 0) (hsc : X.env.scope = defScope (top 72)) (m_abs : X.mg "abs" = none) : ∀ ds t Φ, p__law_made ds t Φ → WB X (defBody (top 72)) (ds.map some ++ List.replicate (4 - ds.length) none) t (fun _ t' => Φ .non t') Φ := by
  rintro _ t Φ ⟨_, ⟨a, b, rfl, hb, hz, rfl⟩, h⟩
  refine (wb_cons (ws_par B 2 3 rfl rfl (by decide) rfl rfl hsc rfl ((wv_abs B m_abs (av_cons (wv_var B 0 rfl rfl (.inl rfl)) av_nil) rfl) _ _ ((wv_abs B m_abs (av_cons (wv_var B 1 rfl rfl (.inl rfl)) av_nil) rfl) _ _ (wb_cons ?loop1)))))
  refine ws_while B (fun m ρ t' => t' = t ∧ ∃ o p : Int, ρ = [some (.int a), some (.int b), some (.int o), some (.int p)] ∧ 0 ≤ o ∧ 0 ≤ p ∧ Int.gcd o p = Int.gcd a b ∧ p.toNat = m) _ ⟨rfl, _, _, rfl, by omega, by omega, by simp [Int.gcd], rfl⟩ ?_
  rintro m ρ t' ⟨rfl, o, p, rfl, ho, hp, hg, rfl⟩
  refine (tv_gt (wv_var B 3 rfl rfl (.inl rfl)) wv_int) _ _ ⟨fun k => ?_, fun k => ?_⟩
  · have k := of_decide_eq_true k
    refine (wb_one (ws_par B 2 3 rfl rfl (by decide) rfl rfl hsc rfl ((wv_var B 3 rfl rfl (.inl rfl)) _ _ ((wv_mod (wv_var B 2 rfl rfl (.inl rfl)) (wv_var B 3 rfl rfl (.inl rfl)) ?r1) _ _ ?next1))))
    case r1 => exact k
    case next1 =>
      have h1 := Int.emod_nonneg o (show p ≠ 0 by omega)
      have h2 := Int.emod_lt_of_pos o k
      refine ⟨(o % p).toNat, by omega, rfl, p, o % p, rfl, by omega, h1, ?_, rfl⟩
      rw [← hg]
      obtain ⟨m, rfl⟩ : ∃ m : Nat, o = m := ⟨o.toNat, by omega⟩
      obtain ⟨n, rfl⟩ : ∃ n : Nat, p = n := ⟨p.toNat, by omega⟩
      show Nat.gcd n (m % n) = Nat.gcd m n
      rw [Nat.gcd_comm n, Nat.gcd_comm m]
      exact (Nat.gcd_rec n m).symm
  · have k := of_decide_eq_false k
    have e : p = 0 := by omega
    subst e
    have e : o = ((Int.gcd a b : Nat) : Int) := by
      rw [← hg, Int.gcd_zero_right]
      omega
    have hd : ∀ x, CDivA x (if 0 < b then (Int.gcd a b : Int) else 0 - (Int.gcd a b : Int)) := by
      intro x
      split
      · exact gcd_div hb hz
      · exact gcd_divN hb hz
    refine (wb_cons (ws_set B 2 rfl (.inl rfl) ((wv_if (tv_gt (wv_var B 1 rfl rfl (.inl rfl)) wv_int) (fun k1 => wv_is (wv_var B 2 rfl rfl (.inl rfl)) (made_1 (a := a) e k1)) (fun k1 => wv_is (wv_sub wv_int (wv_var B 2 rfl rfl (.inl rfl))) (made_2 (a := a) e k1))) _ _ (wb_one (ws_ret ((wv_tup (av_cons (wv_divA (wv_var B 0 rfl rfl (.inl rfl)) (wv_var B 2 rfl rfl (.inl rfl)) (hd _)) (av_cons (wv_divA (wv_var B 1 rfl rfl (.inl rfl)) (wv_var B 2 rfl rfl (.inl rfl)) (hd _)) av_nil)) (len_le rfl)) _ _ ?ret1))))))
    case ret1 =>
      by_cases k : 0 < b
      · rw [if_pos k, frac_pos k]
        exact h
      · rw [if_neg k, frac_neg (by omega)]
        exact h
theorem sc__law_plus : FnScope ["_law_one", "_law_other"] ["_law_one", "_law_other"] (defScope (top 73)) := ⟨rfl, rfl, rfl, by decide +kernel, rfl, by decide +kernel, by decide +kernel⟩
theorem b__law_plus {X : Cx} (B : Bod X ["_law_one", "_law_other"] (defScope (top 73)) 1) (hsc : X.env.scope = defScope (top 73)) (G__law_made : Dfn X "_law_made" 1 p__law_made) : ∀ ds t Φ, p__law_plus ds t Φ → WB X (defBody (top 73)) (ds.map some ++ List.replicate (2 - ds.length) none) t (fun _ t' => Φ .non t') Φ := by
  rintro _ t Φ ⟨_, ⟨x, y, rfl, hx, hy, rfl⟩, h⟩
  refine (wb_one (ws_ret ((wv_call B G__law_made (av_cons (wv_add (wv_mul (wv_ixT (wv_var B 0 rfl rfl (.inl rfl)) wv_int rfl) (wv_ixT (wv_var B 1 rfl rfl (.inl rfl)) wv_int rfl) ?m2) (wv_mul (wv_ixT (wv_var B 1 rfl rfl (.inl rfl)) wv_int rfl) (wv_ixT (wv_var B 0 rfl rfl (.inl rfl)) wv_int rfl) ?m3)) (av_cons (wv_mul (wv_ixT (wv_var B 0 rfl rfl (.inl rfl)) wv_int rfl) (wv_ixT (wv_var B 1 rfl rfl (.inl rfl)) wv_int rfl) ?m1) av_nil)) (⟨_, _, rfl, dd_ne x y, big_dd hx hy, rfl⟩) rfl) _ _ ?ret1)))
  case m1 => exact mw hx.2 hy.2
  case m2 => exact mw hx.1 hy.2
  case m3 => exact mw hy.1 hx.2
  case ret1 =>
    rw [divInt_dd, ← Rat.add_def']
    exact h
theorem sc__law_less : FnScope ["_law_one", "_law_other"] ["_law_one", "_law_other"] (defScope (top 74)) := ⟨rfl, rfl, rfl, by decide +kernel, rfl, by decide +kernel, by decide +kernel⟩
theorem b__law_less {X : Cx} (B : Bod X ["_law_one", "_law_other"] (defScope (top 74)) 1) (hsc : X.env.scope = defScope (top 74)) (G__law_made : Dfn X "_law_made" 1 p__law_made) : ∀ ds t Φ, p__law_less ds t Φ → WB X (defBody (top 74)) (ds.map some ++ List.replicate (2 - ds.length) none) t (fun _ t' => Φ .non t') Φ := by
  rintro _ t Φ ⟨_, ⟨x, y, rfl, hx, hy, rfl⟩, h⟩
  refine (wb_one (ws_ret ((wv_call B G__law_made (av_cons (wv_sub (wv_mul (wv_ixT (wv_var B 0 rfl rfl (.inl rfl)) wv_int rfl) (wv_ixT (wv_var B 1 rfl rfl (.inl rfl)) wv_int rfl) ?m2) (wv_mul (wv_ixT (wv_var B 1 rfl rfl (.inl rfl)) wv_int rfl) (wv_ixT (wv_var B 0 rfl rfl (.inl rfl)) wv_int rfl) ?m3)) (av_cons (wv_mul (wv_ixT (wv_var B 0 rfl rfl (.inl rfl)) wv_int rfl) (wv_ixT (wv_var B 1 rfl rfl (.inl rfl)) wv_int rfl) ?m1) av_nil)) (⟨_, _, rfl, dd_ne x y, big_dd hx hy, rfl⟩) rfl) _ _ ?ret1)))
  case m1 => exact mw hx.2 hy.2
  case m2 => exact mw hx.1 hy.2
  case m3 => exact mw hy.1 hx.2
  case ret1 =>
    rw [divInt_dd, ← Rat.sub_def']
    exact h
theorem sc__law_times : FnScope ["_law_one", "_law_other"] ["_law_one", "_law_other"] (defScope (top 75)) := ⟨rfl, rfl, rfl, by decide +kernel, rfl, by decide +kernel, by decide +kernel⟩
theorem b__law_times {X : Cx} (B : Bod X ["_law_one", "_law_other"] (defScope (top 75)) 1) (hsc : X.env.scope = defScope (top 75)) (G__law_made : Dfn X "_law_made" 1 p__law_made) : ∀ ds t Φ, p__law_times ds t Φ → WB X (defBody (top 75)) (ds.map some ++ List.replicate (2 - ds.length) none) t (fun _ t' => Φ .non t') Φ := by
  rintro _ t Φ ⟨_, ⟨x, y, rfl, hx, hy, rfl⟩, h⟩
  refine (wb_one (ws_ret ((wv_call B G__law_made (av_cons (wv_mul (wv_ixT (wv_var B 0 rfl rfl (.inl rfl)) wv_int rfl) (wv_ixT (wv_var B 1 rfl rfl (.inl rfl)) wv_int rfl) ?m2) (av_cons (wv_mul (wv_ixT (wv_var B 0 rfl rfl (.inl rfl)) wv_int rfl) (wv_ixT (wv_var B 1 rfl rfl (.inl rfl)) wv_int rfl) ?m1) av_nil)) (⟨_, _, rfl, dd_ne x y, big_dd hx hy, rfl⟩) rfl) _ _ ?ret1)))
  case m1 => exact mw hx.2 hy.2
  case m2 => exact mw hx.1 hy.1
  case ret1 =>
    rw [divInt_dd, ← Rat.mul_def']
    exact h
theorem sc__law_below : FnScope ["_law_one", "_law_other"] ["_law_one", "_law_other"] (defScope (top 76)) := ⟨rfl, rfl, rfl, by decide +kernel, rfl, by decide +kernel, by decide +kernel⟩
theorem b__law_below {X : Cx} (B : Bod X ["_law_one", "_law_other"] (defScope (top 76)) 0) (hsc : X.env.scope = defScope (top 76)) : ∀ ds t Φ, p__law_below ds t Φ → WB X (defBody (top 76)) (ds.map some ++ List.replicate (2 - ds.length) none) t (fun _ t' => Φ .non t') Φ := by
  rintro _ t Φ ⟨_, ⟨x, y, rfl, hx, hy, rfl⟩, h⟩
  refine (wb_one (ws_ret ((wv_lt (wv_mul (wv_ixT (wv_var B 0 rfl rfl (.inl rfl)) wv_int rfl) (wv_ixT (wv_var B 1 rfl rfl (.inl rfl)) wv_int rfl) ?m1) (wv_mul (wv_ixT (wv_var B 1 rfl rfl (.inl rfl)) wv_int rfl) (wv_ixT (wv_var B 0 rfl rfl (.inl rfl)) wv_int rfl) ?m2)) _ _ ?ret1)))
  case m1 => exact mw hx.1 hy.2
  case m2 => exact mw hy.1 hx.2
  case ret1 =>
    have e : decide (x.num * (y.den : Int) < y.num * (x.den : Int)) = decide (x < y) := by
      rw [decide_eq_decide]
      exact (Rat.lt_iff x y).symm
    rw [e]
    exact h
theorem sc__law_size_of : FnScope ["_law_number_here"] ["_law_number_here"] (defScope (top 85)) := ⟨rfl, rfl, rfl, by decide +kernel, rfl, by decide +kernel, by decide +kernel⟩
theorem b__law_size_of {X : Cx} (B : Bod X ["_law_number_here"] (defScope (top 85)) 0) (hsc : X.env.scope = defScope (top 85)) (m_abs : X.mg "abs" = none) : ∀ ds t Φ, p__law_size_of ds t Φ → WB X (defBody (top 85)) (ds.map some ++ List.replicate (1 - ds.length) none) t (fun _ t' => Φ .non t') Φ := by
  rintro _ t Φ ⟨_, ⟨x, rfl, rfl⟩, h⟩
  refine (wb_one (ws_ret ((wv_tup (av_cons (wv_abs B m_abs (av_cons (wv_ixT (wv_var B 0 rfl rfl (.inl rfl)) wv_int rfl) av_nil) rfl) (av_cons (wv_ixT (wv_var B 0 rfl rfl (.inl rfl)) wv_int rfl) av_nil)) (len_le rfl)) _ _ ?ret1)))
  case ret1 =>
    rw [fr_abs]
    exact h
theorem sc__law_ends : FnScope ["_law_some", "_law_one", "_law_low", "_law_high"] ["_law_some"] (defScope (top 77)) := ⟨rfl, rfl, rfl, by decide +kernel, rfl, by decide +kernel, by decide +kernel⟩
theorem b__law_ends {X : Cx} (B : Bod X ["_law_some", "_law_one", "_law_low", "_law_high"] (defScope (top 77)) 1) (hsc : X.env.scope = defScope (top 77)) (G__law_below : Dfn X "_law_below" 1 p__law_below) : ∀ ds t Φ, p__law_ends ds t Φ → WB X (defBody (top 77)) (ds.map some ++ List.replicate (4 - ds.length) none) t (fun _ t' => Φ .non t') Φ := by
  rintro _ t Φ ⟨_, ⟨a, b, rfl, ha, hb, rfl⟩, h⟩
  refine (wb_cons (ws_par B 2 3 rfl rfl (by decide) rfl rfl hsc rfl ((wv_ixL (wv_var B 0 rfl rfl (.inl rfl)) wv_int rfl) _ _ ((wv_ixL (wv_var B 0 rfl rfl (.inl rfl)) wv_int rfl) _ _ (wb_cons ?loop1)))))
  have hall : ∀ x ∈ [a, b], Big x := by
    intro x hx
    simp only [List.mem_cons, List.not_mem_nil, or_false] at hx
    rcases hx with rfl | rfl <;> assumption
  have htake : ∀ (j : Nat), ∀ x ∈ [a, b].take j, Big x := fun j x hx => hall x (List.mem_of_mem_take hx)
  refine ws_forL B 1 rfl (.inl rfl) (fun j ρ t' => t' = t ∧ ∃ md, ρ = [some (.lst [fr a, fr b]), md, some (fr (([a, b].take j).foldl min a)), some (fr (([a, b].take j).foldl max a))]) ?_
  refine (wv_var B 0 rfl rfl (.inl rfl)) _ _ ⟨_, rfl, ⟨rfl, none, rfl⟩, ?_, ?_⟩
  · rintro j d ρ t' hd ⟨rfl, md, rfl⟩
    obtain ⟨x, hx, rfl⟩ := fr_inj_at (l := [a, b]) hd
    have h1 : Big (([a, b].take j).foldl min a) := fold_big (fun _ _ => Sz.min) _ _ ha (htake j)
    have h2 : Big (([a, b].take j).foldl max a) := fold_big (fun _ _ => Sz.max) _ _ ha (htake j)
    have hx' : Big x := hall x (List.mem_of_getElem? hx)
    refine (wb_cons (ws_set B 2 rfl (.inl rfl) ((wv_if (tv_val (wv_call B G__law_below (av_cons (wv_var B 1 rfl rfl (.inl rfl)) (av_cons (wv_var B 2 rfl rfl (.inl rfl)) av_nil)) (⟨x, _, rfl, hx', h1, rfl⟩) rfl)) (fun k1 => wv_is (wv_var B 1 rfl rfl (.inl rfl)) (fr_min1 k1)) (fun k1 => wv_is (wv_var B 2 rfl rfl (.inl rfl)) (fr_min2 k1))) _ _ (wb_one (ws_set B 3 rfl (.inl rfl) ((wv_if (tv_val (wv_call B G__law_below (av_cons (wv_var B 3 rfl rfl (.inl rfl)) (av_cons (wv_var B 1 rfl rfl (.inl rfl)) av_nil)) (⟨_, x, rfl, h2, hx', rfl⟩) rfl)) (fun k2 => wv_is (wv_var B 1 rfl rfl (.inl rfl)) (fr_max1 k2)) (fun k2 => wv_is (wv_var B 3 rfl rfl (.inl rfl)) (fr_max2 k2))) _ _ ?next1))))))
    case next1 =>
      refine ⟨rfl, some (fr x), ?_⟩
      rw [foldl_take hx, foldl_take hx]
      rfl
  · rintro ρ t' ⟨rfl, md, rfl⟩
    refine (wb_one (ws_ret ((wv_tup (av_cons (wv_var B 2 rfl rfl (.inl rfl)) (av_cons (wv_var B 3 rfl rfl (.inl rfl)) av_nil)) (len_le rfl)) _ _ ?ret1)))
    case ret1 =>
      have e1 : ([a, b].take 2).foldl min a = min a b := by
        show min (min a a) b = min a b
        have : min a a = a := by grind
        rw [this]
      have e2 : ([a, b].take 2).foldl max a = max a b := by
        show max (max a a) b = max a b
        have : max a a = a := by grind
        rw [this]
      show Φ (D.tup [fr (([a, b].take 2).foldl min a), fr (([a, b].take 2).foldl max a)]) t'
      rw [e1, e2]
      exact h
theorem sc__law_power : FnScope ["_law_base", "_law_exponent", "_law_found", "_law_turn"] ["_law_base", "_law_exponent"] (defScope (top 79)) := ⟨rfl, rfl, rfl, by decide +kernel, rfl, by decide +kernel, by decide +kernel⟩
theorem b__law_power {X : Cx} (B : Bod X ["_law_base", "_law_exponent", "_law_found", "_law_turn"] (defScope (top 79)) 0) (hsc : X.env.scope = defScope (top 79)) (m_range : X.mg "range" = none) (m_abs : X.mg "abs" = none) : ∀ ds t Φ, p__law_power ds t Φ → WB X (defBody (top 79)) (ds.map some ++ List.replicate (4 - ds.length) none) t (fun _ t' => Φ .non t') Φ := by
  rintro _ t Φ ⟨_, ⟨r, e, rfl, hr, he, rfl⟩, h⟩
  obtain ⟨b, hb⟩ : ∃ b : Nat, r.B = b := ⟨r.B.toNat, by have := hr.b1; omega⟩
  have b2 : b ≤ 16 := by have := hr.b2; omega
  refine (wb_cons (ws_set B 2 rfl (.inl rfl) (wv_int _ _ (wb_cons ?loop1))))
  have hpw := fr_pw hr (e := e) (n := e.natAbs) rfl
  have big : ∀ j, j ≤ e.natAbs → (r.B ^ j).natAbs < 2 ^ 4000 := fun j hj => by
    rw [Int.natAbs_pow, hb]
    exact pow_bound b2 (by omega)
  have bB : r.B.natAbs < 2 ^ 4000 := sm (by have := hr.b1; have := hr.b2; omega)
  refine ws_forR B 3 rfl (.inl rfl) (fun j ρ t' => t' = t ∧ ∃ md, ρ = [some (.int r.B), some (.int e), some (.int (r.B ^ j)), md]) rfl m_range ?_
  refine (wv_abs B m_abs (av_cons (wv_var B 1 rfl rfl (.inl rfl)) av_nil) rfl) _ _ ⟨_, rfl, by omega, by omega, ⟨rfl, none, by rw [Int.pow_zero]; rfl⟩, ?_, ?_⟩
  · rintro j ρ t' hj ⟨rfl, md, rfl⟩
    refine (wb_one (ws_set B 2 rfl (.inl rfl) ((wv_mul (wv_var B 2 rfl rfl (.inl rfl)) (wv_var B 0 rfl rfl (.inl rfl)) ?m1) _ _ ?next1)))
    case m1 => exact mw (big j (by omega)) bB
    case next1 => exact ⟨rfl, some (.int (j : Int)), by rw [Int.pow_succ]; rfl⟩
  · rintro ρ t' ⟨rfl, md, rfl⟩
    rw [Int.toNat_natCast]
    refine (wb_one (ws_ret ((wv_if (tv_ge (wv_var B 1 rfl rfl (.inl rfl)) wv_int) (fun k1 => wv_is (wv_tup (av_cons (wv_var B 2 rfl rfl (.inl rfl)) (av_cons wv_int av_nil)) (len_le rfl)) (hpw.1 (of_decide_eq_true k1))) (fun k1 => wv_is (wv_tup (av_cons wv_int (av_cons (wv_var B 2 rfl rfl (.inl rfl)) av_nil)) (len_le rfl)) (hpw.2 (of_decide_eq_false k1)))) _ _ ?ret1)))
    case ret1 => exact h
theorem sc__law_place : FnScope ["_law_ruler_here", "_law_number_here", "_law_found"] ["_law_ruler_here", "_law_number_here"] (defScope (top 80)) := ⟨rfl, rfl, rfl, by decide +kernel, rfl, by decide +kernel, by decide +kernel⟩
theorem b__law_place {X : Cx} (B : Bod X ["_law_ruler_here", "_law_number_here", "_law_found"] (defScope (top 80)) 1) (hsc : X.env.scope = defScope (top 80)) (G__law_below : Dfn X "_law_below" 1 p__law_below) (G__law_power : Dfn X "_law_power" 1 p__law_power) (m_abs : X.mg "abs" = none) : ∀ ds t Φ, p__law_place ds t Φ → WB X (defBody (top 80)) (ds.map some ++ List.replicate (3 - ds.length) none) t (fun _ t' => Φ .non t') Φ := by
  rintro _ t Φ ⟨_, ⟨r, x, rfl, hr, hx, rfl⟩, h⟩
  have l1 := hr.l1; have l2 := hr.l2; have f1 := hr.f1; have f2 := hr.f2
  have hle : placeOf r x ≤ 366 := placeOf_le hr hx.abs_lt
  have hlow := placeOf_low hr x
  have big : Big x.abs := hx.abs.le (by decide)
  refine (wb_cons (ws_set B 2 rfl (.inl rfl) ((wv_ixT (wv_var B 0 rfl rfl (.inl rfl)) wv_int rfl) _ _ (wb_cons ?loop1))))
  refine ws_while B (fun m ρ t' => t' = t ∧ ∃ g : Int, ρ = [some (rul r), some (fr x), some (.int g)] ∧ r.L ≤ g ∧ g ≤ placeOf r x ∧ (placeOf r x - g).toNat = m) _ ⟨rfl, r.L, rfl, by omega, hlow, rfl⟩ ?_
  rintro m ρ t' ⟨rfl, g, rfl, h1, h2, rfl⟩
  refine (tv_not (tv_val (wv_call B G__law_below (av_cons (wv_tup (av_cons (wv_abs B m_abs (av_cons (wv_ixT (wv_var B 1 rfl rfl (.inl rfl)) wv_int rfl) av_nil) rfl) (av_cons (wv_ixT (wv_var B 1 rfl rfl (.inl rfl)) wv_int rfl) av_nil)) (len_le rfl)) (av_cons (wv_call B G__law_power (av_cons (wv_ixT (wv_var B 0 rfl rfl (.inl rfl)) wv_int rfl) (av_cons (wv_add (wv_var B 2 rfl rfl (.inl rfl)) (wv_ixT (wv_var B 0 rfl rfl (.inl rfl)) wv_int rfl)) av_nil)) (⟨r, _, rfl, hr, by omega, rfl⟩) rfl) av_nil)) (⟨x.abs, _, by rw [fr_abs], big, big_pw hr (by omega), rfl⟩) rfl))) _ _ ⟨fun k => ?_, fun k => ?_⟩
  · have k : ¬ x.abs < pw r (g + r.F) := by simpa using k
    rw [enough_iff hr h1] at k
    refine (wb_one (ws_set B 2 rfl (.inl rfl) ((wv_add (wv_var B 2 rfl rfl (.inl rfl)) wv_int) _ _ ?next1)))
    case next1 => exact ⟨(placeOf r x - (g + 1)).toNat, by omega, rfl, g + 1, rfl, by omega, by omega, rfl⟩
  · have k : x.abs < pw r (g + r.F) := by simpa using k
    rw [enough_iff hr h1] at k
    refine (wb_one (ws_ret ((wv_var B 2 rfl rfl (.inl rfl)) _ _ ?ret1)))
    case ret1 =>
      have e : placeOf r x = g := by omega
      rw [e] at h
      exact h
theorem fr_inv {x : Rat} (h : 0 < x) : D.tup [.int (x.den : Int), .int x.num] = fr x⁻¹ := by
  have hn : 0 < x.num := by
    have h1 := Rat.num_nonneg.mpr (Rat.le_of_lt h)
    have h2 : x.num ≠ 0 := fun z => by
      have := Rat.num_eq_zero.mp z
      grind
    omega
  unfold fr
  rw [Rat.num_inv, Rat.den_inv, if_neg (by omega), Int.sign_eq_one_of_pos hn]
  have e : (x.num.natAbs : Int) = x.num := by omega
  rw [e, Int.one_mul]
theorem sc__law_rounded : FnScope ["_law_ruler_here", "_law_number_here", "_law_step", "_law_turns", "_law_whole", "_law_rest", "_law_up"] ["_law_ruler_here", "_law_number_here"] (defScope (top 81)) := ⟨rfl, rfl, rfl, by decide +kernel, rfl, by decide +kernel, by decide +kernel⟩
theorem b__law_rounded {X : Cx} (B : Bod X ["_law_ruler_here", "_law_number_here", "_law_step", "_law_turns", "_law_whole", "_law_rest", "_law_up"] (defScope (top 81)) 2) (hsc : X.env.scope = defScope (top 81)) (G__law_power : Dfn X "_law_power" 1 p__law_power) (G__law_times : Dfn X "_law_times" 2 p__law_times) (G__law_place : Dfn X "_law_place" 2 p__law_place) (m_int : X.mg "int" = none) : ∀ ds t Φ, p__law_rounded ds t Φ → WB X (defBody (top 81)) (ds.map some ++ List.replicate (7 - ds.length) none) t (fun _ t' => Φ .non t') Φ := by
  rintro _ t Φ ⟨_, ⟨r, x, rfl, hr, hx, rfl⟩, h⟩
  have hle : placeOf r x ≤ 366 := placeOf_le hr hx.abs_lt
  have hlow := placeOf_low hr x
  have l1 := hr.l1
  have hs := hx.step hr
  have hq := hx.div hs
  have hp := step_pos hr x
  have hw : Sz 790 ((whole r.w (x / step r x) : Int) : Rat) := (Sz.int (whole_size hq) (by decide)).le (by decide)
  have eq : x * (step r x)⁻¹ = x / step r x := (Rat.div_def _ _).symm
  have sgn : decide (x.num < 0) = decide ((x / step r x).num < 0) := by
    rw [num_negD, num_negD, decide_eq_decide]
    have := Rat.mul_lt_mul_right (a := x / step r x) (b := 0) hp
    rw [Rat.zero_mul, div_step hr] at this
    exact this
  generalize hgq : x / step r x = q at *
  have hd := q.den_pos
  have hr' : (q.num % (q.den : Int)).natAbs < 2 ^ 4000 := by
    have h1 := Int.emod_nonneg q.num (show (q.den : Int) ≠ 0 by omega)
    have h2 := Int.emod_lt_of_pos q.num (show (0 : Int) < (q.den : Int) by omega)
    have h3 := (hq.le (show _ ≤ 4000 by decide)).2
    omega
  have hdiv : CDivA q.num (q.den : Int) := ⟨by omega, PySem.Flt.log2_lt_of (by decide) (Nat.lt_of_lt_of_le hq.2 (Nat.pow_le_pow_right (by decide) (by decide)))⟩
  have two : (2 : Int) * (q.num % (q.den : Int)) = q.num % (q.den : Int) * 2 := Int.mul_comm _ _
  have fin : ∀ u : Bool, u = isUp r.w q → D.tup [.int (q.num.fdiv (q.den : Int) + if u = true then 1 else 0), .int 1] = fr ((whole r.w q : Int) : Rat) := by
    rintro u rfl
    rw [floor_eq]
    rfl
  refine (wb_cons (ws_set B 2 rfl (.inl rfl) ((wv_call B G__law_power (av_cons (wv_ixT (wv_var B 0 rfl rfl (.inl rfl)) wv_int rfl) (av_cons (wv_call B G__law_place (av_cons (wv_var B 0 rfl rfl (.inl rfl)) (av_cons (wv_var B 1 rfl rfl (.inl rfl)) av_nil)) (⟨r, x, rfl, hr, hx, rfl⟩) rfl) av_nil)) (⟨r, _, rfl, hr, by omega, rfl⟩) rfl) _ _ (wb_cons (ws_set B 3 rfl (.inl rfl) ((wv_call B G__law_times (av_cons (wv_var B 1 rfl rfl (.inl rfl)) (av_cons (wv_tup (av_cons (wv_ixT (wv_var B 2 rfl rfl (.inl rfl)) wv_int rfl) (av_cons (wv_ixT (wv_var B 2 rfl rfl (.inl rfl)) wv_int rfl) av_nil)) (len_le rfl)) av_nil)) (⟨x, (step r x)⁻¹, congrArg (fun z => [fr x, z]) (fr_inv hp), hx.b, hs.inv.b, congrArg fr eq.symm⟩) rfl) _ _ (wb_cons (ws_par B 4 5 rfl rfl (by decide) rfl rfl hsc rfl ((wv_divA (wv_ixT (wv_var B 3 rfl rfl (.inl rfl)) wv_int rfl) (wv_ixT (wv_var B 3 rfl rfl (.inl rfl)) wv_int rfl) (hdiv)) _ _ ((wv_mod (wv_ixT (wv_var B 3 rfl rfl (.inl rfl)) wv_int rfl) (wv_ixT (wv_var B 3 rfl rfl (.inl rfl)) wv_int rfl) ((show (0 : Int) < (q.den : Int) by omega))) _ _ (wb_cons (ws_if ((tv_eq (wv_ixT (wv_var B 0 rfl rfl (.inl rfl)) wv_int rfl) wv_str rfl) _ _ ⟨fun k1 => (wb_one (ws_set B 6 rfl (.inl rfl) ((wv_or (wv_gt (wv_mul wv_int (wv_var B 5 rfl rfl (.inl rfl)) (mw (sm (by decide)) hr')) (wv_ixT (wv_var B 3 rfl rfl (.inl rfl)) wv_int rfl)) fun _ => (wv_one (wv_and (wv_eq (wv_mul wv_int (wv_var B 5 rfl rfl (.inl rfl)) (mw (sm (by decide)) hr')) (wv_ixT (wv_var B 3 rfl rfl (.inl rfl)) wv_int rfl) rfl) fun _ => (wv_one (wv_eq (wv_mod (wv_var B 4 rfl rfl (.inl rfl)) wv_int ((by decide))) wv_int rfl))))) _ _ (wb_one (ws_ret ((wv_call B G__law_times (av_cons (wv_tup (av_cons (wv_add (wv_var B 4 rfl rfl (.inl rfl)) (wv_intb B m_int (av_cons (wv_var B 6 rfl rfl (.inl rfl)) av_nil) rfl)) (av_cons wv_int av_nil)) (len_le rfl)) (av_cons (wv_var B 2 rfl rfl (.inl rfl)) av_nil)) (⟨((whole r.w q : Int) : Rat), step r x, congrArg (fun z => [z, fr (step r x)]) (fin _ ?u1), hw.b, hs.b, rfl⟩) rfl) _ _ ?ret1)))))), fun k1 => (wb_one (ws_if ((tv_eq (wv_ixT (wv_var B 0 rfl rfl (.inl rfl)) wv_int rfl) wv_str rfl) _ _ ⟨fun k2 => (wb_one (ws_set B 6 rfl (.inl rfl) ((wv_and (wv_lt (wv_ixT (wv_var B 1 rfl rfl (.inl rfl)) wv_int rfl) wv_int) fun _ => (wv_one (wv_gt (wv_var B 5 rfl rfl (.inl rfl)) wv_int))) _ _ (wb_one (ws_ret ((wv_call B G__law_times (av_cons (wv_tup (av_cons (wv_add (wv_var B 4 rfl rfl (.inl rfl)) (wv_intb B m_int (av_cons (wv_var B 6 rfl rfl (.inl rfl)) av_nil) rfl)) (av_cons wv_int av_nil)) (len_le rfl)) (av_cons (wv_var B 2 rfl rfl (.inl rfl)) av_nil)) (⟨((whole r.w q : Int) : Rat), step r x, congrArg (fun z => [z, fr (step r x)]) (fin _ ?u2), hw.b, hs.b, rfl⟩) rfl) _ _ ?ret2)))))), fun k2 => (wb_one (ws_set B 6 rfl (.inl rfl) ((wv_and (wv_eq (wv_ixT (wv_var B 0 rfl rfl (.inl rfl)) wv_int rfl) wv_str rfl) fun _ => (wv_one (wv_gt (wv_var B 5 rfl rfl (.inl rfl)) wv_int))) _ _ (wb_one (ws_ret ((wv_call B G__law_times (av_cons (wv_tup (av_cons (wv_add (wv_var B 4 rfl rfl (.inl rfl)) (wv_intb B m_int (av_cons (wv_var B 6 rfl rfl (.inl rfl)) av_nil) rfl)) (av_cons wv_int av_nil)) (len_le rfl)) (av_cons (wv_var B 2 rfl rfl (.inl rfl)) av_nil)) (⟨((whole r.w q : Int) : Rat), step r x, congrArg (fun z => [z, fr (step r x)]) (fin _ ?u3), hw.b, hs.b, rfl⟩) rfl) _ _ ?ret3))))))⟩)))⟩)))))))))))))
  case ret1 =>
    unfold rnd at h
    rw [hgq] at h
    exact h
  case ret2 =>
    unfold rnd at h
    rw [hgq] at h
    exact h
  case ret3 =>
    unfold rnd at h
    rw [hgq] at h
    exact h
  case u1 =>
    rw [way_near hr.w3] at k1
    have k := of_decide_eq_true k1
    rw [two, floor_eq, rest_gt, rest_two]
    unfold isUp
    rw [if_pos k]
  case u2 =>
    rw [way_near hr.w3] at k1
    have k := of_decide_eq_false k1
    rw [way_nought hr.w3] at k2
    have k2 := of_decide_eq_true k2
    rw [sgn, rest_pos, num_negD]
    unfold isUp
    rw [if_neg k, if_pos k2]
  case u3 =>
    rw [way_near hr.w3] at k1
    have k := of_decide_eq_false k1
    rw [way_nought hr.w3] at k2
    have k2 := of_decide_eq_false k2
    rw [rest_pos, way_up hr.w3]
    unfold isUp
    rw [if_neg k, if_neg k2]
    by_cases k3 : r.w = 2
    · rw [if_pos k3, decide_eq_true k3, Bool.true_and]
    · rw [if_neg k3, decide_eq_false k3, Bool.false_and]
end RS
/-! part RSLaw2 -/
namespace RS
open PySem L2
theorem mul_pw_inv {r : Ruler} (h : r.Ok) (x : Rat) (g : Int) : x * pw r (0 - g - 1) = x / pw r (g + 1) := by
  have e : (0 - g - 1 : Int) = -(g + 1) := by omega
  have h1 := pw_inv h (g + 1)
  have hp := pw_pos h (g + 1)
  rw [e, Rat.div_def]
  congr 1
  have := Rat.mul_inv_cancel (pw r (g + 1)) (by grind)
  grind
theorem le_num (x : Rat) : decide (x.num ≤ 0) = decide (x ≤ 0) := by
  rw [decide_eq_decide]
  have h1 := Rat.num_nonneg (q := x)
  have h2 := Rat.num_eq_zero (q := x)
  constructor
  · intro h
    by_cases h3 : 0 ≤ x
    · have := h1.mpr h3
      have := h2.mp (by omega)
      grind
    · grind
  · intro h
    by_cases h3 : 0 < x.num
    · have h4 := h1.mp (by omega)
      have h5 : x = 0 := by grind
      rw [h5] at h3
      exact absurd h3 (by decide)
    · omega
theorem ge_num (x : Rat) : decide (0 ≤ x.num) = decide (0 ≤ x) := by
  rw [decide_eq_decide]
  exact Rat.num_nonneg
theorem sc__law_own_grain : FnScope ["_law_ruler_here", "_law_low", "_law_high", "_law_found"] ["_law_ruler_here", "_law_low", "_law_high"] (defScope (top 86)) := ⟨rfl, rfl, rfl, by decide +kernel, rfl, by decide +kernel, by decide +kernel⟩
theorem b__law_own_grain {X : Cx} (B : Bod X ["_law_ruler_here", "_law_low", "_law_high", "_law_found"] (defScope (top 86)) 2) (hsc : X.env.scope = defScope (top 86)) (G__law_place : Dfn X "_law_place" 2 p__law_place) (G__law_ends : Dfn X "_law_ends" 2 p__law_ends) (G__law_times : Dfn X "_law_times" 2 p__law_times) (G__law_size_of : Dfn X "_law_size_of" 1 p__law_size_of) (G__law_power : Dfn X "_law_power" 1 p__law_power) : ∀ ds t Φ, p__law_own_grain ds t Φ → WB X (defBody (top 86)) (ds.map some ++ List.replicate (4 - ds.length) none) t (fun _ t' => Φ .non t') Φ := by
  rintro _ t Φ ⟨_, ⟨r, a, b, rfl, hr, ha, hb, rfl⟩, h⟩
  have hpl := placeOf_low hr (min a.abs b.abs)
  have hle : placeOf r (min a.abs b.abs) ≤ 366 := placeOf_le hr (ha.abs.min hb.abs).abs_lt
  have l1 := hr.l1
  refine (wb_cons (ws_if (((tv_chainD B (wv_var B 1 rfl rfl (.inl rfl)) (wv_var B 2 rfl rfl (.inl rfl)) (wv_tup (av_cons wv_int (av_cons wv_int av_nil)) (len_le rfl)) rfl rfl rfl rfl rfl rfl (fr_eqv a b) (fr_eqv b 0))) _ _ ⟨fun k1 => (wb_one (ws_ret (wv_non _ _ ?ret1))), fun k1 => (wb_nil (wb_cons (ws_if ((tv_ov (ov_and (tv_neD B (wv_var B 1 rfl rfl (.inl rfl)) (wv_var B 2 rfl rfl (.inl rfl)) (rfl) (rfl) (rfl) (rfl) (fr_eqv a b)) fun _ => (ov_and1 ((tv_chainLe (wv_ixT (wv_var B 1 rfl rfl (.inl rfl)) wv_int rfl) wv_int (wv_ixT (wv_var B 2 rfl rfl (.inl rfl)) wv_int rfl)))))) _ _ ⟨fun k2 => (wb_one (ws_ret ((wv_ixT (wv_var B 0 rfl rfl (.inl rfl)) wv_int rfl) _ _ ?ret2))), fun k2 => (wb_nil (wb_cons (ws_set B 3 rfl (.inl rfl) ((wv_call B G__law_place (av_cons (wv_var B 0 rfl rfl (.inl rfl)) (av_cons (wv_ixT (wv_call B G__law_ends (av_cons (wv_lst (av_cons (wv_call B G__law_size_of (av_cons (wv_var B 1 rfl rfl (.inl rfl)) av_nil) (⟨a, rfl, rfl⟩) rfl) (av_cons (wv_call B G__law_size_of (av_cons (wv_var B 2 rfl rfl (.inl rfl)) av_nil) (⟨b, rfl, rfl⟩) rfl) av_nil)) (len_le rfl)) av_nil) (⟨_, _, rfl, ha.abs.b, hb.abs.b, rfl⟩) rfl) wv_int rfl) av_nil)) (⟨r, min a.abs b.abs, rfl, hr, ha.abs.min hb.abs, rfl⟩) rfl) _ _ (wb_cons ?loop1)))))⟩))))⟩)))
  case ret1 =>
    have k := Bool.and_eq_true_iff.mp k1
    have e1 := of_decide_eq_true k.1
    have e2 := of_decide_eq_true k.2
    unfold grainSpan at h
    rw [if_pos e1, if_pos (by rw [e1, e2])] at h
    exact h
  case ret2 =>
    have k := Bool.and_eq_true_iff.mp k2
    have e1 : ¬ a = b := by simpa using k.1
    have e2 := k.2
    rw [le_num, ge_num] at e2
    have e2 := Bool.and_eq_true_iff.mp e2
    unfold grainSpan at h
    rw [if_neg e1, if_pos ⟨of_decide_eq_true e2.1, of_decide_eq_true e2.2⟩] at h
    exact h
  case loop1 =>
    have : ∀ z, Decidable (Mul r a z) := fun z => Classical.propDecidable _
    by_cases hab : a = b
    · have k0 : ¬ b = 0 := by
        have k := Bool.and_eq_false_iff.mp k1
        rcases k with k | k
        · exact absurd hab (of_decide_eq_false k)
        · exact of_decide_eq_false k
      subst hab
      have hm : min a.abs a.abs = a.abs := by grind
      rw [hm, placeOf_abs hr]
      rw [hm, placeOf_abs hr] at hle hpl
      unfold grainSpan at h
      rw [if_pos rfl, if_neg k0] at h
      obtain ⟨g1, g2, g3⟩ := grainUp_is hr k0
      have hg := grainUp_le hr k0 ha.abs_lt
      refine ws_while B (fun m ρ t' => t' = t ∧ ∃ g : Int, ρ = [some (rul r), some (fr a), some (fr a), some (.int g)] ∧ placeOf r a ≤ g ∧ g ≤ grainUp r a ∧ (grainUp r a - g).toNat = m) _ ⟨rfl, _, rfl, Int.le_refl _, g1, rfl⟩ ?_
      rintro m ρ t' ⟨rfl, g, rfl, h1, h2, rfl⟩
      refine (tv_ov (ov_and (tv_eqD B (wv_var B 1 rfl rfl (.inl rfl)) (wv_var B 2 rfl rfl (.inl rfl)) (rfl) (rfl) (rfl) (rfl) (fr_eqv a a)) fun _ => (ov_and1 (tv_eq (wv_ixT (wv_call B G__law_times (av_cons (wv_var B 1 rfl rfl (.inl rfl)) (av_cons (wv_call B G__law_power (av_cons (wv_ixT (wv_var B 0 rfl rfl (.inl rfl)) wv_int rfl) (av_cons (wv_sub (wv_sub wv_int (wv_var B 3 rfl rfl (.inl rfl))) wv_int) av_nil)) (⟨r, _, rfl, hr, by omega, rfl⟩) rfl) av_nil)) (⟨a, _, rfl, ha.b, big_pw hr (by omega), congrArg fr (mul_pw_inv hr a g).symm⟩) rfl) wv_int rfl) wv_int rfl)))) _ _ ⟨fun k => ?_, fun k => ?_⟩
      · have k := Bool.and_eq_true_iff.mp k
        have k := of_decide_eq_true k.2
        have k : Mul r a (g + 1) := (mul_den hr).mp (by omega)
        have hne : g ≠ grainUp r a := fun z => g2 (z ▸ k)
        refine (wb_one (ws_set B 3 rfl (.inl rfl) ((wv_add (wv_var B 3 rfl rfl (.inl rfl)) wv_int) _ _ ?next1)))
        case next1 => exact ⟨(grainUp r a - (g + 1)).toNat, by omega, rfl, g + 1, rfl, by omega, by omega, rfl⟩
      · have k : ¬ Mul r a (g + 1) := fun z => by
          have := (mul_den hr).mpr z
          rw [decide_eq_true rfl, Bool.true_and] at k
          have := of_decide_eq_false k
          omega
        have he : g = grainUp r a := by
          by_cases hlt : g < grainUp r a
          · exact absurd (g3 (g + 1) (by omega) (by omega)) k
          · omega
        refine (wb_one (ws_ret ((wv_var B 3 rfl rfl (.inl rfl)) _ _ ?ret3)))
        case ret3 =>
          rw [← he] at h
          exact h
    · have hn : ¬ (a ≤ 0 ∧ 0 ≤ b) := fun z => by
        rw [le_num, ge_num, decide_eq_false hab, decide_eq_true z.1, decide_eq_true z.2] at k2
        cases k2
      have hsm : smallSize a b = min a.abs b.abs := by
        unfold smallSize
        rw [if_neg hn]
      unfold grainSpan at h
      rw [if_neg hab, if_neg hn, hsm] at h
      refine ws_while B (fun m ρ t' => t' = t ∧ ρ = [some (rul r), some (fr a), some (fr b), some (.int (placeOf r (min a.abs b.abs)))]) 0 ⟨rfl, rfl⟩ ?_
      rintro m ρ t' ⟨rfl, rfl⟩
      refine (tv_ov (ov_and (tv_eqD B (wv_var B 1 rfl rfl (.inl rfl)) (wv_var B 2 rfl rfl (.inl rfl)) (rfl) (rfl) (rfl) (rfl) (fr_eqv a b)) fun _ => (ov_and1 (tv_eq (wv_ixT (wv_call B G__law_times (av_cons (wv_var B 1 rfl rfl (.inl rfl)) (av_cons (wv_call B G__law_power (av_cons (wv_ixT (wv_var B 0 rfl rfl (.inl rfl)) wv_int rfl) (av_cons (wv_sub (wv_sub wv_int (wv_var B 3 rfl rfl (.inl rfl))) wv_int) av_nil)) (⟨r, _, rfl, hr, by omega, rfl⟩) rfl) av_nil)) (⟨a, _, rfl, ha.b, big_pw hr (by omega), rfl⟩) rfl) wv_int rfl) wv_int rfl)))) _ _ ⟨fun k => ?_, fun k => ?_⟩
      · have k := Bool.and_eq_true_iff.mp k
        exact absurd (of_decide_eq_true k.1) hab
      · refine (wb_one (ws_ret ((wv_var B 3 rfl rfl (.inl rfl)) _ _ ?ret3)))
        case ret3 => exact h
theorem not_lt_d {x y : Rat} (h : y ≤ x) : decide (x < y) = false := decide_eq_false (Rat.not_lt.mpr h)
theorem sc__law_holds : FnScope ["_law_wide", "_law_narrow", "_law_low", "_law_high"] ["_law_wide", "_law_narrow"] (defScope (top 90)) := ⟨rfl, rfl, rfl, by decide +kernel, rfl, by decide +kernel, by decide +kernel⟩
theorem b__law_holds {X : Cx} (B : Bod X ["_law_wide", "_law_narrow", "_law_low", "_law_high"] (defScope (top 90)) 1) (hsc : X.env.scope = defScope (top 90)) (G__law_below : Dfn X "_law_below" 1 p__law_below) : ∀ ds t Φ, p__law_holds ds t Φ → WB X (defBody (top 90)) (ds.map some ++ List.replicate (4 - ds.length) none) t (fun _ t' => Φ .non t') Φ := by
  rintro _ t Φ ⟨_, ⟨W, N, rfl, hW, hN, hh, rfl⟩, h⟩
  have h1 := hh.lo; have h2 := hh.hi; have h3 := hh.tlo; have h4 := hh.thi; have h5 := hh.err; have h6 := hh.g
  have b1 := hW.lo; have b2 := hW.hi; have b3 := hW.tlo; have b4 := hW.thi; have b5 := hW.err
  have c1 := hN.lo; have c2 := hN.hi; have c3 := hN.tlo; have c4 := hN.thi; have c5 := hN.err
  refine (wb_cons ?loop1)
  refine ws_forTT B (is := [2, 3]) (.cons rfl (.inl rfl) (.cons rfl (.inl rfl) .nil)) (fun j ρ t' => t' = t ∧ ∃ x y, ρ = [some (en W), some (en N), x, y]) ?_
  refine (wv_tup (av_cons (wv_tup (av_cons wv_int (av_cons wv_int av_nil)) (len_le rfl)) (av_cons (wv_tup (av_cons wv_int (av_cons wv_int av_nil)) (len_le rfl)) av_nil)) (len_le rfl)) _ _ ⟨_, rfl, ⟨rfl, none, none, rfl⟩, ?_, ?_⟩
  · rintro j d ρ t' hd ⟨rfl, x, y, rfl⟩
    match j, hd with
    | 0, hd =>
      cases hd
      refine ⟨_, rfl, rfl, ?_⟩
      refine (wb_one (ws_if ((tv_ov (ov_or (tv_val (wv_call B G__law_below (av_cons (wv_ixT (wv_var B 1 rfl rfl (.inl rfl)) (wv_var B 2 rfl rfl (.inl rfl)) rfl) (av_cons (wv_ixT (wv_var B 0 rfl rfl (.inl rfl)) (wv_var B 2 rfl rfl (.inl rfl)) rfl) av_nil)) (⟨N.lo, W.lo, rfl, c1.b, b1.b, rfl⟩) rfl)) fun _ => (ov_or1 (tv_val (wv_call B G__law_below (av_cons (wv_ixT (wv_var B 0 rfl rfl (.inl rfl)) (wv_var B 3 rfl rfl (.inl rfl)) rfl) (av_cons (wv_ixT (wv_var B 1 rfl rfl (.inl rfl)) (wv_var B 3 rfl rfl (.inl rfl)) rfl) av_nil)) (⟨W.hi, N.hi, rfl, b2.b, c2.b, rfl⟩) rfl))))) _ _ ⟨fun k1 => (wb_one (ws_ret (wv_bl _ _ ?ret1))), fun k1 => (wb_nil ?next1)⟩)))
      case ret1 =>
        rw [not_lt_d h1, not_lt_d h2] at k1
        cases k1
      case next1 => exact ⟨rfl, some (.int 0), some (.int 1), rfl⟩
    | 1, hd =>
      cases hd
      refine ⟨_, rfl, rfl, ?_⟩
      refine (wb_one (ws_if ((tv_ov (ov_or (tv_val (wv_call B G__law_below (av_cons (wv_ixT (wv_var B 1 rfl rfl (.inl rfl)) (wv_var B 2 rfl rfl (.inl rfl)) rfl) (av_cons (wv_ixT (wv_var B 0 rfl rfl (.inl rfl)) (wv_var B 2 rfl rfl (.inl rfl)) rfl) av_nil)) (⟨N.tlo, W.tlo, rfl, c3.b, b3.b, rfl⟩) rfl)) fun _ => (ov_or1 (tv_val (wv_call B G__law_below (av_cons (wv_ixT (wv_var B 0 rfl rfl (.inl rfl)) (wv_var B 3 rfl rfl (.inl rfl)) rfl) (av_cons (wv_ixT (wv_var B 1 rfl rfl (.inl rfl)) (wv_var B 3 rfl rfl (.inl rfl)) rfl) av_nil)) (⟨W.thi, N.thi, rfl, b4.b, c4.b, rfl⟩) rfl))))) _ _ ⟨fun k1 => (wb_one (ws_ret (wv_bl _ _ ?ret1))), fun k1 => (wb_nil ?next1)⟩)))
      case ret1 =>
        rw [not_lt_d h3, not_lt_d h4] at k1
        cases k1
      case next1 => exact ⟨rfl, some (.int 2), some (.int 3), rfl⟩
    | j + 2, hd => simp at hd
  · rintro ρ t' ⟨rfl, x, y, rfl⟩
    obtain ⟨lo, hi, tlo, thi, err, g⟩ := N
    obtain ⟨lo', hi', tlo', thi', err', g'⟩ := W
    dsimp only at h5 h6 b5 c5
    cases g with
    | none =>
      cases g' with
      | none =>
        refine (wb_cons (ws_if ((tv_val (wv_call B G__law_below (av_cons (wv_ixT (wv_var B 0 rfl rfl (.inl rfl)) wv_int rfl) (av_cons (wv_ixT (wv_var B 1 rfl rfl (.inl rfl)) wv_int rfl) av_nil)) (⟨err', err, rfl, b5.b, c5.b, rfl⟩) rfl)) _ _ ⟨fun k2 => (wb_one (ws_ret (wv_bl _ _ ?ret2))), fun k2 => (wb_nil (wb_cons (ws_ifT (tv_is (tv_ov (ov_orT (tv_is (tv_isN (wv_ixT (wv_var B 0 rfl rfl (.inl rfl)) wv_int rfl) wv_non) rfl))) rfl) (wb_one (ws_ret ((wv_isN (wv_ixT (wv_var B 1 rfl rfl (.inl rfl)) wv_int rfl) wv_non) _ _ ?ret3))))))⟩)))
        case ret2 =>
          rw [not_lt_d h5] at k2
          cases k2
        case ret3 => exact h
      | some a =>
        refine (wb_cons (ws_if ((tv_val (wv_call B G__law_below (av_cons (wv_ixT (wv_var B 0 rfl rfl (.inl rfl)) wv_int rfl) (av_cons (wv_ixT (wv_var B 1 rfl rfl (.inl rfl)) wv_int rfl) av_nil)) (⟨err', err, rfl, b5.b, c5.b, rfl⟩) rfl)) _ _ ⟨fun k2 => (wb_one (ws_ret (wv_bl _ _ ?ret2))), fun k2 => (wb_nil (wb_cons (ws_ifT (tv_is (tv_ov (ov_or (tv_isN (wv_ixT (wv_var B 0 rfl rfl (.inl rfl)) wv_int rfl) wv_non) fun _ => (ov_or1 (tv_isN (wv_ixT (wv_var B 1 rfl rfl (.inl rfl)) wv_int rfl) wv_non)))) rfl) (wb_one (ws_ret ((wv_isN (wv_ixT (wv_var B 1 rfl rfl (.inl rfl)) wv_int rfl) wv_non) _ _ ?ret3))))))⟩)))
        case ret2 =>
          rw [not_lt_d h5] at k2
          cases k2
        case ret3 => exact h
    | some b =>
      obtain ⟨a, e, hab⟩ := h6 b rfl
      subst e
      refine (wb_cons (ws_if ((tv_val (wv_call B G__law_below (av_cons (wv_ixT (wv_var B 0 rfl rfl (.inl rfl)) wv_int rfl) (av_cons (wv_ixT (wv_var B 1 rfl rfl (.inl rfl)) wv_int rfl) av_nil)) (⟨err', err, rfl, b5.b, c5.b, rfl⟩) rfl)) _ _ ⟨fun k2 => (wb_one (ws_ret (wv_bl _ _ ?ret2))), fun k2 => (wb_nil (wb_cons (ws_if ((tv_ov (ov_or (tv_isN (wv_ixT (wv_var B 0 rfl rfl (.inl rfl)) wv_int rfl) wv_non) fun _ => (ov_or1 (tv_isN (wv_ixT (wv_var B 1 rfl rfl (.inl rfl)) wv_int rfl) wv_non)))) _ _ ⟨fun k3 => (wb_one (ws_ret ((wv_isN (wv_ixT (wv_var B 1 rfl rfl (.inl rfl)) wv_int rfl) wv_non) _ _ ?ret3))), fun k3 => (wb_nil (wb_one (ws_ret ((wv_le (wv_ixT (wv_var B 0 rfl rfl (.inl rfl)) wv_int rfl) (wv_ixT (wv_var B 1 rfl rfl (.inl rfl)) wv_int rfl)) _ _ ?ret4))))⟩))))⟩)))
      case ret2 =>
        rw [not_lt_d h5] at k2
        cases k2
      case ret3 => cases k3
      case ret4 =>
        rw [decide_eq_true hab]
        exact h
end RS
/-! part RSLay8 -/
namespace RS
open PySem L2 PySem.Spec PyProof.Rows
section
variable {X : Cx} {N : List Str} {sc : Scope} {kk : Nat} {ρ : Env'} {t : Nat} {Φ : D → Nat → Prop} {Ω : List D → Nat → Prop} {Nx : Env' → Nat → Prop} {R : D → Nat → Prop} {x : Str} {pos p1 p2 pos' : Pos} {d d' : D} {a b c e : Expr} {es rest : List Expr} {k : Bool} {st : Stmt} {ns : List Int} {z : Str}
/-! ### slices with a step, of a list of ints -/
theorem vals_sub : ∀ {ns : List Int} {its : List Value}, Vals (ns.map V.int) its → ∀ l : List Value, (∀ u ∈ l, u ∈ its) → ∃ ms : List Int, ms.length = l.length ∧ Vals (ms.map V.int) l := by
  intro ns its r l
  have key : ∀ u ∈ its, ∃ m : Int, RelV (.int m) u := by
    clear l
    induction ns generalizing its with
    | nil =>
      cases r
      intro u hu
      cases hu
    | cons n ns ih =>
      cases r with
      | cons h t =>
        intro u hu
        rcases List.mem_cons.mp hu with e | e
        · exact ⟨n, by rw [e]; exact h⟩
        · exact ih t u e
  induction l with
  | nil => exact fun _ => ⟨[], rfl, .nil⟩
  | cons u l ih =>
    intro hl
    obtain ⟨ms, h1, h2⟩ := ih fun v hv => hl v (List.mem_cons_of_mem _ hv)
    obtain ⟨m, hm⟩ := key u (hl u List.mem_cons_self)
    exact ⟨m :: ms, by rw [List.length_cons, List.length_cons, h1], .cons hm h2⟩
def tSl3 (K : PySem.W.Frag) (te : TE) (tl th ts : TO) : TE := fun σ H Q => te σ H fun x H1 => tl σ H1 fun _ H2 => th σ H2 fun _ H3 => ts σ H3 fun w H4 => w ≠ some 0 ∧ ∃ (a : Addr) (ns : List Int), x = .ref a ∧ SqL K H4 a (ns.map V.int) ∧ ∀ p (ms : List Int), H4 p = none → ms.length ≤ ns.length → Q (.ref p) (upd H4 p (.lst (ms.map V.int)))
theorem pe_slice3 {lo hi : Option Expr} {sp : Expr} {te : TE} {tl th ts : TO} (he : PE X e te) (hl : PO X lo tl) (hu : PO X hi th) (hp : PO X (some sp) ts) : PE X (.Subscript e (.Slice lo hi (some sp) p2) pos) (tSl3 X.K te tl th ts) := by
  refine ⟨fun pins s σ H Q I h => ?_⟩
  refine Subscript_ (thn (he.run pins s σ H _ I h) fun v s1 ⟨x, H1, I1, r1, q1⟩ => ?_)
  refine wpAny_Slice (thn (hl.run pins s1 σ H1 _ I1 q1) fun vl s2 ⟨l, H2, I2, pl, q2⟩ => thn (hu.run pins s2 σ H2 _ I2 q2) fun vu s3 ⟨u, H3, I3, pu, q3⟩ => thn (hp.run pins s3 σ H3 _ I3 q3) fun vs s4 ⟨w, H4, I4, pw, hw, ad, ns, ex, hx, q4⟩ => ?_)
  subst ex
  cases r1
  have I5 : Inv X pins σ H4 { s4 with heap := s4.heap.push { cls := .type "slice", data := .fields #[vl, vu, vs] } } := I4.kept (t' := s4.toks) fun b ob q => Heap.get?_push_of_some _ q
  obtain ⟨its, r, hl', hz⟩ := I5.list hx
  show wpAny (model X.prog X.w) X.A (subscriptTail e (.Slice lo hi (some sp) p2) (.ref ad) (.ref s4.heap.objs.size)) (EP X pins σ Q) X.xe { s4 with heap := s4.heap.push { cls := .type "slice", data := .fields #[vl, vu, vs] } }
  refine tail_any (ops := [.ref ad, .ref s4.heap.objs.size]) hl'.isList.typeIs slot_list_getitem.lookup ?_ (by with_unfolding_all rfl)
  refine wpAny_getItem_list_slice hl'.isList (Heap.IsSliceOf.new ..) pl pu pw hw ?_ (by
    have hlen := r.length
    rw [List.length_map] at hlen
    rw [List.size_toArray]
    rw [List.length_map] at hz
    omega)
  obtain ⟨ms, m1, m2⟩ := vals_sub r (slicePick its.toArray l u w).toList (fun v hv => by
    unfold slicePick at hv
    rw [List.toList_toArray] at hv
    obtain ⟨i, _, hi⟩ := List.mem_filterMap.mp hv
    have := List.mem_of_getElem? (l := its) (i := i) (a := v) (by simpa using hi)
    exact this)
  have hle : (slicePick its.toArray l u w).size ≤ its.length := by
    have := slicePick_size_le its.toArray l u w
    rw [show its.toArray.size = its.length from List.size_toArray ..] at this
    exact this
  have hlen := r.length
  rw [List.length_map] at hlen
  have m3 : ms.length ≤ ns.length := by
    rw [m1, Array.length_toList]
    omega
  have hq := q4 ({ s4 with heap := s4.heap.push { cls := .type "slice", data := .fields #[vl, vu, vs] } } : Shared).heap.objs.size ms (I5.hok.fresh (Nat.le_refl _)) m3
  refine ⟨.ref _, _, I5.laid (t' := s4.toks) (o := .lst (ms.map V.int)) (fun b ob q => Heap.get?_push_of_some _ q) (Nat.le_refl _) ?_, rfl, hq⟩
  refine ⟨?_, _, 0, m2, ?_⟩
  · rw [List.length_map]
    rw [List.length_map] at hz
    omega
  · rw [show (slicePick its.toArray l u w).toList.toArray = slicePick its.toArray l u w from Array.toArray_toList]
    exact Heap.get?_push_size _ rfl
/-! ### the law's state -/
/-- what is read at a key -/
def StGet (ns : List Int) (z : Str) (t : Nat) (Φ : D → Nat → Prop) : Prop :=
  (z = "cells" ∧ Φ (.scr ns) t) ∨ (z = "left" ∧ ∀ i : Int, 0 ≤ i → Φ (.int i) t) ∨ (z = "mixed" ∧ ∀ i : Int, Φ (.int i) t) ∨ (z = "at" ∧ ∀ i : Int, 0 ≤ i → i ≤ t → Φ (.int i) t)
theorem we_sget (B : Bod X N sc kk) (ha : WV X a ρ (.stt ns)) (hb : WV X b ρ (.str z)) (h : StGet ns z t Φ) (hs : NoSl b := by exact fun _ _ => rfl) : WE X (.Subscript a b pos) ρ t Φ := .mk fun σ H er hb' Q q => by
  refine ofE (pe_dget B.hu semE semE hs) ?_
  refine ha t (fun d' t' => d' = .stt ns ∧ t' = t) ⟨rfl, rfl⟩ σ H er hb' _ fun x u t1 H1 ⟨ed, et⟩ e1 b1 r1 => ?_
  subst ed et
  refine hb t1 (fun d' t' => d' = .str z ∧ t' = t1) ⟨rfl, rfl⟩ σ H1 (er.mono e1) b1 _ fun y v t2 H2 ⟨ed, et⟩ e2 b2 r2 => ?_
  subst ed et
  cases r2
  cases r1.mono e2 with
  | @stt ad c x1 y1 z1 _ hd hc =>
    have bnd := b2 _ _ _ _ _ hd
    rcases h with ⟨rfl, h⟩ | ⟨rfl, h⟩ | ⟨rfl, h⟩ | ⟨rfl, h⟩
    · exact ⟨_, .ref c, rfl, DGet.k (k := Sum.inr "cells") hd, q _ _ t2 H2 h (e1.trans e2) b2 (.scr hc)⟩
    · exact ⟨_, .int x1, rfl, DGet.k (k := Sum.inr "left") hd, q _ _ t2 H2 (h x1 bnd.1) (e1.trans e2) b2 (.int _)⟩
    · exact ⟨_, .int y1, rfl, DGet.k (k := Sum.inr "mixed") hd, q _ _ t2 H2 (h y1) (e1.trans e2) b2 (.int _)⟩
    · exact ⟨_, .int z1, rfl, DGet.k (k := Sum.inr "at") hd, q _ _ t2 H2 (h z1 bnd.2.1 bnd.2.2) (e1.trans e2) b2 (.int _)⟩
/-- what may be written at a key -/
def StPut (z : Str) (n : Int) (t2 : Nat) : Prop := (z = "left" ∧ 0 ≤ n) ∨ z = "mixed" ∨ (z = "at" ∧ 0 ≤ n ∧ n ≤ t2)
theorem ExS.state {H : Hp} {p : Addr} {c : V} {x y z x' y' z' : Int} (h : H p = some (stD c x y z)) : ExS H (upd H p (stD c x' y' z')) := fun a o e => by
  by_cases ea : a = p
  · subst ea
    rw [h] at e
    cases e
    exact .inr ⟨c, x, y, z, x', y', z', rfl, upd_same⟩
  · exact .inl (by rw [upd_ne ea]; exact e)
theorem HB.state {H : Hp} {t t2 : Nat} {p : Addr} {c : V} {x y z : Int} (h : HB H t) (ht : t ≤ t2) (hx : 0 ≤ x) (hz : 0 ≤ z) (hz2 : z ≤ t2) : HB (upd H p (stD c x y z)) t2 := fun a c' x' y' z' q => by
  by_cases e : a = p
  · subst e
    rw [upd_same] at q
    have q := Option.some.inj q
    unfold stD at q
    injection q with q
    simp only [List.cons.injEq, Prod.mk.injEq, V.int.injEq, and_true, true_and] at q
    obtain ⟨_, h1, h2, h3⟩ := q
    omega
  · rw [upd_ne e] at q
    have := h a c' x' y' z' q
    omega
theorem ws_sput {t2 : Nat} (B : Bod X N sc kk) (ha : WV X a ρ (.stt ns)) (hb : WV X b ρ (.str z)) (he : WE X e ρ t fun d t1 => ∃ n : Int, d = .int n ∧ t1 ≤ t2 ∧ StPut z n t2 ∧ Nx ρ t2)
    (hs : swapsWith e (some (.Subscript a b pos')) pos.line X.env = pure false := by rfl) : WS X (.Assign [.Subscript a b pos'] e pos) ρ t Nx R := .mk fun σ H er hb' E q => by
  refine ofS (ps_dput B.hu semE semE semE hs) ?_
  refine he σ H er hb' _ fun d v t1 H1 ⟨n, ed, ht, hp, hn⟩ e1 b1 r1 => ?_
  subst ed
  cases r1
  refine ha t1 (fun d' t' => d' = .stt ns ∧ t' = t1) ⟨rfl, rfl⟩ σ H1 (er.mono e1) b1 _ fun x u t3 H2 ⟨ed, et⟩ e2 b2 r2 => ?_
  subst ed et
  refine hb t3 (fun d' t' => d' = .str z ∧ t' = t3) ⟨rfl, rfl⟩ σ H2 (er.mono (e1.trans e2)) b2 _ fun y v t4 H3 ⟨ed, et⟩ e3 b3 r3 => ?_
  subst ed et
  cases r3
  cases r2.mono e3 with
  | @stt ad c x1 y1 z1 _ hd hc =>
    have bnd := b3 _ _ _ _ _ hd
    have er3 := er.mono ((e1.trans e2).trans e3)
    rcases hp with ⟨rfl, h⟩ | rfl | ⟨rfl, h, h'⟩
    · exact ⟨_, _, rfl, DPut.k (k := Sum.inr "left") (v := .int n) hd (show 4 < sizeLine by decide), q.1 ρ t2 σ _ hn (((e1.trans e2).trans e3).trans (ExS.state (x' := n) (y' := y1) (z' := z1) hd)) (b3.state ht h bnd.2.1 (by omega)) (er3.mono (ExS.state (x' := n) (y' := y1) (z' := z1) hd))⟩
    · exact ⟨_, _, rfl, DPut.k (k := Sum.inr "mixed") (v := .int n) hd (show 4 < sizeLine by decide), q.1 ρ t2 σ _ hn (((e1.trans e2).trans e3).trans (ExS.state (x' := x1) (y' := n) (z' := z1) hd)) (b3.state ht bnd.1 bnd.2.1 (by omega)) (er3.mono (ExS.state (x' := x1) (y' := n) (z' := z1) hd))⟩
    · exact ⟨_, _, rfl, DPut.k (k := Sum.inr "at") (v := .int n) hd (show 4 < sizeLine by decide), q.1 ρ t2 σ _ hn (((e1.trans e2).trans e3).trans (ExS.state (x' := x1) (y' := y1) (z' := n) hd)) (b3.state ht bnd.1 h h') (er3.mono (ExS.state (x' := x1) (y' := y1) (z' := n) hd))⟩
/-- {'cells': script, 'left': 0, 'mixed': 0, 'at': 0} -/
theorem we_begun (B : Bod X N sc kk) {i : Nat} {j0 j1 j2 j3 j4 j5 j6 : Nat} {q1 q2 q3 q4 q5 q6 q7 q8 : Pos} (hN : N[i]? = some x) (hv : Vis sc x) (hρ : ρ[i]? = some (some (.scr ns))) (h : Φ (.stt ns) t)
    (hd : (x == ("__debug__" : Str)) = false := by decide) (hcd : (x == ("__classdict__" : Str)) = false := by decide) :
    WE X (.Dict [some (.Constant (.str "cells") j0 q1), some (.Constant (.str "left") j1 q2), some (.Constant (.str "mixed") j2 q3), some (.Constant (.str "at") j3 q4)] [.Name x q5, .Constant (.int 0) j4 q6, .Constant (.int 0) j5 q7, .Constant (.int 0) j6 q8] pos) ρ t Φ := .mk fun σ H er hb Q q => by
  refine ofE (pe_disp (pps_cons pe_str (pe_var (i := i) (by rw [B.n]; exact hN) (B.vis x hv) hd hcd) (pps_cons pe_str pe_int (pps_cons pe_str pe_int (pps_cons pe_str pe_int pps_nil)))) rfl rfl (by simp) (Nat.le_of_ble_eq_true rfl)) ?_
  intro p hp
  obtain ⟨v, e1, r⟩ := er.2 i _ hρ
  cases r with
  | @scr c _ hc =>
    refine ⟨.ref c, e1, upd_same, [(.inr "cells", .ref c), (.inr "left", .int 0), (.inr "mixed", .int 0), (.inr "at", .int 0)], rfl, Nat.le_of_ble_eq_true rfl, ?_⟩
    have e2 : upd (upd H p (.dK [])) p (.dK (mergeK [] [(.inr "cells", .ref c), (.inr "left", .int 0), (.inr "mixed", .int 0), (.inr "at", .int 0)])) = upd H p (stD (.ref c) 0 0 0) := by
      funext b
      by_cases eb : b = p
      · rw [eb, upd_same, upd_same]
        rfl
      · rw [upd_ne eb, upd_ne eb, upd_ne eb]
    rw [e2]
    have e3 := ExS.new (o := stD (.ref c) 0 0 0) hp
    exact q _ _ t _ h e3 (hb.state (Nat.le_refl t) (by decide) (by decide) (by omega)) (.stt upd_same (e3.seqL hc))
end
end RS
/-! part RSLay9 -/
namespace RS
open PySem L2 PySem.Spec PyProof.Rows
section
variable {X : Cx} {N : List Str} {sc : Scope} {kk : Nat} {ρ : Env'} {t : Nat} {Φ : D → Nat → Prop} {Ω : List D → Nat → Prop} {Nx Nx' : Env' → Nat → Prop} {R : D → Nat → Prop} {x : Str} {pos p1 p2 pos' : Pos} {d d' : D} {a b c e : Expr} {es rest : List Expr} {k : Bool} {st : Stmt} {sts : List Stmt} {ns : List Int} {z : Str} {i j : Int}
theorem ws_mono (h : WS X st ρ t Nx R) (hN : ∀ ρ' t', Nx ρ' t' → Nx' ρ' t') : WS X st ρ t Nx' R := .mk fun σ H er hb E q => h σ H er hb E ⟨fun ρ' t' σ' H' n => q.1 ρ' t' σ' H' (hN ρ' t' n), q.2⟩
theorem we_mono {Φ' : D → Nat → Prop} (h : WE X e ρ t Φ) (hN : ∀ d t', Φ d t' → Φ' d t') : WE X e ρ t Φ' := .mk fun σ H er hb Q q => h σ H er hb Q fun d v t' H' n => q d v t' H' (hN d t' n)
theorem we_ifT (hc : TV X c ρ true) (h : WE X a ρ t Φ) : WE X (.IfExp c a b pos) ρ t Φ := we_if (hc _ _ ⟨fun _ => h, fun e => nomatch e⟩)
theorem we_ifF (hc : TV X c ρ false) (h : WE X b ρ t Φ) : WE X (.IfExp c a b pos) ρ t Φ := we_if (hc _ _ ⟨fun e => (nomatch e), fun _ => h⟩)
theorem we_slice3 {lo sp : Expr} (ha : WE X a ρ t fun d t1 => t1 = t ∧ d = .scr ns) (hlo : WV X lo ρ (.int i)) (hsp : WV X sp ρ (.int j)) (hj : j ≠ 0) (h : ∀ ms : List Int, ms.length ≤ ns.length → Φ (.lst (ms.map D.int)) t) : WE X (.Subscript a (.Slice (some lo) none (some sp) p2) pos) ρ t Φ := .mk fun σ H er hb Q q => by
  refine ofE (pe_slice3 semE (po_some semE) po_none (po_some semE)) ?_
  refine ha σ H er hb _ fun d v t1 H1 ⟨et, ed⟩ e1 b1 r1 => ?_
  subst et ed
  refine hlo t1 (fun d' t' => d' = .int i ∧ t' = t1) ⟨rfl, rfl⟩ σ H1 (er.mono e1) b1 _ fun y v2 t2 H2 ⟨ed, et⟩ e2 b2 r2 => ?_
  subst ed et
  cases r2
  refine ⟨i, rfl, ?_⟩
  refine hsp t2 (fun d' t' => d' = .int j ∧ t' = t2) ⟨rfl, rfl⟩ σ H2 (er.mono (e1.trans e2)) b2 _ fun y v3 t3 H3 ⟨ed, et⟩ e3 b3 r3 => ?_
  subst ed et
  cases r3
  cases r1.mono (e2.trans e3) with
  | @scr ad _ hc =>
    refine ⟨j, rfl, fun z => hj (Option.some.inj z), ad, ns, rfl, hc, fun p ms hp hm => ?_⟩
    have e4 := ExS.new (o := .lst (ms.map V.int)) hp
    exact q _ _ t3 _ (h ms hm) (((e1.trans e2).trans e3).trans e4) (b3.new lst_st) (.lst upd_same (RpL.of_ints ms))
/-- max(a, b) -/
theorem we_max2 (B : Bod X N sc kk) (hm : X.mg "max" = none) (h : WA X (e :: es) ρ t fun ds t1 => ∃ i j, ds = [.int i, .int j] ∧ Φ (.int (max i j)) t1) (hg : sc.names.lookup ("max" : Str) = some .globalImplicit) (he : notStar e = true := by rfl) (hpl : noStars es = true := by rfl) : WE X (.Call (.Name "max" p1) (e :: es) [] pos) ρ t Φ :=
  we_callB B (call_max2 B.calm) (rck_2 (g := fun i j => if j > i then j else i)) hm (by decide +kernel) hg (.mk fun σ H er hb Q q => h σ H er hb Q fun ds vs t1 H1 ⟨i, j, ed, h1⟩ => q ds vs t1 H1 ⟨i, j, ed, by
    have z : (if j > i then j else i) = max i j := by omega
    rw [z]
    exact h1⟩) (by decide) (by decide) he hpl
/-- min(xs) of ints -/
theorem we_min1 {ms : List Int} (B : Bod X N sc kk) (hm : X.mg "min" = none) (ha : WV X e ρ (.lst (ms.map D.int))) (hp : 0 < ms.length) (h : ∀ m, m ∈ ms → (∀ y, y ∈ ms → m ≤ y) → Φ (.int m) t) (hg : sc.names.lookup ("min" : Str) = some .globalImplicit) (he : notStar e = true := by rfl) : WE X (.Call (.Name "min" p1) [e] [] pos) ρ t Φ :=
  we_callB B (cr_min B.calm) rck_min hm (by decide +kernel) hg ((av_cons ha av_nil he) _ _ ⟨ms, rfl, hp, h⟩) (by decide) (by decide) he rfl
end
/-! ### lists of ints as data -/
theorem pyL_ints : ∀ ms : List Int, D.pyL (ms.map D.int) = ms.map PyData.int
  | [] => rfl
  | m :: ms => by
    show D.py (.int m) :: D.pyL (ms.map D.int) = _
    rw [pyL_ints ms]
    rfl
theorem plainL_ints : ∀ ms : List Int, D.plainL (ms.map D.int) = true
  | [] => rfl
  | m :: ms => by
    show (D.plain (.int m) && D.plainL (ms.map D.int)) = true
    rw [plainL_ints ms]
    rfl
theorem flatL_ints : ∀ ms : List Int, D.flatL (ms.map D.int) = true
  | [] => rfl
  | m :: ms => by
    show (D.flat (.int m) && D.flatL (ms.map D.int)) = true
    rw [flatL_ints ms]
    rfl
theorem canLay_ints : ∀ ms : List Int, PyData.canLayAll0 (ms.map PyData.int) = true
  | [] => rfl
  | m :: ms => by
    show (PyData.canLay0 (.int m) && PyData.canLayAll0 (ms.map PyData.int)) = true
    rw [canLay_ints ms]
    rfl
theorem shaped_ints (ms : List Int) : SeqAt.shaped (.list (ms.map PyData.int)) = true := by
  unfold SeqAt.shaped
  have h1 : PyData.canLay0 (.list (ms.map PyData.int)) = true := canLay_ints ms
  have h2 : PyData.depth (.list (ms.map PyData.int)) ≤ 64 := by
    have : ∀ l : List Int, PyData.depthAll (l.map PyData.int) ≤ 1 := by
      intro l
      induction l with
      | nil => decide
      | cons m l ih =>
        show max (PyData.depth (.int m)) (PyData.depthAll (l.map PyData.int)) ≤ 1
        have : PyData.depth (.int m) ≤ 1 := by show _ ≤ 1; simp [PyData.depth]
        omega
    have h3 := this ms
    show PyData.depthAll (ms.map PyData.int) + 1 ≤ 64
    omega
  rw [h1, decide_eq_true h2]
  rfl
theorem eqv_ints_nil (ms : List Int) : PyData.eqv (.list (ms.map PyData.int)) (.list []) = decide (ms = []) := by
  cases ms with
  | nil => rfl
  | cons m ms => rfl
/-- an item of written ints -/
def atC (cs : List Int) (i : Int) : Int := (cs[i.toNat]?).getD 0
theorem atI_nat {α : Type} {l : List α} {i : Int} (h0 : 0 ≤ i) (h1 : i < l.length) : atI l i = l[i.toNat]? := by
  unfold atI
  have : ixN l.length i = some i.toNat := by
    unfold ixN
    rw [if_pos h0, if_pos h1]
  rw [this]
  rfl
theorem at_ints {l : List D} (cs : List Int) {i : Int} (hl : l = cs.map D.int) (h0 : 0 ≤ i) (h1 : i < cs.length) : atI l i = some (.int (atC cs i)) := by
  subst hl
  rw [atI_nat h0 (by rw [List.length_map]; exact h1), List.getElem?_map]
  unfold atC
  have : i.toNat < cs.length := by omega
  rw [List.getElem?_eq_getElem this]
  rfl
theorem atC_mem (cs : List Int) {i : Int} (h0 : 0 ≤ i) (h1 : i < cs.length) : atC cs i ∈ cs := by
  unfold atC
  have : i.toNat < cs.length := by omega
  rw [List.getElem?_eq_getElem this]
  exact List.getElem_mem this
theorem atC_le {cs : List Int} {i m : Int} {n : Int} (h0 : 0 ≤ i) (h1 : i < cs.length) (h : ∀ c ∈ cs, m ≤ c ∧ c ≤ n) : m ≤ atC cs i ∧ atC cs i ≤ n := h _ (atC_mem cs h0 h1)
end RS
/-! part RSDraw -/
namespace RS
open PySem L2 PySem.Spec PyProof.Rows
/-! ### the law's draws -/
def p__law_begun : Pr := fun ds t Φ => ∃ ns : List Int, ds = [.scr ns] ∧ Φ (.stt ns) t
def p__law_open : Pr := fun ds t Φ => ∃ (ns : List Int) (k many : Int), ds = [.stt ns, .int k, .int many] ∧ ns.length ≤ 63 ∧ 0 ≤ k ∧ k ≤ 10 ∧ 1 ≤ many ∧ Φ .non t
def p__law_draw : Pr := fun ds t Φ => ∃ (ns : List Int) (many : Int), ds = [.stt ns, .int many] ∧ 1 ≤ many ∧ many ≤ 1000000000 ∧ t < 1000000 ∧ ∀ r : Int, 0 ≤ r → r < many → Φ (.int r) (t + 1)
theorem sc__law_begun : FnScope ["_law_script"] ["_law_script"] (defScope (top 69)) := ⟨rfl, rfl, rfl, by decide +kernel, rfl, by decide +kernel, by decide +kernel⟩
theorem b__law_begun {X : Cx} (B : Bod X ["_law_script"] (defScope (top 69)) 0) (hsc : X.env.scope = defScope (top 69)) : ∀ ds t Φ, p__law_begun ds t Φ → WB X (defBody (top 69)) (ds.map some ++ List.replicate (1 - ds.length) none) t (fun _ t' => Φ .non t') Φ := by
  rintro _ t Φ ⟨ns, rfl, h⟩
  exact wb_one (ws_ret (we_begun B (i := 0) rfl (.inl rfl) rfl h))
theorem sm1000 {i : Int} (h : i.natAbs < 2 ^ 31) : i.natAbs < 2 ^ 1000 := Nat.lt_of_lt_of_le h (Nat.pow_le_pow_right (by decide) (by decide))
theorem lst_shaped (ms : List Int) : SeqAt.shaped (D.lst (ms.map D.int)).py = true := by
  show SeqAt.shaped (.list (D.pyL (ms.map D.int))) = true
  rw [pyL_ints]
  exact shaped_ints ms
theorem int_at {ms : List Int} {j : Nat} {d : D} (h : (ms.map D.int)[j]? = some d) : ∃ m, ms[j]? = some m ∧ d = .int m := by
  rw [List.getElem?_map] at h
  cases e : ms[j]? with
  | none => rw [e] at h; cases h
  | some x => rw [e] at h; exact ⟨x, rfl, (Option.some.inj h).symm⟩
theorem sc__law_open : FnScope ["_law_state", "_law_k", "_law_many", "_law_some", "_law_great", "_law_at", "_law_cell"] ["_law_state", "_law_k", "_law_many"] (defScope (top 70)) := ⟨rfl, rfl, rfl, by decide +kernel, rfl, by decide +kernel, by decide +kernel⟩
theorem b__law_open {X : Cx} (B : Bod X ["_law_state", "_law_k", "_law_many", "_law_some", "_law_great", "_law_at", "_law_cell"] (defScope (top 70)) 1) (hsc : X.env.scope = defScope (top 70)) (G__law_mixed : Dfn X "_law_mixed" 1 p__law_mixed) (m_enumerate : X.mg "enumerate" = none) (m_abs : X.mg "abs" = none) : ∀ ds t Φ, p__law_open ds t Φ → WB X (defBody (top 70)) (ds.map some ++ List.replicate (7 - ds.length) none) t (fun _ t' => Φ .non t') Φ := by
  rintro _ t Φ ⟨ns, k, many, rfl, hn, hk0, hk, hm, h⟩
  refine wb_cons (ws_mono (Nx := fun ρ1 t1 => t1 = t ∧ ∃ ms : List Int, ms.length ≤ 63 ∧ ρ1 = [some (.stt ns), some (.int k), some (.int many), some (.lst (ms.map D.int)), none, none, none]) (ws_set B 3 rfl (.inl rfl) (we_if ?c)) ?r)
  case c =>
    refine wt_cmp (op_neD (hu64 B)) rok_neD (nomark _) (we_sget B (wv_var B 0 rfl rfl (.inl rfl)) wv_str (.inl ⟨rfl, we_lst (wa_nil ⟨by simp, rfl, rfl, shaped_ints ns, rfl, _, rfl, ⟨fun k1 => ?_, fun k1 => ?_⟩⟩)⟩))
    · exact we_slice3 (we_sget B (wv_var B 0 rfl rfl (.inl rfl)) wv_str (.inl ⟨rfl, rfl, rfl⟩)) (wv_var B 1 rfl rfl (.inl rfl)) (wv_var B 2 rfl rfl (.inl rfl)) (by omega) fun ms hms => ⟨rfl, ms, by omega, rfl⟩
    · exact (wv_lst (av_cons wv_int av_nil) (len_le rfl)) _ _ ⟨rfl, [5], by decide, rfl⟩
  case r =>
    rintro ρ' t' ⟨rfl, ms, hms, rfl⟩
    refine wb_cons (ws_mono (Nx := fun ρ1 t1 => t1 = t' ∧ ∃ gs : List Int, (∀ g ∈ gs, 0 ≤ g) ∧ ρ1 = [some (.stt ns), some (.int k), some (.int many), some (.lst (ms.map D.int)), some (.lst (gs.map D.int)), none, none]) (ws_setLc B (i := 6) (k := 4) rfl (by rw [hsc]; decide +kernel) (by rw [hsc]; rfl) rfl rfl (pi_list semE) (by rw [hsc]; exact ⟨rfl, by decide +kernel, by decide +kernel, by decide +kernel, by decide +kernel⟩) rfl rfl (fun σ H er hb Q hq => lcL_run (Φ := fun d t1 => t1 = t' ∧ ∃ gs : List Int, (∀ g ∈ gs, 0 ≤ g) ∧ ([some (.stt ns), some (.int k), some (.int many), some (.lst (ms.map D.int)), none, none, none] : Env').set 4 (some d) = [some (.stt ns), some (.int k), some (.int many), some (.lst (ms.map D.int)), some (.lst (gs.map D.int)), none, none]) B (fun j acc t1 => t1 = t' ∧ ∃ gs : List Int, (∀ g ∈ gs, 0 ≤ g) ∧ acc = gs.map D.int) ?lc er hb hq)) ?r2)
    case lc =>
      refine (wv_var B 3 rfl rfl (.inl rfl)) _ _ ⟨_, rfl, by rw [List.length_map]; omega, ⟨rfl, [], by simp, rfl⟩, ?_, ?_⟩
      · rintro j d acc t1 hd ⟨rfl, gs, hg, rfl⟩
        obtain ⟨m, hm', rfl⟩ := int_at hd
        intro X' b
        refine (tv_ge (wv_abs (b.bod B) (by rw [b.mg]; exact m_abs) (av_cons (wv_var (b.bod B) 6 rfl rfl (.inl rfl)) av_nil) rfl) (wv_pow wv_int wv_int ⟨by decide, by decide, by decide⟩)) _ _ ⟨fun _ X2 b2 => ?_, fun _ => ⟨rfl, gs, hg, rfl⟩⟩
        refine (wv_abs (b2.bod B) (by rw [b2.mg]; exact m_abs) (av_cons (wv_var (b2.bod B) 6 rfl rfl (.inl rfl)) av_nil) rfl) _ _ ⟨rfl, rfl, gs ++ [(m.natAbs : Int)], ?_, by simp⟩
        intro g hg'
        rcases List.mem_append.mp hg' with z | z
        · exact hg g z
        · simp at z
          omega
      · rintro acc t1 _ ⟨rfl, gs, hg, rfl⟩
        exact ⟨rfl, gs, hg, rfl⟩
    case r2 =>
      rintro ρ' t1 ⟨rfl, gs, hg, rfl⟩
      refine wb_cons (ws_mono (Nx := fun ρ1 t2 => t2 = t1 ∧ ρ1 = [some (.stt ns), some (.int k), some (.int many), some (.lst (ms.map D.int)), some (.lst (gs.map D.int)), none, none]) (ws_sput (t2 := t1) B (wv_var B 0 rfl rfl (.inl rfl)) wv_str (we_if (wt_cmp (op_neD (hu64 B)) rok_neD (nomark _) ((wv_var B 4 rfl rfl (.inl rfl)) _ _ (we_lst (wa_nil ⟨by simp, (show (D.lst (gs.map D.int)).plain = true from plainL_ints gs), rfl, lst_shaped gs, rfl, _, rfl, ⟨fun k1 => ?_, fun k1 => ?_⟩⟩)))))) ?_)
      · cases gs with
        | nil => cases k1
        | cons g gs =>
          exact (wv_ixL (d := .int g) (wv_var B 4 rfl rfl (.inl rfl)) wv_int (by rw [atI_nat (by decide) (by rw [List.map_cons, List.length_cons]; omega)]; rfl)) _ _ ⟨g, rfl, Nat.le_refl _, .inl ⟨rfl, hg g List.mem_cons_self⟩, rfl, rfl⟩
      · exact wv_int _ _ ⟨0, rfl, Nat.le_refl _, .inl ⟨rfl, by decide⟩, rfl, rfl⟩
      rintro ρ' t2 ⟨rfl, rfl⟩
      refine wb_cons (ws_sput (t2 := t2) B (wv_var B 0 rfl rfl (.inl rfl)) wv_str ((wv_var B 1 rfl rfl (.inl rfl)) _ _ ⟨k, rfl, Nat.le_refl _, .inr (.inl rfl), ?_⟩))
      refine wb_cons (ws_forE B (is := [5, 6]) (.cons rfl (.inl rfl) (.cons rfl (.inl rfl) .nil)) rfl (fun j ρ t3 => t3 = t2 ∧ ∃ x y, ρ = [some (.stt ns), some (.int k), some (.int many), some (.lst (ms.map D.int)), some (.lst (gs.map D.int)), x, y]) rfl m_enumerate ((wv_var B 3 rfl rfl (.inl rfl)) _ _ ⟨_, rfl, ⟨rfl, none, none, rfl⟩, ?_, ?_⟩))
      · rintro j d ρ' t3 hd ⟨rfl, x, y, rfl⟩
        obtain ⟨m, hm', rfl⟩ := int_at hd
        have hj : j < ms.length := (List.getElem?_eq_some_iff.mp hm').1
        refine wb_one (ws_sput (t2 := t3) B (wv_var B 0 rfl rfl (.inl rfl)) wv_str (we_call B G__law_mixed rfl (by decide) (wa_cons (we_op op_add rok_I0 (we_sget B (wv_var B 0 rfl rfl (.inl rfl)) wv_str (.inr (.inr (.inl ⟨rfl, fun i => (wv_var B 6 rfl rfl (.inl rfl)) _ _ ⟨_, _, rfl, rfl, ?_⟩⟩))))))))
        exact wa_cons ((wv_add (wv_var B 1 rfl rfl (.inl rfl)) (wv_var B 5 rfl rfl (.inl rfl))) _ _ (wa_nil ⟨_, ⟨_, _, rfl, sm1000 (by omega), rfl⟩, _, rfl, Nat.le_refl _, .inr (.inl rfl), rfl, _, _, rfl⟩))
      · rintro ρ' t3 ⟨rfl, x, y, rfl⟩
        exact wb_one (ws_sput (t2 := t3) B (wv_var B 0 rfl rfl (.inl rfl)) wv_str (wv_int _ _ ⟨0, rfl, Nat.le_refl _, .inr (.inr ⟨rfl, by decide, by omega⟩), h⟩))
theorem mixed_sm (c k : Int) : (mixedV c k).natAbs < 2 ^ 31 := by
  unfold mixedV
  rw [Int.fdiv_eq_ediv_of_nonneg _ (by decide)]
  generalize ((c % 2147483629 * 48271 + 7919 * k * k + 31 * k + 1) % 2147483647) * 69621 = z
  omega
theorem sc__law_draw : FnScope ["_law_state", "_law_many", "_law_found", "_law_number_here"] ["_law_state", "_law_many"] (defScope (top 71)) := ⟨rfl, rfl, rfl, by decide +kernel, rfl, by decide +kernel, by decide +kernel⟩
theorem b__law_draw {X : Cx} (B : Bod X ["_law_state", "_law_many", "_law_found", "_law_number_here"] (defScope (top 71)) 1) (hsc : X.env.scope = defScope (top 71)) (G__law_mixed : Dfn X "_law_mixed" 1 p__law_mixed) : ∀ ds t Φ, p__law_draw ds t Φ → WB X (defBody (top 71)) (ds.map some ++ List.replicate (4 - ds.length) none) t (fun _ t' => Φ .non t') Φ := by
  rintro _ t Φ ⟨ns, many, rfl, h1, h2, ht, h⟩
  refine wb_cons (ws_sput (t2 := t + 1) B (wv_var B 0 rfl rfl (.inl rfl)) wv_str (we_op op_add rok_I0 (we_sget B (wv_var B 0 rfl rfl (.inl rfl)) wv_str (.inr (.inr (.inr ⟨rfl, fun z hz0 hz => wv_int _ _ ⟨_, _, rfl, rfl, _, rfl, Nat.le_succ t, .inr (.inr ⟨rfl, by omega, by omega⟩), ?_⟩⟩))))))
  refine wb_cons (ws_if (wt_cmp op_eq rok_eq (nomark _) (we_sget B (wv_var B 0 rfl rfl (.inl rfl)) wv_str (.inr (.inl ⟨rfl, fun l hl => wv_int _ _ ⟨_, rfl, _, rfl, ⟨fun k1 => ?_, fun k1 => wb_nil ?_⟩⟩⟩)))))
  · refine wb_cons (ws_set B 3 rfl (.inl rfl) (we_call B G__law_mixed rfl (by decide) (wa_cons (we_sget B (wv_var B 0 rfl rfl (.inl rfl)) wv_str (.inr (.inr (.inl ⟨rfl, fun m => wa_cons (we_sget B (wv_var B 0 rfl rfl (.inl rfl)) wv_str (.inr (.inr (.inr ⟨rfl, fun z' hz0' hz' => wa_nil ⟨_, ⟨m, z', rfl, sm1000 (by omega), rfl⟩, ?_⟩⟩))))⟩)))))))
    refine wb_one (ws_ret ((wv_mod (wv_divA (wv_mod (wv_mul (wv_mod (wv_mul (wv_var B 3 rfl rfl (.inl rfl)) (wv_var B 3 rfl rfl (.inl rfl)) ?m1) wv_int ?r1) wv_int ?m2) wv_int ?r2) wv_int ?q1) (wv_var B 1 rfl rfl (.inl rfl)) ?r3) _ _ ?ret1))
    case m1 => exact mw (sm (mixed_sm _ _)) (sm (mixed_sm _ _))
    case r1 => decide
    case m2 => exact mw (mod31 (m := 1000000007) (by decide) (by decide)) (sm (by decide))
    case r2 => decide
    case q1 => exact ⟨by decide, by decide⟩
    case r3 => exact show 0 < many by omega
    case ret1 => exact h _ (Int.emod_nonneg _ (by omega)) (Int.emod_lt_of_pos _ (by omega))
  · refine wb_cons (ws_set B 2 rfl (.inl rfl) (we_op op_mod rok_I (we_sget B (wv_var B 0 rfl rfl (.inl rfl)) wv_str (.inr (.inl ⟨rfl, fun l2 hl2 => (wv_var B 1 rfl rfl (.inl rfl)) _ _ ⟨_, _, rfl, rfl, show 0 < many by omega, ?_⟩⟩)))))
    refine wb_cons (ws_sput (t2 := t + 1) B (wv_var B 0 rfl rfl (.inl rfl)) wv_str (we_op op_fdivA rok_I (we_sget B (wv_var B 0 rfl rfl (.inl rfl)) wv_str (.inr (.inl ⟨rfl, fun l3 hl3 => (wv_var B 1 rfl rfl (.inl rfl)) _ _ ⟨_, _, rfl, rfl, ⟨by omega, PySem.Flt.log2_lt_of (by decide) (Nat.lt_of_lt_of_le (show many.natAbs < 2 ^ 31 by omega) (Nat.pow_le_pow_right (by decide) (by decide)))⟩, _, rfl, Nat.le_refl _, .inl ⟨rfl, ?_⟩, ?_⟩⟩)))))
    · rw [Int.fdiv_eq_ediv_of_nonneg _ (by omega)]
      exact Int.ediv_nonneg hl3 (by omega)
    · exact wb_one (ws_ret ((wv_var B 2 rfl rfl (.inl rfl)) _ _ (h _ (Int.emod_nonneg _ (by omega)) (Int.emod_lt_of_pos _ (by omega)))))
end RS
/-! part RSGiven1 -/
namespace RS
open PySem L2 PySem.Spec PyProof.Rows
section
variable {X : Cx} {N : List Str} {sc : Scope} {kk : Nat} {ρ : Env'} {t : Nat} {Φ : D → Nat → Prop} {pos p1 : Pos} {a b : Expr} {ns : List Int} {many : Int}
theorem we_draw (B : Bod X N sc kk) (G : Dfn X "_law_draw" 2 p__law_draw) (ha : WV X a ρ (.stt ns)) (hb : WV X b ρ (.int many)) (h1 : 1 ≤ many) (h2 : many ≤ 1000000000) (ht : t < 1000000) (h : ∀ r : Int, 0 ≤ r → r < many → Φ (.int r) (t + 1))
    (hg : sc.names.lookup ("_law_draw" : Str) = some .globalImplicit) (hk : 2 ≤ kk := by decide) (h3 : notStar a = true := by rfl) (h4 : noStars [b] = true := by rfl) : WE X (.Call (.Name "_law_draw" p1) [a, b] [] pos) ρ t Φ :=
  we_call B G hg hk ((av_cons ha (av_cons hb av_nil (Bool.and_eq_true_iff.mp h4).1) h3) _ _ ⟨ns, many, rfl, h1, h2, ht, h⟩) (by decide) h3 h4
end
/-! ### the promises of what is drawn -/
def MarkB (r : Ruler) (x : Rat) (n : Nat) : Prop := IsMark r x ∧ x.abs ≤ twp n
theorem MarkB.sz {r : Ruler} (h : r.Ok) {x : Rat} {n : Nat} (m : MarkB r x n) : Sz (n + 18) x := sz_mul h (m.1.mul h) (placeOf_low h x) m.2
def p__law_number : Pr := fun ds t Φ => ∃ ns : List Int, ds = [.stt ns] ∧ t < 900000 ∧ ∀ x, Sz 31 x → Φ (fr x) (t + 6)
def p__law_ruler : Pr := fun ds t Φ => ∃ ns : List Int, ds = [.stt ns] ∧ t < 900000 ∧ ∀ r : Ruler, r.Ok → Φ (rul r) (t + 4)
def p__law_mark : Pr := fun ds t Φ => ∃ (ns : List Int) (r : Ruler), ds = [.stt ns, rul r] ∧ r.Ok ∧ t < 900100 ∧ ∀ x, MarkB r x 32 → Φ (fr x) (t + 6)
def p__law_marks : Pr := fun ds t Φ => ∃ (ns : List Int) (r : Ruler), ds = [.stt ns, rul r] ∧ r.Ok ∧ t < 900000 ∧ ∀ a b, MarkB r a 32 → MarkB r b 32 → a ≤ b → Φ (sp a b) (t + 13)
def tens : List Int := [2, 9, 9, 40, 40, 40, 10 ^ (9 : Int).toNat, 10 ^ (9 : Int).toNat]
theorem cp109 : CPow 10 9 := ⟨by decide, by decide, by decide⟩
theorem divInt_sz {a b : Int} (hb : 0 < b) {k : Nat} (ha : a.natAbs < 2 ^ k) (hb2 : b.natAbs < 2 ^ k) : Sz k (Rat.divInt a b) := by
  obtain ⟨n, rfl⟩ : ∃ n : Nat, b = n := ⟨b.toNat, by omega⟩
  rw [Rat.divInt_ofNat]
  exact sz_mkRat ha (by omega) (by omega)
theorem sign_mul {s a : Int} (hs : -1 ≤ s ∧ s ≤ 1) {k : Nat} (ha : a.natAbs < 2 ^ k) : (s * a).natAbs < 2 ^ k := by
  have : s = -1 ∨ s = 0 ∨ s = 1 := by omega
  have h0 : 0 < 2 ^ k := Nat.pow_pos (by decide)
  rcases this with rfl | rfl | rfl
  · rw [Int.neg_one_mul, Int.natAbs_neg]
    exact ha
  · rw [Int.zero_mul]
    exact h0
  · rw [Int.one_mul]
    exact ha
theorem at_some (cs : List Int) {i lo hi : Int} (h0 : 0 ≤ i) (h1 : i < cs.length) (h : ∀ c ∈ cs, lo ≤ c ∧ c ≤ hi) : ∃ v : Int, (∀ l : List D, l = cs.map D.int → atI l i = some (.int v)) ∧ lo ≤ v ∧ v ≤ hi :=
  ⟨atC cs i, fun l hl => at_ints cs hl h0 h1, (atC_le h0 h1 h).1, (atC_le h0 h1 h).2⟩
theorem sc__law_number : FnScope ["_law_state", "_law_way", "_law_above", "_law_sign"] ["_law_state"] (defScope (top 78)) := ⟨rfl, rfl, rfl, by decide +kernel, rfl, by decide +kernel, by decide +kernel⟩
theorem b__law_number {X : Cx} (B : Bod X ["_law_state", "_law_way", "_law_above", "_law_sign"] (defScope (top 78)) 2) (hsc : X.env.scope = defScope (top 78)) (G__law_draw : Dfn X "_law_draw" 2 p__law_draw) (G__law_made : Dfn X "_law_made" 1 p__law_made) : ∀ ds t Φ, p__law_number ds t Φ → WB X (defBody (top 78)) (ds.map some ++ List.replicate (4 - ds.length) none) t (fun _ t' => Φ .non t') Φ := by
  rintro _ t Φ ⟨ns, rfl, ht, h⟩
  refine wb_cons (ws_set B 1 rfl (.inl rfl) (we_draw B G__law_draw (wv_var B 0 rfl rfl (.inl rfl)) wv_int ((by decide)) ((by decide)) (by omega) (fun u0_1 u0_1a u0_1b => ?nx1s0) rfl))
  obtain ⟨v, hv, hv1, hv2⟩ := at_some tens (i := u0_1) (lo := 1) (hi := 1000000000) u0_1a u0_1b (by decide +kernel)
  refine wb_cons (ws_set B 2 rfl (.inl rfl) (we_draw B G__law_draw (wv_var B 0 rfl rfl (.inl rfl)) (wv_ixL (wv_lst (av_cons wv_int (av_cons wv_int (av_cons wv_int (av_cons wv_int (av_cons wv_int (av_cons wv_int (av_cons (wv_pow wv_int wv_int (cp109)) (av_cons (wv_pow wv_int wv_int (cp109)) av_nil)))))))) (len_le rfl)) (wv_var B 1 rfl rfl (.inl rfl)) (hv _ rfl)) (hv1) (hv2) (by omega) (fun u1_1 u1_1a u1_1b => ?nx1s1) rfl))
  refine wb_cons (ws_set B 3 rfl (.inl rfl) (we_ix ix_list rok_ixL ((wv_lst (av_cons wv_int (av_cons (wv_neg wv_int) av_nil)) (len_le rfl)) _ _ (we_draw B G__law_draw (wv_var B 0 rfl rfl (.inl rfl)) wv_int ((by decide)) ((by decide)) (by omega) (fun u2_1 u2_1a u2_1b => ⟨_, _, _, rfl, rfl, (at_ints [1, -1] rfl u2_1a u2_1b), ?nx1s2⟩) rfl))))
  have b2 := atC_le (cs := [1, -1]) (i := u2_1) (m := -1) (n := 1) u2_1a u2_1b (by decide)
  have b1 : u1_1.natAbs < 2 ^ 31 := by omega
  refine wb_one (ws_ret (we_call B G__law_made rfl (by decide) (wa_cons ((wv_mul (wv_var B 3 rfl rfl (.inl rfl)) (wv_var B 2 rfl rfl (.inl rfl)) (mw (sm (i := atC [1, -1] u2_1) (by omega)) (sm b1))) _ _ (wa_cons (we_ix ix_list rok_ixL (we_lst (wa_cons (wv_int _ _ (wa_cons (wv_int _ _ (wa_cons (wv_int _ _ (wa_cons (we_op op_add rok_I0 (wv_int _ _ (we_draw B G__law_draw (wv_var B 0 rfl rfl (.inl rfl)) wv_int ((by decide)) ((by decide)) (by omega) (fun u3_1 u3_1a u3_1b => ⟨_, _, rfl, rfl, (wa_cons (we_op op_add rok_I0 (wv_int _ _ (we_draw B G__law_draw (wv_var B 0 rfl rfl (.inl rfl)) wv_int ((by decide)) ((by decide)) (by omega) (fun u3_2 u3_2a u3_2b => ⟨_, _, rfl, rfl, (wa_nil ⟨len_le rfl, (we_draw B G__law_draw (wv_var B 0 rfl rfl (.inl rfl)) wv_int ((by decide)) ((by decide)) (by omega) (fun u3_3 u3_3a u3_3b => ⟨_, _, _, rfl, rfl, (at_ints [1, 1, 1, 1 + u3_1, 1 + u3_2] rfl u3_3a u3_3b), (wa_nil ⟨_, (⟨_, _, rfl, ?n1s3, ?n2s3, rfl⟩), ?ret1s3⟩)⟩) rfl)⟩)⟩) rfl))))⟩) rfl)))))))))))))))))
  all_goals
    have b3 := atC_le (cs := [1, 1, 1, 1 + u3_1, 1 + u3_2]) (i := u3_3) (m := 1) (n := 60) u3_3a u3_3b (by
      intro c hc
      simp only [List.mem_cons, List.not_mem_nil, or_false] at hc
      omega)
  case n1s3 => omega
  case n2s3 => exact Nat.lt_of_lt_of_le (show (atC [1, 1, 1, 1 + u3_1, 1 + u3_2] u3_3).natAbs < 2 ^ 31 by omega) (Nat.pow_le_pow_right (by decide) (by decide))
  case ret1s3 => exact h _ (divInt_sz (by omega) (sign_mul b2 b1) (by omega))
theorem way_at {i : Int} (h0 : 0 ≤ i) (h1 : i < 4) : atI [D.str "near", .str "down", .str "up", .str "nought"] i = some (.str (wayS i.toNat)) := by
  have : i = 0 ∨ i = 1 ∨ i = 2 ∨ i = 3 := by omega
  rcases this with rfl | rfl | rfl | rfl <;> rfl
theorem sc__law_ruler : FnScope ["_law_state", "_law_base", "_law_figures", "_law_low"] ["_law_state"] (defScope (top 82)) := ⟨rfl, rfl, rfl, by decide +kernel, rfl, by decide +kernel, by decide +kernel⟩
theorem b__law_ruler {X : Cx} (B : Bod X ["_law_state", "_law_base", "_law_figures", "_law_low"] (defScope (top 82)) 2) (hsc : X.env.scope = defScope (top 82)) (G__law_draw : Dfn X "_law_draw" 2 p__law_draw) : ∀ ds t Φ, p__law_ruler ds t Φ → WB X (defBody (top 82)) (ds.map some ++ List.replicate (4 - ds.length) none) t (fun _ t' => Φ .non t') Φ := by
  rintro _ t Φ ⟨ns, rfl, ht, h⟩
  refine wb_cons (ws_set B 1 rfl (.inl rfl) (we_ix ix_list rok_ixL ((wv_lst (av_cons wv_int (av_cons wv_int (av_cons wv_int (av_cons wv_int (av_cons wv_int (av_cons wv_int av_nil)))))) (len_le rfl)) _ _ (we_draw B G__law_draw (wv_var B 0 rfl rfl (.inl rfl)) wv_int ((by decide)) ((by decide)) (by omega) (fun u0_1 u0_1a u0_1b => ⟨_, _, _, rfl, rfl, (at_ints [2, 3, 10, 2, 5, 16] rfl u0_1a u0_1b), ?nx1s0⟩) rfl))))
  have b0 := atC_le (cs := [2, 3, 10, 2, 5, 16]) (i := u0_1) (m := 2) (n := 16) u0_1a u0_1b (by decide)
  refine wb_cons (ws_par B 2 3 rfl rfl (by decide) rfl rfl hsc rfl (we_op op_add rok_I0 (wv_int _ _ (we_draw B G__law_draw (wv_var B 0 rfl rfl (.inl rfl)) wv_int ((by decide)) ((by decide)) (by omega) (fun u1_1 u1_1a u1_1b => ⟨_, _, rfl, rfl, (we_op op_sub rok_I0 (we_draw B G__law_draw (wv_var B 0 rfl rfl (.inl rfl)) wv_int ((by decide)) ((by decide)) (by omega) (fun u1_2 u1_2a u1_2b => (wv_int _ _ ⟨_, _, rfl, rfl, ?nx1s1⟩)) rfl))⟩) rfl))))
  refine wb_one (ws_ret (we_tup (wa_cons ((wv_var B 1 rfl rfl (.inl rfl)) _ _ (wa_cons ((wv_var B 2 rfl rfl (.inl rfl)) _ _ (wa_cons ((wv_var B 3 rfl rfl (.inl rfl)) _ _ (wa_cons (we_ix ix_list rok_ixL ((wv_lst (av_cons wv_str (av_cons wv_str (av_cons wv_str (av_cons wv_str av_nil)))) (len_le rfl)) _ _ (we_draw B G__law_draw (wv_var B 0 rfl rfl (.inl rfl)) wv_int ((by decide)) ((by decide)) (by omega) (fun u2_1 u2_1a u2_1b => ⟨_, _, _, rfl, rfl, (way_at u2_1a u2_1b), (wa_nil ⟨len_le rfl, ?ret1s2⟩)⟩) rfl))))))))))))
  case ret1s2 => exact h ⟨atC [2, 3, 10, 2, 5, 16] u0_1, 1 + u1_1, u1_2 - 4, u2_1.toNat⟩ ⟨by show 2 ≤ atC _ _; omega, by show atC _ _ ≤ 16; omega, by show 1 ≤ 1 + u1_1; omega, by show 1 + u1_1 ≤ 3; omega, by show -4 ≤ u1_2 - 4; omega, by show u1_2 - 4 ≤ 1; omega, by show u2_1.toNat ≤ 3; omega⟩
end RS
/-! part RSGiven2 -/
namespace RS
open PySem L2 PySem.Spec PyProof.Rows
theorem most_bound {r : Ruler} (h : r.Ok) : 2 ≤ (pw r r.F).num ∧ (pw r r.F).num ≤ 4096 ∧ pw r r.F = (((pw r r.F).num : Int) : Rat) := by
  obtain ⟨n, hn⟩ : ∃ n : Nat, r.F = n := ⟨r.F.toNat, by have := h.f1; omega⟩
  have h1 := h.f1; have h2 := h.f2; have b1 := h.b1; have b2 := h.b2
  rw [hn, pw_nat]
  rw [Rat.num_intCast]
  have : n = 1 ∨ n = 2 ∨ n = 3 := by omega
  refine ⟨?_, ?_, rfl⟩
  · rcases this with rfl | rfl | rfl
    · rw [Int.pow_succ, Int.pow_zero]
      omega
    · have := Int.mul_le_mul b1 b1 (by omega) (by omega)
      rw [Int.pow_succ, Int.pow_one]
      omega
    · have e1 := Int.mul_le_mul b1 b1 (by omega) (by omega)
      have e2 := Int.mul_le_mul e1 b1 (by omega) (Int.mul_nonneg (by omega) (by omega))
      rw [Int.pow_succ, Int.pow_succ, Int.pow_one]
      omega
  · rcases this with rfl | rfl | rfl
    · rw [Int.pow_succ, Int.pow_zero]
      omega
    · have := Int.mul_le_mul b2 b2 (by omega) (by omega)
      rw [Int.pow_succ, Int.pow_one]
      omega
    · have e1 := Int.mul_le_mul b2 b2 (by omega) (by omega)
      have e2 := Int.mul_le_mul e1 b2 (by omega) (by omega)
      rw [Int.pow_succ, Int.pow_succ, Int.pow_one]
      omega
theorem abs_int (m : Int) : ((m : Rat)).abs = ((m.natAbs : Int) : Rat) := abs_natAbs m
theorem mark_is {r : Ruler} (h : r.Ok) {m e : Int} (hm : (m.natAbs : Int) < (pw r r.F).num) (he : r.L ≤ e) (he2 : e ≤ r.L + 4) : MarkB r ((m : Rat) * pw r e) 32 := by
  obtain ⟨q1, q2, q3⟩ := most_bound h
  have hlt : (m : Rat).abs < pw r r.F := by
    rw [abs_int, q3]
    exact Rat.intCast_lt_intCast.mpr hm
  refine ⟨⟨m, e, he, rfl, hlt⟩, ?_⟩
  have hp := pw_pos h e
  rw [abs_mul_pos hp]
  have h1 : pw r e ≤ twp 20 := by
    have l2 := h.l2
    have a := pw_mono h (show e ≤ ((5 : Nat) : Int) by omega)
    have b := pw_two h 5
    grind
  have h2 : (m : Rat).abs ≤ twp 12 := by
    rw [abs_int]
    unfold twp
    refine Rat.intCast_le_intCast.mpr ?_
    have : (2 : Int) ^ 12 = 4096 := by decide
    omega
  have e32 : twp 32 = twp 12 * twp 20 := two_add 12 20
  rw [e32]
  exact mul_mono2 (by rw [abs_int]; exact Rat.intCast_nonneg.mpr (by omega)) h2 (Rat.le_of_lt hp) h1
theorem sc__law_mark : FnScope ["_law_state", "_law_ruler_here", "_law_most", "_law_size", "_law_step"] ["_law_state", "_law_ruler_here"] (defScope (top 83)) := ⟨rfl, rfl, rfl, by decide +kernel, rfl, by decide +kernel, by decide +kernel⟩
theorem b__law_mark {X : Cx} (B : Bod X ["_law_state", "_law_ruler_here", "_law_most", "_law_size", "_law_step"] (defScope (top 83)) 2) (hsc : X.env.scope = defScope (top 83)) (G__law_power : Dfn X "_law_power" 1 p__law_power) (G__law_times : Dfn X "_law_times" 2 p__law_times) (G__law_draw : Dfn X "_law_draw" 2 p__law_draw) : ∀ ds t Φ, p__law_mark ds t Φ → WB X (defBody (top 83)) (ds.map some ++ List.replicate (5 - ds.length) none) t (fun _ t' => Φ .non t') Φ := by
  rintro _ t Φ ⟨ns, r, rfl, hr, ht, h⟩
  obtain ⟨q1, q2, q3⟩ := most_bound hr
  have f1 := hr.f1; have f2 := hr.f2; have l1 := hr.l1; have l2 := hr.l2
  refine wb_cons (ws_set B 2 rfl (.inl rfl) ((wv_ixT (wv_call B G__law_power (av_cons (wv_ixT (wv_var B 1 rfl rfl (.inl rfl)) wv_int rfl) (av_cons (wv_ixT (wv_var B 1 rfl rfl (.inl rfl)) wv_int rfl) av_nil)) (⟨r, r.F, rfl, hr, by omega, rfl⟩) rfl) wv_int rfl) _ _ ?nx1s0))
  generalize hq : (pw r r.F).num = most at *
  refine wb_cons (ws_set B 3 rfl (.inl rfl) (we_ix ix_list rok_ixL (we_lst (wa_cons (wv_int _ _ (wa_cons (wv_int _ _ (wa_cons ((wv_sub (wv_var B 2 rfl rfl (.inl rfl)) wv_int) _ _ (wa_cons (we_draw B G__law_draw (wv_var B 0 rfl rfl (.inl rfl)) (wv_var B 2 rfl rfl (.inl rfl)) ((by omega)) ((by omega)) (by omega) (fun u1_1 u1_1a u1_1b => (wa_cons (we_draw B G__law_draw (wv_var B 0 rfl rfl (.inl rfl)) (wv_var B 2 rfl rfl (.inl rfl)) ((by omega)) ((by omega)) (by omega) (fun u1_2 u1_2a u1_2b => (wa_cons (we_draw B G__law_draw (wv_var B 0 rfl rfl (.inl rfl)) (wv_var B 2 rfl rfl (.inl rfl)) ((by omega)) ((by omega)) (by omega) (fun u1_3 u1_3a u1_3b => (wa_nil ⟨len_le rfl, (we_draw B G__law_draw (wv_var B 0 rfl rfl (.inl rfl)) wv_int ((by decide)) ((by decide)) (by omega) (fun u1_4 u1_4a u1_4b => ⟨_, _, _, rfl, rfl, (at_ints [0, 1, most - 1, u1_1, u1_2, u1_3] rfl u1_4a u1_4b), ?nx1s1⟩) rfl)⟩)) rfl))) rfl))) rfl)))))))))))
  have b1 := atC_le (cs := [0, 1, most - 1, u1_1, u1_2, u1_3]) (i := u1_4) (m := 0) (n := most - 1) u1_4a u1_4b (by
    intro c hc
    simp only [List.mem_cons, List.not_mem_nil, or_false] at hc
    omega)
  generalize atC [0, 1, most - 1, u1_1, u1_2, u1_3] u1_4 = size at *
  refine wb_cons (ws_set B 4 rfl (.inl rfl) (we_call B G__law_power rfl (by decide) (wa_cons ((wv_ixT (wv_var B 1 rfl rfl (.inl rfl)) wv_int rfl) _ _ (wa_cons (we_op op_add rok_I0 ((wv_ixT (wv_var B 1 rfl rfl (.inl rfl)) wv_int rfl) _ _ (we_draw B G__law_draw (wv_var B 0 rfl rfl (.inl rfl)) wv_int ((by decide)) ((by decide)) (by omega) (fun u2_1 u2_1a u2_1b => ⟨_, _, rfl, rfl, (wa_nil ⟨_, (⟨r, r.L + u2_1, rfl, hr, by omega, rfl⟩), ?nx1s2⟩)⟩) rfl))))))))
  refine wb_one (ws_ret (we_call B G__law_times rfl (by decide) (wa_cons (we_tup (wa_cons (we_op op_mulW rok_I (we_ix ix_list rok_ixL ((wv_lst (av_cons wv_int (av_cons (wv_neg wv_int) av_nil)) (len_le rfl)) _ _ (we_draw B G__law_draw (wv_var B 0 rfl rfl (.inl rfl)) wv_int ((by decide)) ((by decide)) (by omega) (fun u3_1 u3_1a u3_1b => ⟨_, _, _, rfl, rfl, (at_ints [1, -1] rfl u3_1a u3_1b), ((wv_var B 3 rfl rfl (.inl rfl)) _ _ ⟨_, _, rfl, rfl, (mw (sm (i := atC [1, -1] u3_1) (by have := atC_le (cs := [1, -1]) (i := u3_1) (m := -1) (n := 1) u3_1a u3_1b (by decide); omega)) (sm (i := size) (by omega))), (wa_cons (wv_int _ _ (wa_nil ⟨len_le rfl, (wa_cons ((wv_var B 4 rfl rfl (.inl rfl)) _ _ (wa_nil ⟨_, (⟨((atC [1, -1] u3_1 * size : Int) : Rat), pw r (r.L + u2_1), rfl, ?n1s3, big_pw hr (by omega), rfl⟩), ?ret1s3⟩)))⟩)))⟩)⟩) rfl)))))))))
  all_goals
    have b3 := atC_le (cs := [1, -1]) (i := u3_1) (m := -1) (n := 1) u3_1a u3_1b (by decide)
    generalize atC [1, -1] u3_1 = sg at *
    have hsz : (sg * size).natAbs ≤ size.natAbs := by
      have : sg = -1 ∨ sg = 0 ∨ sg = 1 := by omega
      rcases this with rfl | rfl | rfl
      · rw [Int.neg_one_mul, Int.natAbs_neg]; omega
      · rw [Int.zero_mul]; omega
      · rw [Int.one_mul]; omega
  case n1s3 => exact (Sz.int (n := 31) (Nat.lt_of_le_of_lt hsz (by omega)) (by decide)).le (by decide)
  case ret1s3 => exact h _ (mark_is hr (by omega) (by omega) (by omega))
theorem sc__law_marks : FnScope ["_law_state", "_law_ruler_here", "_law_one", "_law_other"] ["_law_state", "_law_ruler_here"] (defScope (top 84)) := ⟨rfl, rfl, rfl, by decide +kernel, rfl, by decide +kernel, by decide +kernel⟩
theorem b__law_marks {X : Cx} (B : Bod X ["_law_state", "_law_ruler_here", "_law_one", "_law_other"] (defScope (top 84)) 3) (hsc : X.env.scope = defScope (top 84)) (G__law_mark : Dfn X "_law_mark" 3 p__law_mark) (G__law_draw : Dfn X "_law_draw" 2 p__law_draw) (G__law_below : Dfn X "_law_below" 1 p__law_below) : ∀ ds t Φ, p__law_marks ds t Φ → WB X (defBody (top 84)) (ds.map some ++ List.replicate (4 - ds.length) none) t (fun _ t' => Φ .non t') Φ := by
  rintro _ t Φ ⟨ns, r, rfl, hr, ht, h⟩
  refine wb_cons (ws_par B 2 3 rfl rfl (by decide) rfl rfl hsc rfl (we_call B G__law_mark rfl (by decide) (wa_cons ((wv_var B 0 rfl rfl (.inl rfl)) _ _ (wa_cons ((wv_var B 1 rfl rfl (.inl rfl)) _ _ (wa_nil ⟨_, _, rfl, hr, by omega, fun xu0_1 hu0_1 => (we_call B G__law_mark rfl (by decide) (wa_cons ((wv_var B 0 rfl rfl (.inl rfl)) _ _ (wa_cons ((wv_var B 1 rfl rfl (.inl rfl)) _ _ (wa_nil ⟨_, _, rfl, hr, by omega, fun xu0_2 hu0_2 => ?nx1s0⟩))))))⟩)))))))
  have s1 := hu0_1.sz hr
  have s2 := hu0_2.sz hr
  refine wb_cons (ws_if (wt_cmp op_eq rok_eq (nomark _) (we_draw B G__law_draw (wv_var B 0 rfl rfl (.inl rfl)) wv_int ((by decide)) ((by decide)) (by omega) (fun u1_1 u1_1a u1_1b => (wv_int _ _ ⟨_, rfl, _, rfl, ⟨fun k1 => (wb_one (ws_set B 3 rfl (.inl rfl) ((wv_var B 2 rfl rfl (.inl rfl)) _ _ ?nx1s1))), fun k1 => (wb_nil ?nx2s1)⟩⟩)) rfl)))
  · refine wb_one (ws_ret ((wv_if (tv_val (wv_call B G__law_below (av_cons (wv_var B 3 rfl rfl (.inl rfl)) (av_cons (wv_var B 2 rfl rfl (.inl rfl)) av_nil)) (⟨_, _, rfl, s1.b, s1.b, rfl⟩) rfl)) (fun k1 => wv_is (wv_tup (av_cons (wv_var B 3 rfl rfl (.inl rfl)) (av_cons (wv_var B 2 rfl rfl (.inl rfl)) av_nil)) (len_le rfl)) ((show D.tup [fr xu0_1, fr xu0_1] = sp xu0_1 xu0_1 from rfl))) (fun k1 => wv_is (wv_tup (av_cons (wv_var B 2 rfl rfl (.inl rfl)) (av_cons (wv_var B 3 rfl rfl (.inl rfl)) av_nil)) (len_le rfl)) (rfl))) _ _ ?ret1s2))
    case ret1s2 => exact h _ _ hu0_1 hu0_1 (by grind)
  · refine wb_one (ws_ret ((wv_if (tv_val (wv_call B G__law_below (av_cons (wv_var B 3 rfl rfl (.inl rfl)) (av_cons (wv_var B 2 rfl rfl (.inl rfl)) av_nil)) (⟨_, _, rfl, s2.b, s1.b, rfl⟩) rfl)) (fun k1 => wv_is (wv_tup (av_cons (wv_var B 3 rfl rfl (.inl rfl)) (av_cons (wv_var B 2 rfl rfl (.inl rfl)) av_nil)) (len_le rfl)) ((?z1s2 : D.tup [fr xu0_2, fr xu0_1] = if xu0_2 < xu0_1 then sp xu0_2 xu0_1 else sp xu0_1 xu0_2))) (fun k1 => wv_is (wv_tup (av_cons (wv_var B 2 rfl rfl (.inl rfl)) (av_cons (wv_var B 3 rfl rfl (.inl rfl)) av_nil)) (len_le rfl)) (?z2s2))) _ _ ?ret1s2))
    case z1s2 =>
      rw [if_pos (of_decide_eq_true k1)]
      rfl
    case z2s2 =>
      rw [if_neg (of_decide_eq_false k1)]
      rfl
    case ret1s2 =>
      by_cases hlt : xu0_2 < xu0_1
      · rw [if_pos hlt]
        exact h _ _ hu0_2 hu0_1 (by grind)
      · rw [if_neg hlt]
        exact h _ _ hu0_1 hu0_2 (by grind)
end RS
/-! part RSGiven3 -/
namespace RS
open PySem L2 PySem.Spec PyProof.Rows
def wordL : List Str := ["q", "zz", "abc", "m", "kxkxkx", "b", "yy", "c", "dova", "aaaaaa", "x", "hub"]
def p__law_names : Pr := fun ds t Φ => ∃ ns : List Int, ds = [.stt ns, .int 4] ∧ t < 900000 ∧ ∀ l : List Str, l.length = 4 → l.Nodup → (∀ x ∈ l, x ∈ wordL) → Φ (.lst (l.map D.str)) (t + 2)
def wordAt (i : Int) : Str := (wordL[i.toNat]?).getD Str.empty
def namesOf (s p : Int) (n : Nat) : List Str := (List.range n).map fun (k : Nat) => wordAt ((s + p * (k : Int)) % 12)
theorem word_at {i : Int} : atI (wordL.map D.str) (i % 12) = some (.str (wordAt (i % 12))) := by
  have h1 := Int.emod_nonneg i (show (12 : Int) ≠ 0 by decide)
  have h2 := Int.emod_lt_of_pos i (show (0 : Int) < 12 by decide)
  generalize i % 12 = j at *
  rw [atI_nat h1 (by show j < 12; exact h2), List.getElem?_map]
  unfold wordAt
  have h3 : j.toNat < wordL.length := by show j.toNat < 12; omega
  rw [List.getElem?_eq_getElem h3]
  rfl
theorem names_nodup {s i : Int} (h0 : 0 ≤ s) (h1 : s < 12) (i0 : 0 ≤ i) (i1 : i < 4) : (namesOf s (atC [1, 5, 7, 11] i) 4).Nodup := by
  have key : ∀ a : Fin 12, ∀ b : Fin 4, (namesOf (a.val : Int) (atC [1, 5, 7, 11] (b.val : Int)) 4).Nodup := by decide +kernel
  obtain ⟨m, rfl⟩ : ∃ m : Nat, s = m := ⟨s.toNat, by omega⟩
  obtain ⟨n, rfl⟩ : ∃ n : Nat, i = n := ⟨i.toNat, by omega⟩
  exact key ⟨m, by omega⟩ ⟨n, by omega⟩
theorem names_in {s p : Int} {n : Nat} : ∀ x ∈ namesOf s p n, x ∈ wordL := by
  intro x hx
  obtain ⟨k, _, rfl⟩ := List.mem_map.mp hx
  have h1 := Int.emod_nonneg (s + p * (k : Int)) (show (12 : Int) ≠ 0 by decide)
  have h2 := Int.emod_lt_of_pos (s + p * (k : Int)) (show (0 : Int) < 12 by decide)
  unfold wordAt
  have h3 : ((s + p * (k : Int)) % 12).toNat < wordL.length := by show _ < 12; omega
  rw [List.getElem?_eq_getElem h3]
  exact List.getElem_mem h3
theorem names_succ (s p : Int) (n : Nat) : namesOf s p (n + 1) = namesOf s p n ++ [wordAt ((s + p * (n : Int)) % 12)] := by
  unfold namesOf
  rw [List.range_succ, List.map_append]
  rfl
theorem sc__law_names : FnScope ["_law_state", "_law_many", "_law_words", "_law_start", "_law_step", "_law_k"] ["_law_state", "_law_many"] (defScope (top 87)) := ⟨rfl, rfl, rfl, by decide +kernel, rfl, by decide +kernel, by decide +kernel⟩
theorem b__law_names {X : Cx} (B : Bod X ["_law_state", "_law_many", "_law_words", "_law_start", "_law_step", "_law_k"] (defScope (top 87)) 2) (hsc : X.env.scope = defScope (top 87)) (G__law_draw : Dfn X "_law_draw" 2 p__law_draw) (m_range : X.mg "range" = none) : ∀ ds t Φ, p__law_names ds t Φ → WB X (defBody (top 87)) (ds.map some ++ List.replicate (6 - ds.length) none) t (fun _ t' => Φ .non t') Φ := by
  rintro _ t Φ ⟨ns, rfl, ht, h⟩
  refine wb_cons (ws_set B 2 rfl (.inr rfl) ((wv_lst (av_cons wv_str (av_cons wv_str (av_cons wv_str (av_cons wv_str (av_cons wv_str (av_cons wv_str (av_cons wv_str (av_cons wv_str (av_cons wv_str (av_cons wv_str (av_cons wv_str (av_cons wv_str av_nil)))))))))))) (len_le rfl)) _ _ ?nx1s0))
  refine wb_cons (ws_tup B (is := [3, 4]) (.cons rfl (.inr rfl) (.cons rfl (.inr rfl) .nil)) hsc rfl (we_tup (wa_cons (we_draw B G__law_draw (wv_var B 0 rfl rfl (.inl rfl)) wv_int ((by decide)) ((by decide)) (by omega) (fun u1_1 u1_1a u1_1b => (wa_cons (we_ix ix_list rok_ixL ((wv_lst (av_cons wv_int (av_cons wv_int (av_cons wv_int (av_cons wv_int av_nil)))) (len_le rfl)) _ _ (we_draw B G__law_draw (wv_var B 0 rfl rfl (.inl rfl)) wv_int ((by decide)) ((by decide)) (by omega) (fun u1_2 u1_2a u1_2b => ⟨_, _, _, rfl, rfl, (at_ints [1, 5, 7, 11] rfl u1_2a u1_2b), (wa_nil ⟨len_le rfl, ⟨_, rfl, rfl, ?nx1s1⟩⟩)⟩) rfl))))) rfl))))
  have hnd := names_nodup u1_1a u1_1b u1_2a u1_2b
  have hb := atC_le (cs := [1, 5, 7, 11]) (i := u1_2) (m := 1) (n := 11) u1_2a u1_2b (by decide)
  generalize atC [1, 5, 7, 11] u1_2 = p at *
  refine wb_one (ws_ret (we_lc (i := 5) B (pi_range1 (gl_of B rfl) m_range (pa_cons semE pa_nil rfl) rfl) (by rw [hsc]; exact ⟨rfl, by decide +kernel, by decide +kernel, by decide +kernel, by decide +kernel⟩) rfl rfl (fun σ H er hb' Q hq => lcR_run (Φ := Φ) (fun j acc t' => t' = t + 2 ∧ acc = (namesOf u1_1 p j).map D.str) ?lc er hb' hq)))
  case lc =>
    refine (wv_var B 1 rfl rfl (.inl rfl)) _ _ ⟨4, rfl, by decide, ⟨rfl, rfl⟩, ?_, ?_⟩
    · rintro j acc t' hj ⟨rfl, rfl⟩
      intro X' b
      refine ⟨fun _ X2 b2 => ?_, fun e => nomatch e⟩
      have ej : ((j : Int)).natAbs = j := by omega
      refine (wv_ixL (d := .str (wordAt ((u1_1 + p * (j : Int)) % 12))) (l := wordL.map D.str) (wv_var (b2.bod B) 2 rfl rfl (.inr (.inr rfl))) (wv_mod (wv_add (wv_var (b2.bod B) 3 rfl rfl (.inr (.inr rfl))) (wv_mul (wv_var (b2.bod B) 4 rfl rfl (.inr (.inr rfl))) (wv_var (b2.bod B) 5 rfl rfl (.inl rfl)) (mw (sm (by omega)) (sm (i := (j : Int)) (by omega))))) wv_int (by decide)) word_at) _ _ ⟨rfl, rfl, ?_⟩
      rw [names_succ, List.map_append]
      rfl
    · rintro acc t' _ ⟨rfl, rfl⟩
      exact h _ rfl hnd names_in
end RS
/-! part RSGivenM -/
namespace RS
section
variable {r : Ruler}
theorem place_16 (h : r.Ok) {x : Rat} {n : Nat} (hx : x.abs < twp n) (hn : 12 ≤ n) : pw r (placeOf r x + r.F) ≤ twp (n + 4) := by
  obtain ⟨h1, h2, h3⟩ := placeOf_is h x
  have f1 := h.f1; have f2 := h.f2; have l1 := h.l1; have l2 := h.l2
  rcases h3 with h3 | h3
  · rw [h3]
    have a := pw_mono h (show r.L + r.F ≤ ((4 : Nat) : Int) by omega)
    have b := pw_two h 4
    have c := two_le (show 4 * 4 ≤ n + 4 by omega)
    grind
  · have e : placeOf r x + r.F = (placeOf r x - 1 + r.F) + 1 := by omega
    rw [e, pw_succ h, two_add]
    have hp := pw_pos h (placeOf r x - 1 + r.F)
    have hb : (r.B : Rat) ≤ twp 4 := by
      refine Rat.intCast_le_intCast.mpr ?_
      have := h.b2
      have e : (2 : Int) ^ 4 = 16 := by decide
      omega
    exact mul_mono2 (Rat.le_of_lt hp) (by grind) (Rat.le_of_lt (base_pos h)) hb
theorem two_lt {m n : Nat} (h : m < n) : twp m < twp n := by
  have h1 := two_le (show m + 1 ≤ n by omega)
  have h2 : twp (m + 1) = twp m * twp 1 := two_add m 1
  have h3 : twp 1 = 2 := rfl
  have h4 := two_pos m
  rw [h2, h3] at h1
  grind
theorem abs_sum {a b c d : Rat} (ha : a.abs ≤ c) (hb : 0 ≤ b) (hb2 : b ≤ d) : (a - b).abs ≤ c + d ∧ (a + b).abs ≤ c + d := by
  rw [abs_eq] at ha
  rw [abs_eq, abs_eq]
  grind
theorem step_bound (h : r.Ok) {x : Rat} {n : Nat} (hx : x.abs ≤ twp n) (hn : 12 ≤ n) : 0 ≤ step r x ∧ step r x ≤ twp (n + 5) := by
  have a := place_16 h (x := x) (n := n + 1) (by have := two_lt (show n < n + 1 by omega); grind) (by omega)
  have b := pw_mono h (show placeOf r x ≤ placeOf r x + r.F by have := h.f1; omega)
  have c : step r x = pw r (placeOf r x) := rfl
  have d := step_pos h x
  exact ⟨Rat.le_of_lt d, by rw [c]; grind⟩
theorem rnd_bound (h : r.Ok) {y : Rat} {n : Nat} (hy : y.abs ≤ twp n + twp (n + 5)) (hn : 12 ≤ n) : (rnd r y).abs ≤ twp (n + 10) := by
  have a1 := two_le (show n ≤ n + 5 by omega)
  have e1 : twp (n + 6) = twp (n + 5) * twp 1 := two_add (n + 5) 1
  have e2 : twp 1 = 2 := rfl
  have a2 : y.abs ≤ twp (n + 6) := by rw [e1, e2]; grind
  have a3 := rnd_abs h y
  have a4 := place_16 h (x := y) (n := n + 6) ?_ (by omega)
  · grind
  · -- strict
    have b1 := two_lt (show n < n + 5 by omega)
    rw [e1, e2]
    grind
theorem mark_down (h : r.Ok) {x l : Rat} {n : Nat} (m : MarkB r x n) (hn : 12 ≤ n) (hl : x ≤ l) : MarkB r (rnd r (x - step r x)) (n + 10) ∧ rnd r (x - step r x) ≤ l := by
  obtain ⟨s1, s2⟩ := step_bound h m.2 hn
  refine ⟨⟨rnd_mark h _, rnd_bound h (abs_sum m.2 s1 s2).1 hn⟩, ?_⟩
  have a := rnd_mono h (x := x - step r x) (y := x) (by grind)
  rw [m.1.rnd h] at a
  grind
theorem mark_up (h : r.Ok) {x l : Rat} {n : Nat} (m : MarkB r x n) (hn : 12 ≤ n) (hl : l ≤ x) : MarkB r (rnd r (x + step r x)) (n + 10) ∧ l ≤ rnd r (x + step r x) := by
  obtain ⟨s1, s2⟩ := step_bound h m.2 hn
  refine ⟨⟨rnd_mark h _, rnd_bound h (abs_sum m.2 s1 s2).2 hn⟩, ?_⟩
  have a := rnd_mono h (x := x) (y := x + step r x) (by grind)
  rw [m.1.rnd h] at a
  grind
theorem MarkB.mono {x : Rat} {m n : Nat} (h : MarkB r x m) (hn : m ≤ n) : MarkB r x n := ⟨h.1, by have := two_le hn; have := h.2; grind⟩
theorem MarkB.lt {x : Rat} {n : Nat} (h : MarkB r x n) : x.abs < twp (n + 1) := by
  have := two_lt (show n < n + 1 by omega)
  have := h.2
  grind
theorem grainSpan_le (h : r.Ok) {a b : Rat} {n : Nat} (ha : a.abs < twp n) (hb : b.abs < twp n) {g : Int} (hg : grainSpan r a b = some g) : r.L ≤ g ∧ g ≤ (n : Int) + 16 := by
  have l1 := h.l1; have l2 := h.l2
  unfold grainSpan at hg
  split at hg
  · split at hg
    · cases hg
    · rename_i h1
      cases hg
      have := grainUp_le h h1 ha
      have h2 := grainUp_is h h1
      have h3 := placeOf_low h a
      have h4 := h2.1
      omega
  · split at hg
    · cases hg
      omega
    · rename_i h1 h2
      cases hg
      have e : smallSize a b = min a.abs b.abs := by
        unfold smallSize
        rw [if_neg h2]
      rw [e]
      have h5 := placeOf_low h (min a.abs b.abs)
      have h6 : (min a.abs b.abs).abs < twp n := by
        rw [abs_eq]
        have n1 : 0 ≤ a.abs := Rat.abs_nonneg
        have n2 : 0 ≤ b.abs := Rat.abs_nonneg
        grind
      have := placeOf_le h h6
      omega
theorem grainSpan_mul (h : r.Ok) {a : Rat} (m : IsMark r a) {g : Int} (hg : grainSpan r a a = some g) : Mul r a g := by
  unfold grainSpan at hg
  rw [if_pos rfl] at hg
  split at hg
  · cases hg
  · rename_i h1
    cases hg
    obtain ⟨g1, g2, g3⟩ := grainUp_is h h1
    by_cases hlt : placeOf r a < grainUp r a
    · exact g3 _ hlt (Int.le_refl _)
    · have e : grainUp r a = placeOf r a := by omega
      rw [e]
      exact m.mul h
/-- a drawn entry -/
structure Narrow (r : Ruler) (e : Ent) : Prop where
  lo : MarkB r e.lo 32
  hi : MarkB r e.hi 32
  ord : e.lo ≤ e.hi
  tlo : Sz 100 e.tlo
  thi : Sz 100 e.thi
  tord : e.tlo ≤ e.thi
  err : Sz 40 e.err
  epos : 0 ≤ e.err
  g : ∀ a, e.g = some a → r.L ≤ a ∧ a ≤ 100
  nz : e.g = none → e.lo = 0 ∧ e.hi = 0
  gm : ∀ b, e.g = some b → e.lo = e.hi → Mul r e.lo b
/-- one made wider -/
structure WideOf (r : Ruler) (w e : Ent) : Prop where
  lo : MarkB r w.lo 62
  hi : MarkB r w.hi 62
  tlo : Sz 110 w.tlo
  thi : Sz 110 w.thi
  err : Sz 60 w.err
  g : ∀ a, w.g = some a → r.L ≤ a ∧ a ≤ 100
  pair : Pair r w e
theorem narrow_some (h : r.Ok) {a b c d x : Rat} {g k : Int} (ha : MarkB r a 32) (hb : MarkB r b 32) (hab : a ≤ b) (hc : Sz 100 c) (hd : Sz 100 d) (hcd : c ≤ d) (hx : Sz 31 x) (hg : grainSpan r a b = some g) (hk : 0 ≤ k) : Narrow r ⟨a, b, c, d, x.abs, some (max r.L (g - k))⟩ := by
  have l2 := h.l2
  have hgl := grainSpan_le h ha.lt hb.lt hg
  refine ⟨ha, hb, hab, hc, hd, hcd, hx.abs.le (by decide), Rat.abs_nonneg, fun q hq => ?_, fun z => (nomatch z), fun q hq he => ?_⟩
  · have : max r.L (g - k) = q := Option.some.inj hq
    omega
  · have hq : max r.L (g - k) = q := Option.some.inj hq
    have he : a = b := he
    subst he
    exact (grainSpan_mul h ha.1 hg).down h (by omega)
theorem narrow_none (h : r.Ok) {a b c d x : Rat} (ha : MarkB r a 32) (hb : MarkB r b 32) (hab : a ≤ b) (hc : Sz 100 c) (hd : Sz 100 d) (hcd : c ≤ d) (hx : Sz 31 x) (hg : grainSpan r a b = none) : Narrow r ⟨a, b, c, d, x.abs, none⟩ :=
  ⟨ha, hb, hab, hc, hd, hcd, hx.abs.le (by decide), Rat.abs_nonneg, fun q hq => (nomatch hq), fun _ => grainSpan_none hg, fun q hq => (nomatch hq)⟩
theorem wide_mk (h : r.Ok) {e : Ent} (hN : Narrow r e) {x y tl th er : Rat} {g : Option Int} (hx : MarkB r x 62) (hxl : x ≤ e.lo) (hy : MarkB r y 62) (hyl : e.hi ≤ y) (htl : Sz 110 tl) (htl2 : tl ≤ e.tlo) (hth : Sz 110 th) (hth2 : e.thi ≤ th) (her : Sz 60 er) (her2 : e.err ≤ er)
    (hg : ∀ a, g = some a → r.L ≤ a ∧ a ≤ 100) (hg2 : ∀ b, e.g = some b → ∃ a, g = some a ∧ a ≤ b) (hg3 : g = none → grainSpan r x y = none) : WideOf r ⟨x, y, tl, th, er, g⟩ e :=
  ⟨hx, hy, htl, hth, her, hg, { lo := hxl, hi := hyl, tlo := htl2, thi := hth2, err := her2, g := hg2, ord := hN.ord, tord := hN.tord, epos := hN.epos, nz := hN.nz, wz := fun z => grainSpan_none (hg3 z), gm := hN.gm }⟩
end
end RS
/-! part RSGiven4 -/
namespace RS
open PySem L2 PySem.Spec PyProof.Rows
def p__law_entry : Pr := fun ds t Φ => ∃ (ns : List Int) (r : Ruler), ds = [.stt ns, rul r] ∧ r.Ok ∧ t < 800000 ∧ ∀ e t', Narrow r e → t ≤ t' → t' ≤ t + 40 → Φ (en e) t'
theorem sc__law_entry : FnScope ["_law_state", "_law_ruler_here", "_law_trues", "_law_own", "_law_grain", "_law_low", "_law_high"] ["_law_state", "_law_ruler_here"] (defScope (top 88)) := ⟨rfl, rfl, rfl, by decide +kernel, rfl, by decide +kernel, by decide +kernel⟩
theorem b__law_entry {X : Cx} (B : Bod X ["_law_state", "_law_ruler_here", "_law_trues", "_law_own", "_law_grain", "_law_low", "_law_high"] (defScope (top 88)) 4) (hsc : X.env.scope = defScope (top 88)) (G__law_marks : Dfn X "_law_marks" 4 p__law_marks) (G__law_ends : Dfn X "_law_ends" 2 p__law_ends) (G__law_own_grain : Dfn X "_law_own_grain" 3 p__law_own_grain) (G__law_draw : Dfn X "_law_draw" 2 p__law_draw) (G__law_plus : Dfn X "_law_plus" 2 p__law_plus) (G__law_size_of : Dfn X "_law_size_of" 1 p__law_size_of) (G__law_number : Dfn X "_law_number" 3 p__law_number) (m_max : X.mg "max" = none) : ∀ ds t Φ, p__law_entry ds t Φ → WB X (defBody (top 88)) (ds.map some ++ List.replicate (7 - ds.length) none) t (fun _ t' => Φ .non t') Φ := by
  rintro _ t Φ ⟨ns, r, rfl, hr, ht, h⟩
  have ht9 : t < 899000 := by omega
  refine wb_cons (ws_tup B (is := [5, 6]) (.cons rfl (.inl rfl) (.cons rfl (.inl rfl) .nil)) hsc rfl (we_call B G__law_marks rfl (by decide) (wa_cons ((wv_var B 0 rfl rfl (.inl rfl)) _ _ (wa_cons ((wv_var B 1 rfl rfl (.inl rfl)) _ _ (wa_nil ⟨_, _, rfl, hr, by omega, fun au0_1 bu0_1 hau0_1 hbu0_1 habu0_1 => ⟨_, rfl, rfl, ?nx1s0⟩⟩)))))))
  have sa := hau0_1.sz hr
  have sb := hbu0_1.sz hr
  refine wb_cons (ws_set B 2 rfl (.inl rfl) (we_call B G__law_ends rfl (by decide) (wa_cons (we_lst (wa_cons (we_call B G__law_plus rfl (by decide) (wa_cons ((wv_var B 5 rfl rfl (.inl rfl)) _ _ (wa_cons (we_call B G__law_number rfl (by decide) (wa_cons ((wv_var B 0 rfl rfl (.inl rfl)) _ _ (wa_nil ⟨_, rfl, by omega, fun xu1_1 hu1_1 => (wa_nil ⟨_, (⟨au0_1, xu1_1, rfl, sa.b, hu1_1.b, rfl⟩), (wa_cons (we_call B G__law_plus rfl (by decide) (wa_cons ((wv_var B 6 rfl rfl (.inl rfl)) _ _ (wa_cons (we_call B G__law_number rfl (by decide) (wa_cons ((wv_var B 0 rfl rfl (.inl rfl)) _ _ (wa_nil ⟨_, rfl, by omega, fun xu1_2 hu1_2 => (wa_nil ⟨_, (⟨bu0_1, xu1_2, rfl, sb.b, hu1_2.b, rfl⟩), (wa_nil ⟨len_le rfl, (wa_nil ⟨_, (⟨_, _, rfl, (sa.add hu1_1).b, (sb.add hu1_2).b, rfl⟩), ?nx1s1⟩)⟩)⟩)⟩)))))))))⟩)⟩)))))))))))))
  have z1 : Sz 82 (au0_1 + xu1_1) := (sa.add hu1_1).le (by decide)
  have z2 : Sz 82 (bu0_1 + xu1_2) := (sb.add hu1_2).le (by decide)
  refine wb_cons (ws_mono (Nx := fun ρ1 t1 => t1 = t + 26 ∧ ∃ c d : Rat, Sz 100 c ∧ Sz 100 d ∧ c ≤ d ∧ ρ1 = [some (.stt ns), some (rul r), some (sp c d), none, none, some (fr au0_1), some (fr bu0_1)]) ?s2 ?m2)
  case s2 =>
    refine (ws_if (wt_cmp op_eq rok_eq (nomark _) (we_draw B G__law_draw (wv_var B 0 rfl rfl (.inl rfl)) wv_int ((by decide)) ((by decide)) (by omega) (fun u2_1 u2_1a u2_1b => (wv_int _ _ ⟨_, rfl, _, rfl, ⟨fun k1 => (wb_one (ws_set B 2 rfl (.inl rfl) ((wv_tup (av_cons (wv_var B 5 rfl rfl (.inl rfl)) (av_cons (wv_var B 6 rfl rfl (.inl rfl)) av_nil)) (len_le rfl)) _ _ ?nx1s2))), fun k1 => (wb_nil ?nx2s2)⟩⟩)) rfl)))
    case nx1s2 => exact ⟨rfl, au0_1, bu0_1, sa.le (by decide), sb.le (by decide), habu0_1, rfl⟩
    case nx2s2 => exact ⟨rfl, _, _, (z1.min z2).le (by decide), (z1.max z2).le (by decide), by grind, rfl⟩
  case m2 =>
    rintro ρ' t' ⟨rfl, c, d, hc, hd, hcd, rfl⟩
    refine wb_cons (ws_set B 3 rfl (.inl rfl) ((wv_call B G__law_own_grain (av_cons (wv_var B 1 rfl rfl (.inl rfl)) (av_cons (wv_var B 5 rfl rfl (.inl rfl)) (av_cons (wv_var B 6 rfl rfl (.inl rfl)) av_nil))) (⟨r, au0_1, bu0_1, rfl, hr, sa.l, sb.l, rfl⟩) rfl) _ _ ?nx1s3))
    generalize hg : grainSpan r au0_1 bu0_1 = go
    cases go with
    | none =>
      refine wb_cons (ws_set B 4 rfl (.inl rfl) (we_ifT (tv_is (tv_isN (wv_var B 3 rfl rfl (.inl rfl)) wv_non) rfl) ((wv_var B 3 rfl rfl (.inl rfl)) _ _ ?nx1s4)))
      refine wb_one (ws_ret (we_op op_catT rok_catT ((wv_catT (wv_tup (av_cons (wv_var B 5 rfl rfl (.inl rfl)) (av_cons (wv_var B 6 rfl rfl (.inl rfl)) av_nil)) (len_le rfl)) (wv_var B 2 rfl rfl (.inl rfl)) (by simp) (by simp) (len_le rfl)) _ _ (we_tup (wa_cons (we_call B G__law_size_of rfl (by decide) (wa_cons (we_call B G__law_number rfl (by decide) (wa_cons ((wv_var B 0 rfl rfl (.inl rfl)) _ _ (wa_nil ⟨_, rfl, by omega, fun xu5_1 hu5_1 => (wa_nil ⟨_, (⟨xu5_1, rfl, rfl⟩), (wa_cons ((wv_var B 4 rfl rfl (.inl rfl)) _ _ (wa_nil ⟨len_le rfl, ⟨_, _, rfl, rfl, by simp, by simp, len_le rfl, ?ret1s5⟩⟩)))⟩)⟩)))))))))))
      exact h ⟨au0_1, bu0_1, c, d, xu5_1.abs, none⟩ _ (narrow_none hr hau0_1 hbu0_1 habu0_1 hc hd hcd hu5_1 hg) (by omega) (by omega)
    | some g =>
      refine wb_cons (ws_set B 4 rfl (.inl rfl) (we_ifF (tv_is (tv_isN (wv_var B 3 rfl rfl (.inl rfl)) wv_non) rfl) (we_max2 B m_max (wa_cons ((wv_ixT (wv_var B 1 rfl rfl (.inl rfl)) wv_int rfl) _ _ (wa_cons (we_op op_sub rok_I0 ((wv_var B 3 rfl rfl (.inl rfl)) _ _ (we_draw B G__law_draw (wv_var B 0 rfl rfl (.inl rfl)) wv_int ((by decide)) ((by decide)) (by omega) (fun u4_1 u4_1a u4_1b => ⟨_, _, rfl, rfl, (wa_nil ⟨_, _, rfl, ?nx1s4b⟩)⟩) rfl)))))) rfl)))
      refine wb_one (ws_ret (we_op op_catT rok_catT ((wv_catT (wv_tup (av_cons (wv_var B 5 rfl rfl (.inl rfl)) (av_cons (wv_var B 6 rfl rfl (.inl rfl)) av_nil)) (len_le rfl)) (wv_var B 2 rfl rfl (.inl rfl)) (by simp) (by simp) (len_le rfl)) _ _ (we_tup (wa_cons (we_call B G__law_size_of rfl (by decide) (wa_cons (we_call B G__law_number rfl (by decide) (wa_cons ((wv_var B 0 rfl rfl (.inl rfl)) _ _ (wa_nil ⟨_, rfl, by omega, fun xu5_1 hu5_1 => (wa_nil ⟨_, (⟨xu5_1, rfl, rfl⟩), (wa_cons ((wv_var B 4 rfl rfl (.inl rfl)) _ _ (wa_nil ⟨len_le rfl, ⟨_, _, rfl, rfl, by simp, by simp, len_le rfl, ?ret1s5b⟩⟩)))⟩)⟩)))))))))))
      exact h ⟨au0_1, bu0_1, c, d, xu5_1.abs, some (max r.L (g - u4_1))⟩ _ (narrow_some hr hau0_1 hbu0_1 habu0_1 hc hd hcd hu5_1 hg u4_1a) (by omega) (by omega)
end RS
/-! part RSGiven5 -/
namespace RS
open PySem L2 PySem.Spec PyProof.Rows
def p__law_wider : Pr := fun ds t Φ => ∃ (ns : List Int) (r : Ruler) (e : Ent), ds = [.stt ns, rul r, en e] ∧ r.Ok ∧ Narrow r e ∧ t < 800000 ∧ ∀ w t', WideOf r w e → t ≤ t' → t' ≤ t + 10 → Φ (en w) t'
def moreD : List D := [.tup [.int 0, .int 1], .tup [.int 0, .int 1], .tup [.int 1, .int 7], .tup [.int 3, .int 1]]
theorem more_at {i : Int} (h0 : 0 ≤ i) (h1 : i < 4) : ∃ x : Rat, atI moreD i = some (fr x) ∧ 0 ≤ x ∧ Sz 4 x := by
  have : i = 0 ∨ i = 1 ∨ i = 2 ∨ i = 3 := by omega
  rcases this with rfl | rfl | rfl | rfl
  · exact ⟨0, rfl, by decide +kernel, Sz.zero.le (by decide)⟩
  · exact ⟨0, rfl, by decide +kernel, Sz.zero.le (by decide)⟩
  · refine ⟨1 / 7, ?_, by decide +kernel, by decide +kernel, by decide +kernel⟩
    have e1 : (1 / 7 : Rat).num = 1 := by decide +kernel
    have e2 : (1 / 7 : Rat).den = 7 := by decide +kernel
    show some (D.tup [.int 1, .int 7]) = some (D.tup [.int (1 / 7 : Rat).num, .int ((1 / 7 : Rat).den : Int)])
    rw [e1, e2]
    rfl
  · exact ⟨3, rfl, by decide +kernel, by decide +kernel, by decide +kernel⟩
def inSome (o g : Option Int) (j : Nat) : List Int := (([o, g].take j).filterMap fun x => x)
theorem gr_at {o g : Option Int} {j : Nat} {d : D} (h : [gr o, gr g][j]? = some d) : ∃ x, [o, g][j]? = some x ∧ d = gr x := by
  match j, h with
  | 0, h => cases h; exact ⟨o, rfl, rfl⟩
  | 1, h => cases h; exact ⟨g, rfl, rfl⟩
  | j + 2, h => simp at h
theorem inSome_succ {o g x : Option Int} {j : Nat} (h : [o, g][j]? = some x) : inSome o g (j + 1) = inSome o g j ++ x.toList := by
  match j, h with
  | 0, h => cases h; cases o <;> rfl
  | 1, h => cases h; cases o <;> cases g <;> rfl
  | j + 2, h => simp at h
theorem inSome_mem {o g : Option Int} {m : Int} (h : m ∈ inSome o g 2) : o = some m ∨ g = some m := by
  unfold inSome at h
  obtain ⟨x, hx, he⟩ := List.mem_filterMap.mp h
  have hx : x ∈ [o, g] := hx
  simp only [List.mem_cons, List.not_mem_nil, or_false] at hx
  rcases hx with rfl | rfl
  · exact .inl he
  · exact .inr he
theorem mem_inSome {o g : Option Int} {m : Int} (h : o = some m ∨ g = some m) : m ∈ inSome o g 2 := by
  unfold inSome
  rcases h with rfl | rfl
  · exact List.mem_filterMap.mpr ⟨some m, List.mem_cons_self, rfl⟩
  · exact List.mem_filterMap.mpr ⟨some m, List.mem_cons_of_mem _ List.mem_cons_self, rfl⟩
theorem sc__law_wider : FnScope ["_law_state", "_law_ruler_here", "_law_entry_here", "_law_turn", "_law_more", "_law_err", "_law_own", "_law_some", "_law_low", "_law_high", "_law_tlow", "_law_thigh", "_law_grain", "_law_one"] ["_law_state", "_law_ruler_here", "_law_entry_here"] (defScope (top 89)) := ⟨rfl, rfl, rfl, by decide +kernel, rfl, by decide +kernel, by decide +kernel⟩
theorem b__law_wider {X : Cx} (B : Bod X ["_law_state", "_law_ruler_here", "_law_entry_here", "_law_turn", "_law_more", "_law_err", "_law_own", "_law_some", "_law_low", "_law_high", "_law_tlow", "_law_thigh", "_law_grain", "_law_one"] (defScope (top 89)) 3) (hsc : X.env.scope = defScope (top 89)) (G__law_plus : Dfn X "_law_plus" 2 p__law_plus) (G__law_own_grain : Dfn X "_law_own_grain" 3 p__law_own_grain) (G__law_draw : Dfn X "_law_draw" 2 p__law_draw) (G__law_rounded : Dfn X "_law_rounded" 3 p__law_rounded) (G__law_less : Dfn X "_law_less" 2 p__law_less) (G__law_power : Dfn X "_law_power" 1 p__law_power) (G__law_place : Dfn X "_law_place" 2 p__law_place) (m_range : X.mg "range" = none) (m_max : X.mg "max" = none) (m_min : X.mg "min" = none) : ∀ ds t Φ, p__law_wider ds t Φ → WB X (defBody (top 89)) (ds.map some ++ List.replicate (14 - ds.length) none) t (fun _ t' => Φ .non t') Φ := by
  rintro _ t Φ ⟨ns, r, e, rfl, hr, hN, ht, h⟩
  have ht9 : t < 899000 := by omega
  have f1 := hr.f1; have f2 := hr.f2; have l1 := hr.l1; have l2 := hr.l2
  refine wb_cons (ws_tup B (is := [8, 9, 10, 11, 5, 12]) (.cons rfl (.inl rfl) (.cons rfl (.inl rfl) (.cons rfl (.inl rfl) (.cons rfl (.inl rfl) (.cons rfl (.inl rfl) (.cons rfl (.inl rfl) .nil)))))) hsc rfl ((wv_var B 2 rfl rfl (.inl rfl)) _ _ ⟨_, rfl, rfl, ?nx1s0⟩))
  refine wb_cons (ws_forR B 3 rfl (.inl rfl) (fun j ρ t' => t' = t + 1 ∧ ∃ (x : Rat) (md : Option D), MarkB r x (32 + 10 * j) ∧ x ≤ e.lo ∧ ρ = [some (.stt ns), some (rul r), some (en e), md, none, some (fr e.err), none, none, some (fr x), some (fr e.hi), some (fr e.tlo), some (fr e.thi), some (gr e.g), none]) rfl m_range (we_draw B G__law_draw (wv_var B 0 rfl rfl (.inl rfl)) wv_int (by decide) (by decide) (by omega) (fun n na nb => ⟨n, rfl, by omega, by omega, ⟨rfl, e.lo, none, hN.lo, Rat.le_refl, rfl⟩, ?turn1, ?end1⟩) rfl))
  case turn1 =>
    rintro j ρ' t' hj ⟨rfl, x, md, hx, hxl, rfl⟩
    have hxs : Sz 100 x := (hx.sz hr).le (by omega)
    have hpl := placeOf_low hr x
    have hpu : placeOf r x ≤ 116 := placeOf_le hr (n := 100) hxs.abs_lt
    have hst := hxs.step hr
    have hmd := mark_down hr hx (by omega) hxl
    refine (wb_one (ws_set B 8 rfl (.inl rfl) ((wv_call B G__law_rounded (av_cons (wv_var B 1 rfl rfl (.inl rfl)) (av_cons (wv_call B G__law_less (av_cons (wv_var B 8 rfl rfl (.inl rfl)) (av_cons (wv_call B G__law_power (av_cons (wv_ixT (wv_var B 1 rfl rfl (.inl rfl)) wv_int rfl) (av_cons (wv_call B G__law_place (av_cons (wv_var B 1 rfl rfl (.inl rfl)) (av_cons (wv_var B 8 rfl rfl (.inl rfl)) av_nil)) (⟨r, x, rfl, hr, hxs.l, rfl⟩) rfl) av_nil)) (⟨r, _, rfl, hr, by omega, rfl⟩) rfl) av_nil)) (⟨x, step r x, rfl, hxs.b, hst.b, rfl⟩) rfl) av_nil)) (⟨r, _, rfl, hr, (hxs.sub hst).l, rfl⟩) rfl) _ _ ?next1)))
    case next1 => exact ⟨rfl, _, _, hmd.1.mono (by omega), hmd.2, rfl⟩
  case end1 =>
    rintro ρ' t' ⟨rfl, x, md, hx, hxl, rfl⟩
    have hx : MarkB r x 62 := hx.mono (by omega)
    refine wb_cons (ws_forR B 3 rfl (.inl rfl) (fun j ρ t' => t' = t + 2 ∧ ∃ (y : Rat) (md : Option D), MarkB r y (32 + 10 * j) ∧ e.hi ≤ y ∧ ρ = [some (.stt ns), some (rul r), some (en e), md, none, some (fr e.err), none, none, some (fr x), some (fr y), some (fr e.tlo), some (fr e.thi), some (gr e.g), none]) rfl m_range (we_draw B G__law_draw (wv_var B 0 rfl rfl (.inl rfl)) wv_int (by decide) (by decide) (by omega) (fun n2 n2a n2b => ⟨n2, rfl, by omega, by omega, ⟨rfl, e.hi, md, hN.hi, Rat.le_refl, rfl⟩, ?turn2, ?end2⟩) rfl))
    case turn2 =>
      rintro j ρ' t' hj ⟨rfl, y, md, hy, hyl, rfl⟩
      have hys : Sz 100 y := (hy.sz hr).le (by omega)
      have hpl := placeOf_low hr y
      have hpu : placeOf r y ≤ 116 := placeOf_le hr (n := 100) hys.abs_lt
      have hst := hys.step hr
      have hmu := mark_up hr hy (by omega) hyl
      refine (wb_one (ws_set B 9 rfl (.inl rfl) ((wv_call B G__law_rounded (av_cons (wv_var B 1 rfl rfl (.inl rfl)) (av_cons (wv_call B G__law_plus (av_cons (wv_var B 9 rfl rfl (.inl rfl)) (av_cons (wv_call B G__law_power (av_cons (wv_ixT (wv_var B 1 rfl rfl (.inl rfl)) wv_int rfl) (av_cons (wv_call B G__law_place (av_cons (wv_var B 1 rfl rfl (.inl rfl)) (av_cons (wv_var B 9 rfl rfl (.inl rfl)) av_nil)) (⟨r, y, rfl, hr, hys.l, rfl⟩) rfl) av_nil)) (⟨r, _, rfl, hr, by omega, rfl⟩) rfl) av_nil)) (⟨y, step r y, rfl, hys.b, hst.b, rfl⟩) rfl) av_nil)) (⟨r, _, rfl, hr, (hys.add hst).l, rfl⟩) rfl) _ _ ?next2)))
      case next2 => exact ⟨rfl, _, _, hmu.1.mono (by omega), hmu.2, rfl⟩
    case end2 =>
      rintro ρ' t' ⟨rfl, y, md2, hy, hyl, rfl⟩
      have hy : MarkB r y 62 := hy.mono (by omega)
      have xs : Sz 100 x := (hx.sz hr).le (by decide)
      have ys : Sz 100 y := (hy.sz hr).le (by decide)
      refine wb_cons (ws_set B 4 rfl (.inl rfl) ((wv_lst (av_cons (wv_tup (av_cons wv_int (av_cons wv_int av_nil)) (len_le rfl)) (av_cons (wv_tup (av_cons wv_int (av_cons wv_int av_nil)) (len_le rfl)) (av_cons (wv_tup (av_cons wv_int (av_cons wv_int av_nil)) (len_le rfl)) (av_cons (wv_tup (av_cons wv_int (av_cons wv_int av_nil)) (len_le rfl)) av_nil)))) (len_le rfl)) _ _ ?nx1s3))
      refine wb_cons (ws_mono (Nx := fun ρ1 t1 => t1 = t + 4 ∧ ∃ tl th : Rat, Sz 110 tl ∧ tl ≤ e.tlo ∧ Sz 110 th ∧ e.thi ≤ th ∧ ρ1 = [some (.stt ns), some (rul r), some (en e), md2, some (.lst moreD), some (fr e.err), none, none, some (fr x), some (fr y), some (fr tl), some (fr th), some (gr e.g), none]) (ws_par B 10 11 rfl rfl (by decide) rfl rfl hsc rfl (we_call B G__law_less rfl (by decide) (wa_cons ((wv_var B 10 rfl rfl (.inl rfl)) _ _ (wa_cons (we_ix ix_list rok_ixL ((wv_var B 4 rfl rfl (.inl rfl)) _ _ (we_draw B G__law_draw (wv_var B 0 rfl rfl (.inl rfl)) wv_int (by decide) (by decide) (by omega) (fun m1 m1a m1b => ?w4) rfl)))))))) ?m4)
      case w4 =>
        obtain ⟨q1, e1, p1, z1⟩ := more_at m1a m1b
        refine ⟨_, _, _, rfl, rfl, e1, wa_nil ⟨_, ⟨e.tlo, q1, rfl, hN.tlo.b, z1.b, rfl⟩, we_call B G__law_plus rfl (by decide) (wa_cons ((wv_var B 11 rfl rfl (.inl rfl)) _ _ (wa_cons (we_ix ix_list rok_ixL ((wv_var B 4 rfl rfl (.inl rfl)) _ _ (we_draw B G__law_draw (wv_var B 0 rfl rfl (.inl rfl)) wv_int (by decide) (by decide) (by omega) (fun m2 m2a m2b => ?w5) rfl))))))⟩⟩
        obtain ⟨q2, e2, p2, z2⟩ := more_at m2a m2b
        exact ⟨_, _, _, rfl, rfl, e2, wa_nil ⟨_, ⟨e.thi, q2, rfl, hN.thi.b, z2.b, rfl⟩, rfl, e.tlo - q1, e.thi + q2, (hN.tlo.sub z1).le (by decide), by grind, (hN.thi.add z2).le (by decide), by grind, rfl⟩⟩
      case m4 =>
        rintro ρ' t' ⟨rfl, tl, th, tl1, tl2, th1, th2, rfl⟩
        refine wb_cons (ws_set B 5 rfl (.inl rfl) (we_call B G__law_plus rfl (by decide) (wa_cons ((wv_var B 5 rfl rfl (.inl rfl)) _ _ (wa_cons (we_ix ix_list rok_ixL ((wv_var B 4 rfl rfl (.inl rfl)) _ _ (we_draw B G__law_draw (wv_var B 0 rfl rfl (.inl rfl)) wv_int (by decide) (by decide) (by omega) (fun m3 m3a m3b => ?w6) rfl))))))))
        case w6 =>
          obtain ⟨q3, e3, p3, z3⟩ := more_at m3a m3b
          refine ⟨_, _, _, rfl, rfl, e3, wa_nil ⟨_, ⟨e.err, q3, rfl, hN.err.b, z3.b, rfl⟩, ?_⟩⟩
          have er1 : Sz 60 (e.err + q3) := (hN.err.add z3).le (by decide)
          have er2 : e.err ≤ e.err + q3 := by grind
          generalize e.err + q3 = er at *
          refine wb_cons (ws_set B 6 rfl (.inl rfl) ((wv_call B G__law_own_grain (av_cons (wv_var B 1 rfl rfl (.inl rfl)) (av_cons (wv_var B 8 rfl rfl (.inl rfl)) (av_cons (wv_var B 9 rfl rfl (.inl rfl)) av_nil))) (⟨r, x, y, rfl, hr, xs.l, ys.l, rfl⟩) rfl) _ _ ?nx1s6))
          generalize ho : grainSpan r x y = o
          refine wb_cons (ws_mono (Nx := fun ρ1 t1 => t1 = t + 4 + 1 ∧ ρ1 = [some (.stt ns), some (rul r), some (en e), md2, some (.lst moreD), some (fr er), some (gr o), some (.lst ((inSome o e.g 2).map D.int)), some (fr x), some (fr y), some (fr tl), some (fr th), some (gr e.g), none]) (ws_setLc B (i := 13) (k := 7) rfl (by rw [hsc]; decide +kernel) (by rw [hsc]; rfl) rfl rfl (pi_tup semE) (by rw [hsc]; exact ⟨rfl, by decide +kernel, by decide +kernel, by decide +kernel, by decide +kernel⟩) rfl rfl (fun σ H er' hb' Q hq => lcT_run (Φ := fun d t1 => t1 = t + 4 + 1 ∧ ([some (.stt ns), some (rul r), some (en e), md2, some (.lst moreD), some (fr er), some (gr o), none, some (fr x), some (fr y), some (fr tl), some (fr th), some (gr e.g), none] : Env').set 7 (some d) = [some (.stt ns), some (rul r), some (en e), md2, some (.lst moreD), some (fr er), some (gr o), some (.lst ((inSome o e.g 2).map D.int)), some (fr x), some (fr y), some (fr tl), some (fr th), some (gr e.g), none]) B (fun j acc t1 => t1 = t + 4 + 1 ∧ acc = (inSome o e.g j).map D.int) ?lc er' hb' hq)) ?m7)
          case lc =>
            refine (wv_tup (av_cons (wv_var B 6 rfl rfl (.inl rfl)) (av_cons (wv_var B 12 rfl rfl (.inl rfl)) av_nil)) (len_le rfl)) _ _ ⟨_, rfl, Nat.le_of_ble_eq_true rfl, ⟨rfl, rfl⟩, ?_, ?_⟩
            · rintro j d acc t1 hd ⟨rfl, rfl⟩
              obtain ⟨z, hz, rfl⟩ := gr_at hd
              have hs := inSome_succ hz
              intro X' b
              refine (tv_notN (wv_var (b.bod B) 13 rfl rfl (.inl rfl)) wv_non) _ _ ⟨fun k X2 b2 => ?_, fun k => ?_⟩
              · cases z with
                | none => cases k
                | some v => exact (wv_var (b2.bod B) 13 rfl rfl (.inl rfl)) _ _ ⟨rfl, rfl, by rw [hs, List.map_append]; rfl⟩
              · cases z with
                | none => exact ⟨rfl, by rw [hs]; simp⟩
                | some v => cases k
            · rintro acc t1 _ ⟨rfl, rfl⟩
              exact ⟨rfl, rfl⟩
          case m7 =>
            rintro ρ' t1 ⟨rfl, rfl⟩
            have hin : ∀ m, m ∈ inSome o e.g 2 → r.L ≤ m ∧ m ≤ 100 := fun m hm => by
              rcases inSome_mem hm with z | z
              · have := grainSpan_le hr hx.lt hy.lt (ho.trans z)
                omega
              · exact hN.g m z
            have hof : ∀ m, e.g = some m → m ∈ inSome o e.g 2 := fun m hm => mem_inSome (.inr hm)
            have hnone : inSome o e.g 2 = [] → o = none ∧ e.g = none := fun hm => by
              refine ⟨?_, ?_⟩
              · cases q : o with
                | none => rfl
                | some v => have := mem_inSome (o := o) (g := e.g) (.inl q); rw [hm] at this; cases this
              · cases q : e.g with
                | none => rfl
                | some v => have := hof v q; rw [hm] at this; cases this
            generalize inSome o e.g 2 = ms at *
            cases ms with
            | nil =>
              obtain ⟨n1, n2⟩ := hnone rfl
              refine wb_cons (ws_ifF (tv_is (tv_neD B (wv_var B 7 rfl rfl (.inl rfl)) (wv_lst av_nil (len_le rfl)) (rfl) (rfl) (rfl) (rfl) (rfl)) rfl) (wb_nil ?nx1s8))
              refine wb_one (ws_ret ((wv_tup (av_cons (wv_var B 8 rfl rfl (.inl rfl)) (av_cons (wv_var B 9 rfl rfl (.inl rfl)) (av_cons (wv_var B 10 rfl rfl (.inl rfl)) (av_cons (wv_var B 11 rfl rfl (.inl rfl)) (av_cons (wv_var B 5 rfl rfl (.inl rfl)) (av_cons (wv_var B 12 rfl rfl (.inl rfl)) av_nil)))))) (len_le rfl)) _ _ ?ret1s9))
              exact h ⟨x, y, tl, th, er, e.g⟩ _ (wide_mk hr hN hx hxl hy hyl tl1 tl2 th1 th2 er1 er2 (fun a ha => hN.g a ha) (fun b hb => ⟨b, hb, Int.le_refl _⟩) (fun _ => ho.trans n1)) (by omega) (by omega)
            | cons m ms =>
              refine wb_cons (ws_ifT (tv_is (tv_neD B (wv_var B 7 rfl rfl (.inl rfl)) (wv_lst av_nil (len_le rfl)) ((show (D.lst ((m :: ms).map D.int)).plain = true from plainL_ints (m :: ms))) (rfl) (lst_shaped (m :: ms)) (rfl) (rfl)) rfl) (wb_one (ws_set B 12 rfl (.inl rfl) (we_max2 B m_max (wa_cons ((wv_ixT (wv_var B 1 rfl rfl (.inl rfl)) wv_int rfl) _ _ (wa_cons (we_op op_sub rok_I0 (we_min1 B m_min (wv_var B 7 rfl rfl (.inl rfl)) ((Nat.succ_pos _)) (fun lm lm1 lm2 => (we_draw B G__law_draw (wv_var B 0 rfl rfl (.inl rfl)) wv_int ((by decide)) ((by decide)) (by omega) (fun u8_1 u8_1a u8_1b => ⟨_, _, rfl, rfl, (wa_nil ⟨_, _, rfl, ?nx1s8b⟩)⟩) rfl)) rfl))))) rfl))))
              refine wb_one (ws_ret ((wv_tup (av_cons (wv_var B 8 rfl rfl (.inl rfl)) (av_cons (wv_var B 9 rfl rfl (.inl rfl)) (av_cons (wv_var B 10 rfl rfl (.inl rfl)) (av_cons (wv_var B 11 rfl rfl (.inl rfl)) (av_cons (wv_var B 5 rfl rfl (.inl rfl)) (av_cons (wv_var B 12 rfl rfl (.inl rfl)) av_nil)))))) (len_le rfl)) _ _ ?ret1s9b))
              have hm := hin lm lm1
              exact h ⟨x, y, tl, th, er, some (max r.L (lm - u8_1))⟩ _ (wide_mk hr hN hx hxl hy hyl tl1 tl2 th1 th2 er1 er2 (fun a ha => by have : max r.L (lm - u8_1) = a := Option.some.inj ha; omega) (fun b hb => ⟨_, rfl, by have := lm2 b (hof b hb); have := hN.g b hb; omega⟩) (fun z => nomatch z)) (by omega) (by omega)
end RS
/-! part RSLay10 -/
namespace RS
open PySem L2 PySem.Spec PyProof.Rows
/-! ### dict(zip(names, ys)) -/
def zipK (ns : List Str) (ys : List V) : List (Key × V) := (ns.zip ys).map fun z => ((Sum.inr z.1 : Key), z.2)
def tDZ (K : PySem.W.Frag) (ta : TA) : TE := fun σ H Q => ta σ H fun vs H1 => ∃ (a b : Addr) (ns : List Str) (ys : List V), vs = [.ref a, .ref b] ∧ SqL K H1 a (ns.map V.str) ∧ SqL K H1 b ys ∧ ns.length = ys.length ∧ ns.length ≤ 15 ∧
  ∀ p, H1 p = none → Q (.ref p) (upd H1 p (.dK (mergeK [] (zipK ns ys))))
theorem zip_rs : ∀ {ns : List Str} {ys : List V} {us ws : List Value}, Vals (ns.map V.str) us → Vals ys ws → ns.length = ys.length →
    ∃ rs : List (Key × Value), KV (zipK ns ys) rs ∧ rs.length = ns.length ∧ ∀ (P : Program) (w : World) (i : Nat) (k v : Value), us[i]? = some k → ws[i]? = some v → ∃ q, rs[i]? = some (q, v) ∧ (mixKind P w).is q k = true
  | [], [], _, _, r, r', _ => by
    cases r
    exact ⟨[], .nil, rfl, fun P w i k v h => by simp at h⟩
  | n :: ns, y :: ys, _, _, r, r', hl => by
    cases r with
    | @cons _ u _ us r1 r2 =>
      cases r' with
      | @cons _ w0 _ ws q1 q2 =>
        obtain ⟨rs, h1, h2, h3⟩ := zip_rs r2 q2 (by simpa using hl)
        refine ⟨(.inr n, w0) :: rs, .cons ⟨rfl, q1⟩ h1, by rw [List.length_cons, List.length_cons, h2], fun P w i k v hk hv => ?_⟩
        cases i with
        | zero =>
          simp only [List.getElem?_cons_zero, Option.some.injEq] at hk hv
          subst hk hv
          exact ⟨.inr n, by simp, kV_is (k := .inr n) r1⟩
        | succ i =>
          simp only [List.getElem?_cons_succ] at hk hv
          obtain ⟨q, e1, e2⟩ := h3 P w i k v hk hv
          exact ⟨q, by simpa using e1, e2⟩
  | [], _ :: _, _, _, _, _, hl => by simp at hl
  | _ :: _, [], _, _, _, _, hl => by simp at hl
section
variable {X : Cx} {N : List Str} {sc : Scope} {kk : Nat} {ρ : Env'} {t : Nat} {Φ : D → Nat → Prop} {e e2 : Expr} {ta : TA} {p p2 pos pos2 : Pos} {ns : List Str} {l : List D}
theorem pe_dictZip (hgD : Gl X "dict") (hmD : X.mg "dict" = none) (hgZ : Gl X "zip") (hmZ : X.mg "zip" = none) (hc : X.calm = true) (ha : PA X [e, e2] ta) (he : notStar e = true) (he2 : notStar e2 = true) :
    PE X (.Call (.Name "dict" p) [.Call (.Name "zip" p2) [e, e2] [] pos2] [] pos) (tDZ X.K ta) := by
  refine ⟨fun pins s σ H Q I h => ?_⟩
  refine Call_ (ld_blt I hgD hmD PyProof.Rows.boot_dict (PyProof.Rows.callWith_type1 (Calls.spliced_cons ?_) rfl rfl))
  refine Call_ (ld_blt I hgZ hmZ PyProof.Rows.boot_zip (PyProof.Rows.callWith_type1 (thn (ha.run pos2 pins s σ H _ I h) fun us s1 ⟨vs, H1, I1, r1, q1⟩ => ?_) (star_ok he) (star_any (es := [e2]) (by show (notStar e2 && true) = true; rw [he2]; rfl))))
  obtain ⟨a, b, ns, ys, ex, hqx, hqy, hlen, h15, q⟩ := q1
  subst ex
  cases r1 with
  | cons r rr =>
    cases rr with
    | cons r' rr =>
      cases rr
      cases r
      cases r'
      obtain ⟨us, rv, pl1, _⟩ := I1.list hqx
      obtain ⟨ws, rv2, pl2, _⟩ := I1.list hqy
      have la : a < s1.heap.objs.size := pl1.lt
      have lb : b < s1.heap.objs.size := pl2.lt
      refine call_zip_2 pl1.isList pl2.isList fun h' hz hTI hTO h1 h2 hsz hk => Calls.spliced_nil ?_
      have I2 : Inv X pins σ H1 { s1 with heap := h' } := I1.kept (t' := s1.toks) hk
      obtain ⟨rs, k1, k2, k3⟩ := zip_rs rv rv2 hlen
      have lu : us.length = ns.length := by rw [← rv.length, List.length_map]
      have lw : ws.length = ns.length := by rw [← rv2.length, hlen]
      have hmin : min us.toArray.size ws.toArray.size = ns.length := by
        rw [show us.toArray.size = us.length from List.size_toArray .., show ws.toArray.size = ws.length from List.size_toArray .., lu, lw]
        omega
      refine call_dict_pairs (knd := mixKind X.prog X.w) (kvs := rs) (PairArg.zip (s1.heap.objs.size + 4) (s1.heap.objs.size + 2) (s1.heap.objs.size + 3) s1.heap.objs.size (s1.heap.objs.size + 1) a b (PySem.W.ktu_apart s1.heap.objs.size a b la lb) us.toArray ws.toArray) (I2.ok.hd hc)
        ⟨hz, hTI, ⟨_, _, hTO⟩, h1, h2, pl1.isList.at fun o e => hk _ o e, pl2.isList.at fun o e => hk _ o e⟩ ⟨by rw [hmin, k2], fun i k v hr => k3 X.prog X.w i k v (by simpa using hr.1) (by simpa using hr.2)⟩ (by rw [hmin, sizeLine_eq]; omega) fun h'' tk hd hk2 => ?_
      have hz15 : (mergeK [] (zipK ns ys)).length ≤ sizeLine := by
        have e1 := length_mergeK (zipK ns ys) []
        have e2 : (zipK ns ys).length = ns.length := by
          unfold zipK
          rw [List.length_map, List.length_zip, ← hlen]
          omega
        rw [e2, List.length_nil] at e1
        rw [sizeLine_eq]
        omega
      have hn : H1 h'.objs.size = none := I2.hok.fresh (Nat.le_refl _)
      have keep : ∀ c o, s1.heap.get? c = some o → h''.get? c = some o := fun c o ho => by
        have hc' := Heap.lt_size ho
        refine hk2 c o (fun hm => ?_) (hk c o ho)
        have hm' : c = s1.heap.objs.size + 4 ∨ c = s1.heap.objs.size + 3 ∨ c = s1.heap.objs.size ∨ c = s1.heap.objs.size + 1 := by simpa using hm
        rcases hm' with z | z | z | z
        · rw [z] at hc'
          exact absurd hc' (Nat.not_lt.mpr (Nat.le_add_right _ _))
        · rw [z] at hc'
          exact absurd hc' (Nat.not_lt.mpr (Nat.le_add_right _ _))
        · rw [z] at hc'
          exact absurd hc' (Nat.lt_irrefl _)
        · rw [z] at hc'
          exact absurd hc' (Nat.not_lt.mpr (Nat.le_add_right _ _))
      have hbig : (h'.objs.size == sysModules) = false := beq_eq_false_iff_ne.mpr (Ne.symm (Nat.ne_of_lt I2.big))
      exact ⟨.ref h'.objs.size, _, I1.laid (t' := tk) (a := h'.objs.size) (o := .dK (mergeK [] (zipK ns ys))) (h' := h'') keep (by rw [hsz]; exact Nat.le_add_right _ _) (dk_new hz15 hbig (k1.merge .nil) hd), rfl, q _ hn⟩
theorem mergeK_new : ∀ {more kvs : List (Key × V)}, (more.map (·.1)).Nodup → (∀ k ∈ more.map (·.1), ∀ q ∈ kvs, q.1 ≠ k) → mergeK kvs more = kvs ++ more
  | [], kvs, _, _ => by
    rw [List.append_nil]
    rfl
  | m :: more, kvs, hn, hd => by
    rw [List.map_cons, List.nodup_cons] at hn
    have h1 : putK kvs m.1 m.2 = kvs ++ [m] := by
      unfold putK
      rw [if_neg]
      intro hx
      obtain ⟨q, hq, he⟩ := List.any_eq_true.mp hx
      exact hd m.1 (by simp) q hq (of_decide_eq_true he)
    show mergeK (putK kvs m.1 m.2) more = _
    rw [h1, mergeK_new hn.2 (fun k hk q hq => ?_), List.append_assoc]
    · rfl
    · rcases List.mem_append.mp hq with z | z
      · exact hd k (by rw [List.map_cons]; exact List.mem_cons_of_mem _ hk) q z
      · simp only [List.mem_cons, List.not_mem_nil, or_false] at z
        subst z
        exact fun e => hn.1 (e ▸ hk)
theorem zipK_keys : ∀ {ns : List Str} {ys : List V}, ns.length = ys.length → (zipK ns ys).map (·.1) = ns.map Sum.inr
  | [], [], _ => rfl
  | n :: ns, y :: ys, h => by
    show Sum.inr n :: (zipK ns ys).map (·.1) = _
    rw [zipK_keys (by simpa using h)]
    rfl
  | [], _ :: _, h => by simp at h
  | _ :: _, [], h => by simp at h
/-- the same over data -/
def zipD (ns : List Str) (l : List D) : List (Key × D) := (ns.zip l).map fun z => ((Sum.inr z.1 : Key), z.2)
theorem rpK_zip {K : PySem.W.Frag} {H : Hp} : ∀ {ns : List Str} {l : List D} {ys : List V}, RpL K H l ys → ns.length = l.length → RpK K H (zipD ns l) (zipK ns ys)
  | [], [], _, .nil, _ => .nil
  | n :: ns, d :: l, _, .cons h r, hl => .cons h (rpK_zip r (by simpa using hl))
  | [], _ :: _, _, _, hl => by simp at hl
  | _ :: _, [], _, _, hl => by simp at hl
theorem nodup_inr {ns : List Str} (h : ns.Nodup) : (ns.map (Sum.inr : Str → Key)).Nodup := by
  induction ns with
  | nil => exact List.nodup_nil
  | cons n ns ih =>
    rw [List.nodup_cons] at h
    rw [List.map_cons, List.nodup_cons]
    refine ⟨fun hm => ?_, ih h.2⟩
    obtain ⟨m, hm1, hm2⟩ := List.mem_map.mp hm
    cases hm2
    exact h.1 hm1
theorem we_dictZip (B : Bod X N sc kk) (hmD : X.mg "dict" = none) (hmZ : X.mg "zip" = none) (ha : WV X e ρ (.lst (ns.map D.str))) (hb : WV X e2 ρ (.lst l)) (hl : ns.length = l.length) (h15 : ns.length ≤ 15) (hnd : ns.Nodup) (hst : ∀ c x y z ys, HO.dK (zipK ns ys) ≠ stD c x y z) (h : Φ (.dic (zipD ns l)) t)
    (hgD : sc.names.lookup ("dict" : Str) = some .globalImplicit) (hgZ : sc.names.lookup ("zip" : Str) = some .globalImplicit) (he : notStar e = true := by rfl) (he2 : notStar e2 = true := by rfl) : WE X (.Call (.Name "dict" p) [.Call (.Name "zip" p2) [e, e2] [] pos2] [] pos) ρ t Φ := .mk fun σ H er hb' Q q => by
  refine ofE (pe_dictZip (gl_of B hgD) hmD (gl_of B hgZ) hmZ B.calm semA he he2) ?_
  refine (av_cons ha (av_cons hb av_nil he2) he) t (fun ds t1 => ds = [.lst (ns.map D.str), .lst l] ∧ t1 = t) ⟨rfl, rfl⟩ σ H er hb' _ fun ds vs t1 H1 ⟨ed, et⟩ e1 b1 r1 => ?_
  subst ed et
  obtain ⟨v, v', rfl, q1, q2⟩ := rl2 r1
  cases q1 with
  | @lst a xs _ hx rx =>
    cases q2 with
    | @lst b ys _ hy ry =>
      have ex := rx.strs
      subst ex
      have ly := ry.len
      refine ⟨a, b, ns, ys, rfl, SqL.of hx, SqL.of hy, by omega, h15, fun p hp => ?_⟩
      have hk := zipK_keys (ns := ns) (ys := ys) (by omega)
      have em : mergeK [] (zipK ns ys) = zipK ns ys := by
        rw [mergeK_new (by rw [hk]; exact nodup_inr hnd) (fun k hk q hq => by cases hq), List.nil_append]
      rw [em]
      have e3 := ExS.new (o := .dK (zipK ns ys)) hp
      exact q _ _ t1 _ h (e1.trans e3) (b1.new fun c x y z => hst c x y z ys) (.dic upd_same (fun c x y z => hst c x y z ys) ((rpK_zip ry hl).mono e3))
end
end RS
/-! part RSLay11 -/
namespace RS
open PySem L2 PySem.Spec PyProof.Rows
section
variable {X : Cx} {N : List Str} {sc : Scope} {kk : Nat} {ρ : Env'} {t : Nat} {Φ : D → Nat → Prop} {Nx : Env' → Nat → Prop} {R : D → Nat → Prop} {x : Str} {e e2 : Expr} {es : List Expr} {p p1 p2 pos pos2 : Pos} {l : List D} {kvs : List (Key × D)}
/-! ### dict(d), repr(v) -/
theorem call_copy : CallR X (.type "dict") (fun xs H Q => ∃ (a : Addr) (ks : List (Key × V)), xs = [.ref a] ∧ H a = some (.dK ks) ∧ ∀ q, H q = none → Q (.ref q) (upd H q (.dK ks))) := by
  intro pins s σ H xs us Q I r h
  obtain ⟨a, ks, rfl, ha, q⟩ := h
  cases r with
  | cons r rr =>
    cases rr
    cases r
    exact d_copyOf I (.inl ha) fun q' s' hq J => ⟨.ref q', _, J, rfl, q q' hq⟩
theorem rck_copy {K : PySem.W.Frag} : RCk K (fun xs H Q => ∃ (a : Addr) (ks : List (Key × V)), xs = [.ref a] ∧ H a = some (.dK ks) ∧ ∀ q, H q = none → Q (.ref q) (upd H q (.dK ks))) (fun ds Ψ => ∃ l, ds = [.dic l] ∧ Ψ (.dic l)) := fun H ds vs Ψ r ⟨l, e1, h⟩ Q q => by
  subst e1
  obtain ⟨v, rfl, r1⟩ := rl1 r
  cases r1 with
  | @dic a ks _ ha hn rk =>
    refine ⟨a, ks, rfl, ha, fun p hp => ?_⟩
    have e2 := ExS.new (o := .dK ks) hp
    exact q _ _ _ h e2 (fun t z => z.new hn) (.dic upd_same hn (rk.mono e2))
theorem we_copy (B : Bod X N sc kk) (hm : X.mg "dict" = none) (ha : WV X e ρ (.dic kvs)) (h : Φ (.dic kvs) t) (hg : sc.names.lookup ("dict" : Str) = some .globalImplicit) (he : notStar e = true := by rfl) : WE X (.Call (.Name "dict" p1) [e] [] pos) ρ t Φ :=
  we_callT B call_copy rck_copy hm (by decide +kernel) hg ((av_cons ha av_nil he) _ _ ⟨kvs, rfl, h⟩) (by decide) (by decide) he rfl
def Shows (d : PyData) : Prop := d.showable = true ∧ d.hasDict = false ∧ d.depth ≤ 60 ∧ d.shown.length ≤ sizeLine
theorem call_reprG (hg : X.A.guards = some []) (hu : X.A.units + 64 < cLine) : CallR X (.builtin "repr") (fun xs H Q => ∃ (v : V) (d : PyData), xs = [v] ∧ Dp X.K H v d ∧ ((v = .non ∧ d = .none) ∨ ∃ a, v = .ref a) ∧ Shows d ∧ Q (.str d.shown) H) := by
  intro pins s σ H xs us Q I r h
  obtain ⟨v, d, rfl, hd, hv, ⟨s1, s2, s3, s4⟩, q⟩ := h
  cases r with
  | @cons _ u _ _ r rr =>
    cases rr
    rcases hv with ⟨rfl, rfl⟩ | ⟨a, rfl⟩
    · cases r
      exact PySem.P.repr_of_none ⟨.str "None", H, I.tok _, ⟨_, rfl⟩, q⟩
    · obtain ⟨as, ra⟩ := Dp.reads I d _ _ hd r
      cases r
      exact repr_of_reads' ra s1 (PyData.noDict_hsm s2) hg (by omega) (fun _ _ e => e) (fun h' u tk hk => ⟨.str d.shown, H, I.kept (t' := tk) hk, ⟨_, rfl⟩, q⟩) s4
theorem rck_repr {K : PySem.W.Frag} : RCk K (fun xs H Q => ∃ (v : V) (d : PyData), xs = [v] ∧ Dp K H v d ∧ ((v = .non ∧ d = .none) ∨ ∃ a, v = .ref a) ∧ Shows d ∧ Q (.str d.shown) H)
    (fun ds Ψ => ∃ x : D, ds = [x] ∧ (x = .non ∨ ∃ l, x = .tup l) ∧ x.plain = true ∧ Shows x.py ∧ Ψ (.str x.py.shown)) := fun H ds vs Ψ r ⟨x, e1, hx, hp, hs, h⟩ Q q => by
  subst e1
  obtain ⟨v, rfl, r1⟩ := rl1 r
  refine ⟨v, x.py, rfl, r1.dp hp, ?_, hs, q _ _ H h (ExS.refl H) (fun _ z => z) (.str _)⟩
  rcases hx with rfl | ⟨l, rfl⟩
  · cases r1
    exact .inl ⟨rfl, rfl⟩
  · cases r1
    exact .inr ⟨_, rfl⟩
theorem wv_repr {d : D} (hgu : X.A.guards = some []) (B : Bod X N sc kk) (hm : X.mg "repr" = none) (ha : WV X e ρ d) (hx : d = .non ∨ ∃ l, d = .tup l) (hp : d.plain = true) (hs : Shows d.py) (hg : sc.names.lookup ("repr" : Str) = some .globalImplicit) (he : notStar e = true := by rfl) : WV X (.Call (.Name "repr" p1) [e] [] pos) ρ (.str d.py.shown) := fun t Φ h =>
  we_callB B (call_reprG hgu (hu64 B)) rck_repr hm (by decide +kernel) hg ((av_cons ha av_nil he) _ _ ⟨d, rfl, hx, hp, hs, h⟩) (by decide) (by decide) he rfl
/-- a, b, .. = a list -/
theorem ws_lst (B : Bod X N sc kk) {is : List Nat} {k : Nat} (hs : Slots N sc es is) (hsc : X.env.scope = sc) (hw : swappedStores [.Tuple es k p1] e (env0 sc) = pure none)
    (h : WE X e ρ t fun d t1 => ∃ l, d = .lst l ∧ l.length = is.length ∧ Nx (setAll ρ is l) t1)
    (hsw : swapsWithSole [.Tuple es k p1] e pos.line X.env = pure false := by rfl) (hn : (assignEach es X.env).length = is.length := by rfl) (hst : (assignEach es X.env).findIdx? (·.1) = none := by rfl) (h1 : (assignEach [.Tuple es k p1] X.env).map (·.2) = [assign (.Tuple es k p1) X.env] := by rfl) : WS X (.Assign [.Tuple es k p1] e pos) ρ t Nx R := .mk fun σ H er hb E q => by
  refine ofS (ps_asg semE (pg_lst B.calm (pgs_slots B hs) hn hst) hsw ((swapped_env (env' := env0 sc) hsc).trans hw) h1) ?_
  refine h σ H er hb _ fun d v t1 H1 ⟨l, hl, hz, h1⟩ e1 b1 r1 => ?_
  subst hl
  cases r1 with
  | lst hx rl => exact ⟨_, _, rfl, SqL.of hx, by rw [rl.len]; exact hz, tgs_run hz rl (er.mono e1) fun σ' er' => q.1 _ t1 _ H1 h1 e1 b1 er'⟩
end
/-! ### defs that ask for a place where no repr is under way -/
def FnG (P : Program) (w : World) (K : PySem.W.Frag) (mg : Str → Option Value) (base : Heap) (k : Nat) (f : Addr) (fd : FuncData) (ps : List Str) (sp : Sp) : Prop :=
  (∀ vs H Q E, sp vs H Q E → vs.length = ps.length) ∧
  ∀ (A : Around) (outer : List Env) (s : Shared) (H : Hp) (args : Args) (us : List Value) (vs : List V) (Q : VK) (E : XK), A.guards = some [] → Room k A → Env0 P w K mg base A outer s H → BindsTo s fd args (ps.zip us) → Vals vs us → sp vs H Q E →
    codeAny (model P w) A (.call (.ref f) args) (CR CX0 outer P w H s Q E) s
structure DfnG (X : Cx) (name : Str) (k : Nat) (p : Pr) : Prop where
  ex : ∃ f fd ps, X.mg name = some (.ref f) ∧ PySem.W.keepIn X.K (.ref f) = true ∧ Binds X.K fd ps [] ∧ FnG X.prog X.w X.K X.mg X.base k f fd ps (spS X.K p)
theorem mk_defG {N : List Str} {P : Program} {w : World} {K : PySem.W.Frag} {mg : Str → Option Value} {base : Heap} {nm qual : Str} {params : Arguments} {body : List Stmt} {scp : Scope} {f : Addr} {fd : FuncData} {ps : List Str} {k : Nat} {p : Pr}
    (F : FunD K nm qual params body scp [] [] f fd) (S : FnScope N ps scp) (har : ∀ ds t Φ, p ds t Φ → ds.length = ps.length)
    (hbody : ∀ X : Cx, X.prog = P → X.w = w → X.K = K → X.mg = mg → X.base = base → X.A.guards = some [] → Bod X N scp k → X.env.scope = scp → ∀ ds t Φ, p ds t Φ → WB X body (ds.map some ++ List.replicate (N.length - ds.length) none) t (fun _ t' => Φ .non t') Φ) :
    FnG P w K mg base (k + 1) f fd ps (spS K p) := by
  have hlen : ∀ vs H Q E, spS K p vs H Q E → vs.length = ps.length := fun vs H Q E ⟨ds, t, Φ, r, _, h, _⟩ => by rw [r.len]; exact har ds t Φ h
  obtain ⟨oc, od, dV, kV, doc, pm, an, cdv, ct, osl, rfl, lk, cd0, _, _⟩ := F.ex
  refine ⟨hlen, fun A outer s H args us vs Q E gu room en0 bnd rel prom => ?_⟩
  have big : K.In s.heap := en0.mod.kin.keeps fun c u z => (en0.bs c u z).1
  have free : s.heap.NoLimit := en0.mod.nolimit.keeps fun c u z => (en0.bs c u z).1
  have kinds : ∀ y ∈ ps.zip us, scp.names.lookup y.1 = some .local ∨ (scp.names.lookup y.1 = some .cell ∧ ((cellsFrom (s.heap.objs.size + 1) scp.names []).lookup y.1).isSome = true) := fun ⟨n, v⟩ hy =>
    (S.par n (List.of_mem_zip hy).1).elim .inl fun z => .inr ⟨z, PySem.W.cellsFrom_some _ _ _ (.inl z)⟩
  refine codeAny_call_function room.depth (big _ _ lk) rfl S.co S.gen rfl (PySem.W.codeRec_of big cd0) (bnd _ _ _ _ (wpAny_newFunctionEnv_cells S.kind kinds fun env ee s1 xx => ?_))
  subst ee
  refine ⟨free.keeps xx.toInCall.keep, codeAny_func ?_⟩
  obtain ⟨ds, t, Φ, rds, hbt, hp, hq⟩ := prom
  have J : L2.Inv (cxOf CX0 P w K mg base N qual scp f cdv A outer s H E) [] (L2.start N vs) H s1 := inv_start S room.hd en0 (hlen vs H Q E ⟨ds, t, Φ, rds, hbt, hp, hq⟩) rel xx
  have run := PSs.nox (X := cxOf CX0 P w K mg base N qual scp f cdv A outer s H E) (semB (X := (cxOf CX0 P w K mg base N qual scp f cdv A outer s H E).nox) (sts := body))
  have body1 : SemB (cxOf CX0 P w K mg base N qual scp f cdv A outer s H E).nox body { nx := fun _ H' => Q .non H', rt := Q } (L2.start N vs) H :=
    hbody _ rfl rfl rfl rfl rfl gu ⟨rfl, fun _ z => z, fun _ z => z, fun _ z => z, fun _ z => z, rfl, S.nd, room.deeper _, fun _ _ => .inl rfl, PassesOwn.never⟩ rfl ds t Φ hp (L2.start N vs) H (envR_start N rds) hbt _ ⟨fun ρ' t' σ' H' n e b _ => hq _ _ t' H' n e b .non, fun d v t' H' h' e b r' => hq d v t' H' h' e b r'⟩
  refine wpAny_mono (run.run [] s1 (L2.start N vs) H _ J body1) (fun fl s' hs => ?_) fun _ _ hs => hs
  cases fl with
  | ret u =>
    obtain ⟨v, σ', H', J', rv, q'⟩ := hs
    exact ⟨v, H', J'.os, J'.bare, J'.base, J'.hok, rv, q'⟩
  | next =>
    obtain ⟨σ', H', J', q'⟩ := hs
    exact ⟨V.non, H', J'.os, J'.bare, J'.base, J'.hok, rfl, q'⟩
  | brk => exact False.elim hs.choose_spec.choose_spec.2
  | cont => exact False.elim hs.choose_spec.choose_spec.2
section
variable {X : Cx} {N : List Str} {sc : Scope} {kk : Nat} {ρ : Env'} {t : Nat} {Φ : D → Nat → Prop} {x : Str} {e : Expr} {es : List Expr} {p1 pos : Pos}
theorem we_callG {k : Nat} {p : Pr} (hgu : X.A.guards = some []) (B : Bod X N sc kk) (F : DfnG X x k p) (hg : sc.names.lookup x = some .globalImplicit) (hk : k ≤ kk) (h : WA X (e :: es) ρ t fun ds t1 => p ds t1 Φ) (hdb : (x == ("__debug__" : Str)) = false := by decide)
    (he : notStar e = true := by rfl) (hpl : noStars es = true := by rfl) : WE X (.Call (.Name x p1) (e :: es) [] pos) ρ t Φ := .mk fun σ H er hb Q q => by
  obtain ⟨f, fd, ps, mgf, kp, b, glen, grun⟩ := F.ex
  have pe : PE X (.Call (.Name x p1) (e :: es) [] pos) (fun σ H Q => SemA X (e :: es) σ H fun vs H1 => spS X.K p vs H1 Q fun _ _ _ => False) := by
    refine ⟨fun pins s σ H Q I hh => wpAny_Call_Name_kw (ld_glob I (gl_of B hg) mgf ?_ hdb)⟩
    refine PySem.W.callWith_K (h₀ := X.base) I.ok.mod.kin kp (thn (semA.run pos pins s σ H _ I hh) fun us s1 ⟨vs, H1, I1, r, q⟩ => ⟨I1.kIn, ?_⟩) (star_ok he) (star_any hpl)
    have hl : us.length = ps.length := by rw [← r.length]; exact glen _ _ _ _ q
    have b0 := b s1 us I1.kIn (by rw [List.append_nil]; exact hl)
    rw [List.append_nil] at b0
    refine wpAny_call (codeAny_mono (grun X.A X.stack s1 H1 ⟨us, []⟩ us vs Q _ hgu (B.room.mono hk) I1.env0 b0 r q) fun rr s' hq => ?_)
    cases rr with
    | error z => exact hq.elim
    | ok fl =>
      cases fl with
      | ret u => exact I1.after hq
      | next => exact hq.elim
      | brk => exact hq.elim
      | cont => exact hq.elim
  refine ofE pe ?_
  refine h σ H er hb _ fun ds vs t1 H1 h1 e1 b1 r1 => ?_
  exact ⟨ds, t1, Φ, r1, b1, h1, fun d v t2 H2 h2 e2 b2 r2 => q d v t2 H2 h2 (e1.trans e2) b2 r2⟩
end
end RS
/-! part RSRightM -/
namespace RS
open PySem L2
/-! ### what is told has no great figures -/
structure Ent.Fit (e : Ent) : Prop where
  lo : Sz 1600 e.lo
  hi : Sz 1600 e.hi
  tlo : Sz 1600 e.tlo
  thi : Sz 1600 e.thi
  err : Sz 1600 e.err
  g : ∀ a, e.g = some a → a.natAbs ≤ 2000
theorem Ent.Fit.big {e : Ent} (h : e.Fit) : e.Big := ⟨h.lo.le (by decide), h.hi.le (by decide), h.tlo.le (by decide), h.thi.le (by decide), h.err.le (by decide)⟩
section
open Classical
variable {r : Ruler} {lo hi tlo thi err : Rat} {g : Option Int} {x y u v : Ent}
theorem last_fit (h : r.Ok) (h1 : Low lo) (h2 : Low hi) (h3 : Low tlo) (h4 : Low thi) (h5 : Mid err) (hg : GB g) : (lastEnt r lo hi tlo thi err g).Fit := by
  have hap : Sz 701 (apart lo hi tlo thi) := (h2.sub h3).max (h4.sub h1)
  have l1 := h.l1
  refine ⟨h1.le (by decide), h2.le (by decide), h3.le (by decide), h4.le (by decide), (h5.min hap.m).le (by decide), fun a ha => ?_⟩
  have ha : lastGrain r lo hi g = some a := ha
  unfold lastGrain at ha
  cases e : grainSpan r lo hi with
  | none => rw [e] at ha; cases ha
  | some o =>
    rw [e] at ha
    have hb := grainSpan_le h h1.abs_lt h2.abs_lt e
    cases g with
    | none =>
      cases ha
      omega
    | some b =>
      have hb2 := hg b rfl
      have : max o b = a := Option.some.inj ha
      omega
theorem round_fit (h : r.Ok) (h1 : Sz 310 lo) (h2 : Sz 310 hi) (h3 : Low tlo) (h4 : Low thi) (h5 : Sz 800 err) (hg : GB g) : (roundEnt r lo hi tlo thi err g).Fit :=
  last_fit h (h1.rnd h) (h2.rnd h) h3 h4 (h5.add (Sz.slack h (g := g) h1 h2)).m hg
theorem gb_none : GB none := fun _ z => nomatch z
theorem Ent.Ok.gb (h : x.Ok) : GB x.g := fun a ha => by have := h.g a ha; omega
theorem gb_less' {g g' : Option Int} (h : GB g) (h' : GB g') : GB (lessGrain g g') := by
  intro a ha
  cases g with
  | none => exact h' a ha
  | some b =>
    have b1 := h b rfl
    cases g' with
    | none => cases ha; exact b1
    | some c =>
      have c1 := h' c rfl
      have : min b c = a := Option.some.inj ha
      omega
theorem pick_fit (h : r.Ok) (hu : u.Ok) (hv : v.Ok) (same : Bool) : (pickEnt r x y u v same).Fit := by
  have e1 := fun s => sel_ok hu hv s
  refine last_fit h ((e1 _).lo.min (e1 _).lo).l ((e1 _).hi.max (e1 _).hi).l ((e1 _).tlo.min (e1 _).tlo).l ((e1 _).thi.max (e1 _).thi).l ?_ (gb_less' (e1 _).gb (e1 _).gb)
  have hin : ∀ s e (l : List Bool), Sz 301 e → Sz 301 (l.foldl (fun e t => max e (far u v same s t)) e) := fun s e l he => fold_keep (P := Sz 301) (fun e t he => he.max (sz_far hu hv same s t)) l e he
  exact (fold_keep (P := Sz 301) (fun e s he => hin s e _ he) _ 0 (Sz.zero.le (by decide))).m
theorem tell_fit (h : r.Ok) {w : Wk} {kn : Str → Ent} (hw : w.Ok) (hk : ∀ a ∈ w.names, (kn a).Ok) {e : Ent} (he : w.tell r kn = some e) : e.Fit := by
  cases w with
  | num c =>
    cases he
    have hw : Sz 150 c := hw
    exact round_fit h (hw.le (by decide)) (hw.le (by decide)) hw.l hw.l (Sz.zero.le (by decide)) gb_none
  | two w a b =>
    have hx := hk a (by simp [Wk.names])
    have hy := hk b (by simp [Wk.names])
    cases w with
    | plus => cases he; exact round_fit h ((hx.lo.add hy.lo).le (by decide)) ((hx.hi.add hy.hi).le (by decide)) (hx.tlo.add hy.tlo).l (hx.thi.add hy.thi).l ((hx.err.add hy.err).le (by decide)) (gb_less hx hy)
    | less => cases he; exact round_fit h ((hx.lo.add hy.hi.neg).le (by decide)) ((hx.hi.add hy.lo.neg).le (by decide)) (hx.tlo.add hy.thi.neg).l (hx.thi.add hy.tlo.neg).l ((hx.err.add hy.err).le (by decide)) (gb_less hx hy)
    | times =>
      cases he
      exact round_fit h ((sz_mulLo hx.lo hx.hi hy.lo hy.hi).le (by decide)) ((sz_mulHi hx.lo hx.hi hy.lo hy.hi).le (by decide)) (sz_mulLo hx.tlo hx.thi hy.tlo hy.thi).l (sz_mulHi hx.tlo hx.thi hy.tlo hy.thi).l ((((hx.lo.great hx.hi).mul hy.err).add ((hy.tlo.great hy.thi).mul hx.err)).le (by decide)) (gb_both hx hy)
    | over =>
      have he : (if byNought (kn b) then none else some (quotEnt r (kn a) (kn b))) = some e := he
      split at he
      · cases he
      · cases he
        exact round_fit h ((sz_divLo hx.lo hx.hi hy.lo hy.hi).le (by decide)) ((sz_divHi hx.lo hx.hi hy.lo hy.hi).le (by decide)) (sz_divLo hx.tlo hx.thi hy.tlo hy.thi).l (sz_divHi hx.tlo hx.thi hy.tlo hy.thi).l (((((sz_divLo hx.lo hx.hi hy.lo hy.hi).great (sz_divHi hx.lo hx.hi hy.lo hy.hi)).mul hy.err).add hx.err |>.div (hy.tlo.small hy.thi (by decide))).le (by decide)) gb_none
    | least => cases he; exact last_fit h (hx.lo.min hy.lo).l (hx.hi.min hy.hi).l (hx.tlo.min hy.tlo).l (hx.thi.min hy.thi).l (hx.err.max hy.err).m (gb_less hx hy)
    | most => cases he; exact last_fit h (hx.lo.max hy.lo).l (hx.hi.max hy.hi).l (hx.tlo.max hy.tlo).l (hx.thi.max hy.thi).l (hx.err.max hy.err).m (gb_less hx hy)
  | one w a =>
    have hx := hk a (by simp [Wk.names])
    cases w with
    | turned => cases he; exact last_fit h hx.hi.neg.l hx.lo.neg.l hx.thi.neg.l hx.tlo.neg.l hx.err.m hx.gb
    | size => cases he; exact last_fit h (hx.lo.small hx.hi (by decide)).l (hx.lo.great hx.hi).l (hx.tlo.small hx.thi (by decide)).l (hx.tlo.great hx.thi).l hx.err.m hx.gb
  | pick a b c d =>
    cases he
    exact pick_fit h (hk c (by simp [Wk.names])) (hk d (by simp [Wk.names])) _
theorem Holds.refl (x : Ent) : Holds x x := ⟨Rat.le_refl, Rat.le_refl, Rat.le_refl, Rat.le_refl, Rat.le_refl, fun b hb => ⟨b, hb, Int.le_refl _⟩⟩
/-- what wider entries tell, holds what narrower ones tell -/
theorem tell_mono (h : r.Ok) {w : Wk} {kw kn : Str → Ent} (hp : ∀ a ∈ w.names, Pair r (kw a) (kn a)) {E : Ent} (hE : w.tell r kw = some E) : ∃ e, w.tell r kn = some e ∧ Holds E e := by
  cases w with
  | num c => cases hE; exact ⟨_, rfl, Holds.refl _⟩
  | two w a b =>
    have hx := hp a (by simp [Wk.names])
    have hy := hp b (by simp [Wk.names])
    cases w with
    | plus => cases hE; exact ⟨_, rfl, sum_holds h hx hy⟩
    | less => cases hE; exact ⟨_, rfl, diff_holds h hx hy⟩
    | times => cases hE; exact ⟨_, rfl, prod_holds h hx hy⟩
    | over =>
      have hE : (if byNought (kw b) then none else some (quotEnt r (kw a) (kw b))) = some E := hE
      split at hE
      · cases hE
      · rename_i hn
        cases hE
        exact ⟨_, if_neg (byNought_mono hy hn), quot_holds h hx hy hn⟩
    | least => cases hE; exact ⟨_, rfl, least_holds h hx hy⟩
    | most => cases hE; exact ⟨_, rfl, most_holds h hx hy⟩
  | one w a =>
    have hx := hp a (by simp [Wk.names])
    cases w with
    | turned => cases hE; exact ⟨_, rfl, turned_holds h hx⟩
    | size => cases hE; exact ⟨_, rfl, size_holds h hx⟩
  | pick a b c d => cases hE; exact ⟨_, rfl, pick_holds h (hp a (by simp [Wk.names])) (hp b (by simp [Wk.names])) (hp c (by simp [Wk.names])) (hp d (by simp [Wk.names])) _⟩
end
/-! ### it can be shown -/
theorem log_lt {n : Nat} (h : n < 2 ^ 1600) : n.log2 < 1920 := PySem.Flt.log2_lt_of (by decide) (Nat.lt_of_lt_of_le h (Nat.pow_le_pow_right (by decide) (by decide)))
theorem int_shows {i : Int} (h : i.natAbs.log2 < 1920) : PyData.showable (.int i) = true ∧ PyData.leavesShort 1921 (.int i) = true := by
  refine ⟨by simpa [PyData.showable] using h, ?_⟩
  have := PyProof.Rows.int_text_len_1921 h
  simpa [PyData.leavesShort, PyData.shown] using this
theorem fr_shows {q : Rat} (h : Sz 1600 q) : PyData.showable (fr q).py = true ∧ PyData.leavesShort 1921 (fr q).py = true := by
  have a := int_shows (log_lt h.1)
  have b := int_shows (i := (q.den : Int)) (log_lt h.2)
  constructor
  · simp [fr, D.py, D.pyL, PyData.showable, PyData.showableAll] at a b ⊢
    exact ⟨a.1, b.1⟩
  · simp [fr, D.py, D.pyL, PyData.leavesShort, PyData.leavesShortAll] at a b ⊢
    exact ⟨a.2, b.2⟩
theorem en_shows {e : Ent} (h : e.Fit) : Shows (en e).py := by
  obtain ⟨lo, hi, tlo, thi, err, g⟩ := e
  have a1 := fr_shows h.lo; have a2 := fr_shows h.hi; have a3 := fr_shows h.tlo; have a4 := fr_shows h.thi; have a5 := fr_shows h.err
  dsimp only at a1 a2 a3 a4 a5
  have a6 : PyData.showable (gr g).py = true ∧ PyData.leavesShort 1921 (gr g).py = true := by
    cases g with
    | none => exact ⟨rfl, rfl⟩
    | some b =>
      have hb := h.g b rfl
      exact int_shows (log_lt (Nat.lt_of_le_of_lt hb (Nat.lt_of_lt_of_le (show 2000 < 2 ^ 11 by decide) (Nat.pow_le_pow_right (by decide) (by decide)))))
  have hs : (en ⟨lo, hi, tlo, thi, err, g⟩).py = .tuple [(fr lo).py, (fr hi).py, (fr tlo).py, (fr thi).py, (fr err).py, (gr g).py] := rfl
  rw [hs]
  have hl : PyData.leavesShort 1921 (.tuple [(fr lo).py, (fr hi).py, (fr tlo).py, (fr thi).py, (fr err).py, (gr g).py]) = true := by
    simp only [PyData.leavesShort, PyData.leavesShortAll, a1.2, a2.2, a3.2, a4.2, a5.2, a6.2, Bool.and_self]
  refine ⟨?_, ?_, ?_, ?_⟩
  · simp only [PyData.showable, PyData.showableAll, a1.1, a2.1, a3.1, a4.1, a5.1, a6.1, Bool.and_self]
  · cases g <;> rfl
  · cases g <;> (show _ ≤ 60; exact Nat.le_of_ble_eq_true rfl)
  · have hb := PyData.shown_le_bulk 1921 (by decide) _ hl
    have hk : PyData.bulk (.tuple [(fr lo).py, (fr hi).py, (fr tlo).py, (fr thi).py, (fr err).py, (gr g).py]) = 16 := by cases g <;> rfl
    rw [hk] at hb
    exact Nat.le_trans hb (by decide)
theorem told_shows {o : Option Ent} (h : ∀ e, o = some e → e.Fit) : Shows (told o).py ∧ ((told o) = .non ∨ ∃ l, told o = .tup l) ∧ (told o).plain = true := by
  cases o with
  | none => exact ⟨⟨rfl, rfl, by decide, by decide⟩, .inl rfl, rfl⟩
  | some e =>
    refine ⟨en_shows (h e rfl), .inr ⟨_, rfl⟩, ?_⟩
    obtain ⟨_, _, _, _, _, g⟩ := e
    cases g <;> rfl
end RS
/-! part RSRight -/
namespace RS
open PySem L2 PySem.Spec PyProof.Rows
theorem wv_copy {X : Cx} {N : List Str} {sc : Scope} {kk : Nat} {ρ : Env'} {e : Expr} {p1 pos : Pos} {kvs : List (Key × D)} (B : Bod X N sc kk) (hm : X.mg "dict" = none) (ha : WV X e ρ (.dic kvs)) (hg : sc.names.lookup ("dict" : Str) = some .globalImplicit) (he : notStar e = true := by rfl) : WV X (.Call (.Name "dict" p1) [e] [] pos) ρ (.dic kvs) := fun t Φ h => we_copy B hm ha h hg he
def worksL (x y u v : Str) (c : Rat) : List Wk := [.two .plus x y, .two .less x y, .two .less x x, .two .times x y, .two .times u u, .two .over x y, .two .over u v, .one .turned x, .one .size x, .two .least x u, .two .most x u, .pick x y u v, .pick u v x y, .pick x u x u, .num c]
def Wk.head : Wk → Str
  | .num _ => "number"
  | .two w _ _ => w.s
  | .one w _ => w.s
  | .pick _ _ _ _ => "pick"
theorem head_at (w : Wk) : ∃ rest, w.D = .tup (.str w.head :: rest) := by
  cases w <;> exact ⟨_, rfl⟩
theorem tell_none {r : Ruler} {w : Wk} {kn : Str → Ent} (h : w.tell r kn = none) : w.head = "over" := by
  cases w with
  | num c => cases h
  | two w a b => cases w <;> first | rfl | cases h
  | one w a => cases w <;> cases h
  | pick a b c d => cases h
theorem works_ok {x y u v : Str} {c : Rat} (hc : Sz 150 c) : ∀ w ∈ worksL x y u v c, w.Ok ∧ ∀ a ∈ w.names, a ∈ [x, y, u, v] := by
  intro w hw
  simp only [worksL, List.mem_cons, List.not_mem_nil, or_false] at hw
  rcases hw with rfl | rfl | rfl | rfl | rfl | rfl | rfl | rfl | rfl | rfl | rfl | rfl | rfl | rfl | rfl <;> refine ⟨?_, ?_⟩ <;> first
    | exact trivial
    | exact hc
    | (intro a ha; simp [Wk.names] at ha ⊢; first | done | (rcases ha with rfl | rfl | rfl | rfl <;> simp) | (rcases ha with rfl | rfl <;> simp) | (subst ha; simp))
theorem wk_at {l : List Wk} {j : Nat} {d : D} (h : (l.map Wk.D)[j]? = some d) : ∃ w, w ∈ l ∧ d = w.D := by
  rw [List.getElem?_map] at h
  cases e : l[j]? with
  | none => rw [e] at h; cases h
  | some x => rw [e] at h; exact ⟨x, List.mem_of_getElem? e, (Option.some.inj h).symm⟩
def p__law_right : Pr := det fun ds d => ∃ (r : Ruler) (x y u v : Str) (kn kw : Str → Ent) (kvsN kvsW : List (Key × D)) (c : Rat), ds = [rul r, .lst [.str x, .str y, .str u, .str v], .dic kvsN, .dic kvsW, fr c] ∧ r.Ok ∧ Sz 150 c ∧
  (∀ a ∈ [x, y, u, v], Kn kvsN kn a ∧ Kn kvsW kw a ∧ Pair r (kw a) (kn a)) ∧ d = .bl true
theorem ne_self {s : Str} : (!decide (s = s)) = false := by simp
theorem str_at {s : Str} {rest : List D} : atI (.str s :: rest) 0 = some (.str s) := by
  rw [atI_nat (by decide) (by rw [List.length_cons]; omega)]
  rfl
theorem sc__law_right : FnScope ["_law_ruler_here", "_law_names_here", "_law_narrow", "_law_wide", "_law_number_here", "_law_works", "_law_work", "_law_x", "_law_y", "_law_u", "_law_v", "_law_far", "_law_near"] ["_law_ruler_here", "_law_names_here", "_law_narrow", "_law_wide", "_law_number_here"] (defScope (top 92)) := ⟨rfl, rfl, rfl, by decide +kernel, rfl, by decide +kernel, by decide +kernel⟩
theorem b__law_right {X : Cx} (B : Bod X ["_law_ruler_here", "_law_names_here", "_law_narrow", "_law_wide", "_law_number_here", "_law_works", "_law_work", "_law_x", "_law_y", "_law_u", "_law_v", "_law_far", "_law_near"] (defScope (top 92)) 11) (hsc : X.env.scope = defScope (top 92)) (G__law_told : Dfn X "_law_told" 11 p__law_told) (G__law_holds : Dfn X "_law_holds" 2 p__law_holds) (m_repr : X.mg "repr" = none) (m_dict : X.mg "dict" = none) (hgu : X.A.guards = some []) : ∀ ds t Φ, p__law_right ds t Φ → WB X (defBody (top 92)) (ds.map some ++ List.replicate (13 - ds.length) none) t (fun _ t' => Φ .non t') Φ := by
  rintro _ t Φ ⟨_, ⟨r, x, y, u, v, kn, kw, kvsN, kvsW, c, rfl, hr, hc, hk, rfl⟩, h⟩
  refine wb_cons (ws_lst B (is := [7, 8, 9, 10]) (.cons rfl (.inl rfl) (.cons rfl (.inl rfl) (.cons rfl (.inl rfl) (.cons rfl (.inl rfl) .nil)))) hsc rfl ((wv_var B 1 rfl rfl (.inl rfl)) _ _ ⟨_, rfl, rfl, ?_⟩))
  refine wb_cons (ws_set B 5 rfl (.inl rfl) ((wv_lst (av_cons (wv_tup (av_cons wv_str (av_cons (wv_var B 7 rfl rfl (.inl rfl)) (av_cons (wv_var B 8 rfl rfl (.inl rfl)) av_nil))) (len_le rfl)) (av_cons (wv_tup (av_cons wv_str (av_cons (wv_var B 7 rfl rfl (.inl rfl)) (av_cons (wv_var B 8 rfl rfl (.inl rfl)) av_nil))) (len_le rfl)) (av_cons (wv_tup (av_cons wv_str (av_cons (wv_var B 7 rfl rfl (.inl rfl)) (av_cons (wv_var B 7 rfl rfl (.inl rfl)) av_nil))) (len_le rfl)) (av_cons (wv_tup (av_cons wv_str (av_cons (wv_var B 7 rfl rfl (.inl rfl)) (av_cons (wv_var B 8 rfl rfl (.inl rfl)) av_nil))) (len_le rfl)) (av_cons (wv_tup (av_cons wv_str (av_cons (wv_var B 9 rfl rfl (.inl rfl)) (av_cons (wv_var B 9 rfl rfl (.inl rfl)) av_nil))) (len_le rfl)) (av_cons (wv_tup (av_cons wv_str (av_cons (wv_var B 7 rfl rfl (.inl rfl)) (av_cons (wv_var B 8 rfl rfl (.inl rfl)) av_nil))) (len_le rfl)) av_nil)))))) (len_le rfl)) _ _ ?nx1s1))
  refine wb_cons (ws_set B 5 rfl (.inl rfl) ((wv_cat (wv_var B 5 rfl rfl (.inl rfl)) (wv_lst (av_cons (wv_tup (av_cons wv_str (av_cons (wv_var B 9 rfl rfl (.inl rfl)) (av_cons (wv_var B 10 rfl rfl (.inl rfl)) av_nil))) (len_le rfl)) (av_cons (wv_tup (av_cons wv_str (av_cons (wv_var B 7 rfl rfl (.inl rfl)) av_nil)) (len_le rfl)) (av_cons (wv_tup (av_cons wv_str (av_cons (wv_var B 7 rfl rfl (.inl rfl)) av_nil)) (len_le rfl)) (av_cons (wv_tup (av_cons wv_str (av_cons (wv_var B 7 rfl rfl (.inl rfl)) (av_cons (wv_var B 9 rfl rfl (.inl rfl)) av_nil))) (len_le rfl)) (av_cons (wv_tup (av_cons wv_str (av_cons (wv_var B 7 rfl rfl (.inl rfl)) (av_cons (wv_var B 9 rfl rfl (.inl rfl)) av_nil))) (len_le rfl)) av_nil))))) (len_le rfl)) (len_le rfl)) _ _ ?nx1s2))
  refine wb_cons (ws_set B 5 rfl (.inl rfl) ((wv_cat (wv_var B 5 rfl rfl (.inl rfl)) (wv_lst (av_cons (wv_tup (av_cons wv_str (av_cons (wv_var B 7 rfl rfl (.inl rfl)) (av_cons (wv_var B 8 rfl rfl (.inl rfl)) (av_cons (wv_var B 9 rfl rfl (.inl rfl)) (av_cons (wv_var B 10 rfl rfl (.inl rfl)) av_nil))))) (len_le rfl)) (av_cons (wv_tup (av_cons wv_str (av_cons (wv_var B 9 rfl rfl (.inl rfl)) (av_cons (wv_var B 10 rfl rfl (.inl rfl)) (av_cons (wv_var B 7 rfl rfl (.inl rfl)) (av_cons (wv_var B 8 rfl rfl (.inl rfl)) av_nil))))) (len_le rfl)) (av_cons (wv_tup (av_cons wv_str (av_cons (wv_var B 7 rfl rfl (.inl rfl)) (av_cons (wv_var B 9 rfl rfl (.inl rfl)) (av_cons (wv_var B 7 rfl rfl (.inl rfl)) (av_cons (wv_var B 9 rfl rfl (.inl rfl)) av_nil))))) (len_le rfl)) (av_cons (wv_tup (av_cons wv_str (av_cons (wv_var B 4 rfl rfl (.inl rfl)) av_nil)) (len_le rfl)) av_nil)))) (len_le rfl)) (len_le rfl)) _ _ ?nx1s3))
  refine wb_cons (ws_forL B 6 rfl (.inl rfl) (fun j ρ t' => t' = t ∧ ∃ a b d : Option D, ρ = [some (rul r), some (.lst [.str x, .str y, .str u, .str v]), some (.dic kvsN), some (.dic kvsW), some (fr c), some (.lst ((worksL x y u v c).map Wk.D)), a, some (.str x), some (.str y), some (.str u), some (.str v), b, d]) ((wv_var B 5 rfl rfl (.inl rfl)) _ _ ⟨(worksL x y u v c).map Wk.D, rfl, ⟨rfl, none, none, none, rfl⟩, ?_, ?_⟩))
  · rintro j d ρ t' hd ⟨rfl, a, b, d', rfl⟩
    obtain ⟨w, hw, rfl⟩ := wk_at hd
    obtain ⟨hwok, hwn⟩ := works_ok hc w hw
    have kN : ∀ a ∈ w.names, Kn kvsN kn a := fun a ha => (hk a (hwn a ha)).1
    have kW : ∀ a ∈ w.names, Kn kvsW kw a := fun a ha => (hk a (hwn a ha)).2.1
    have hp : ∀ a ∈ w.names, Pair r (kw a) (kn a) := fun a ha => (hk a (hwn a ha)).2.2
    have fitW : ∀ e, w.tell r kw = some e → e.Fit := fun e he => tell_fit hr hwok (fun a ha => (kW a ha).ok) he
    have fitN : ∀ e, w.tell r kn = some e → e.Fit := fun e he => tell_fit hr hwok (fun a ha => (kN a ha).ok) he
    obtain ⟨sh1, sh2, sh3⟩ := told_shows fitW
    obtain ⟨rest, hwd⟩ := head_at w
    refine wb_cons (ws_par B 11 12 rfl rfl (by decide) rfl rfl hsc rfl ((wv_call B G__law_told (av_cons (wv_var B 0 rfl rfl (.inl rfl)) (av_cons (wv_var B 6 rfl rfl (.inl rfl)) (av_cons (wv_var B 3 rfl rfl (.inl rfl)) av_nil))) ⟨r, w, kvsW, kw, rfl, hr, hwok, kW, rfl⟩ rfl) _ _ ((wv_call B G__law_told (av_cons (wv_var B 0 rfl rfl (.inl rfl)) (av_cons (wv_var B 6 rfl rfl (.inl rfl)) (av_cons (wv_var B 2 rfl rfl (.inl rfl)) av_nil))) ⟨r, w, kvsN, kn, rfl, hr, hwok, kN, rfl⟩ rfl) _ _ ?_)))
    cases hE : w.tell r kw with
    | none =>
      rw [hE] at sh1 sh2 sh3
      have hh := tell_none hE
      refine wb_cons (ws_ifF (tv_is (tv_ov (ov_andF (tv_is (tv_notN (wv_var B 11 rfl rfl (.inl rfl)) wv_non) rfl))) rfl) (wb_nil ?_))
      refine wb_one (ws_ifF (tv_is (tv_ov (ov_or (tv_ne (wv_repr hgu B m_repr (wv_call B G__law_told (av_cons (wv_var B 0 rfl rfl (.inl rfl)) (av_cons (wv_var B 6 rfl rfl (.inl rfl)) (av_cons (wv_copy B m_dict (wv_var B 3 rfl rfl (.inl rfl)) rfl) av_nil))) ⟨r, w, kvsW, kw, rfl, hr, hwok, kW, by rw [hE]⟩ rfl) sh2 sh3 sh1 rfl) (wv_repr hgu B m_repr (wv_var B 11 rfl rfl (.inl rfl)) sh2 sh3 sh1 rfl) rfl) fun _ => ov_or1 (tv_ov (ov_and (tv_ne (wv_ixT (wv_is (wv_var B 6 rfl rfl (.inl rfl)) hwd) wv_int str_at) wv_str rfl) fun _ => ov_and1 (tv_isN (wv_var B 11 rfl rfl (.inl rfl)) wv_non))))) ?z1) (wb_nil ⟨rfl, _, _, _, rfl⟩))
      case z1 => rw [hh]; simp
    | some E =>
      rw [hE] at sh1 sh2 sh3
      obtain ⟨e, he, hhold⟩ := tell_mono hr hp hE
      rw [he]
      refine wb_cons (ws_ifF (tv_is (tv_ov (ov_and (tv_notN (wv_var B 11 rfl rfl (.inl rfl)) wv_non) fun _ => ov_and1 (tv_ov (ov_or (tv_isN (wv_var B 12 rfl rfl (.inl rfl)) wv_non) fun _ => ov_or1 (tv_not (tv_val (wv_call B G__law_holds (av_cons (wv_var B 11 rfl rfl (.inl rfl)) (av_cons (wv_var B 12 rfl rfl (.inl rfl)) av_nil)) ⟨E, e, rfl, (fitW E hE).big, (fitN e he).big, hhold, rfl⟩ rfl))))))) rfl) (wb_nil ?_))
      refine wb_one (ws_ifF (tv_is (tv_ov (ov_or (tv_ne (wv_repr hgu B m_repr (wv_call B G__law_told (av_cons (wv_var B 0 rfl rfl (.inl rfl)) (av_cons (wv_var B 6 rfl rfl (.inl rfl)) (av_cons (wv_copy B m_dict (wv_var B 3 rfl rfl (.inl rfl)) rfl) av_nil))) ⟨r, w, kvsW, kw, rfl, hr, hwok, kW, by rw [hE]⟩ rfl) sh2 sh3 sh1 rfl) (wv_repr hgu B m_repr (wv_var B 11 rfl rfl (.inl rfl)) sh2 sh3 sh1 rfl) rfl) fun _ => ov_or1 (tv_ov (ov_and (tv_ne (wv_ixT (wv_is (wv_var B 6 rfl rfl (.inl rfl)) hwd) wv_int str_at) wv_str rfl) fun _ => ov_and1 (tv_isN (wv_var B 11 rfl rfl (.inl rfl)) wv_non))))) ?z2) (wb_nil ⟨rfl, _, _, _, rfl⟩))
      case z2 =>
        rw [show (told (some E)).isNon = false from rfl]
        simp
  · rintro ρ t' ⟨rfl, a, b, d', rfl⟩
    exact wb_one (ws_ret (wv_bl _ _ h))
end RS
/-! part RSLawTop -/
namespace RS
open PySem L2 PySem.Spec PyProof.Rows
theorem Narrow.ok {r : Ruler} (hr : r.Ok) {e : Ent} (h : Narrow r e) : e.Ok := ⟨(h.lo.sz hr).le (by decide), (h.hi.sz hr).le (by decide), h.tlo.le (by decide), h.thi.le (by decide), h.err.le (by decide), fun a ha => by have := h.g a ha; have := hr.l1; omega⟩
theorem WideOf.ok {r : Ruler} (hr : r.Ok) {w e : Ent} (h : WideOf r w e) : w.Ok := ⟨(h.lo.sz hr).le (by decide), (h.hi.sz hr).le (by decide), h.tlo.le (by decide), h.thi.le (by decide), h.err.le (by decide), fun a ha => by have := h.g a ha; have := hr.l1; omega⟩
theorem WideOf.ord {r : Ruler} {w e : Ent} (h : WideOf r w e) : w.lo ≤ w.hi ∧ w.tlo ≤ w.thi := by
  have h1 := h.pair.lo; have h2 := h.pair.hi; have h3 := h.pair.ord; have h4 := h.pair.tlo; have h5 := h.pair.thi; have h6 := h.pair.tord
  exact ⟨by grind, by grind⟩
/-- which entry stands under a name -/
def under (x y u : Str) (e1 e2 e3 e4 : Ent) (a : Str) : Ent := if a = x then e1 else if a = y then e2 else if a = u then e3 else e4
theorem look_cons {k a : Str} {d : D} {l : List (Key × D)} : dlook ((.inr k, d) :: l) (.inr a) = if k = a then some d else dlook l (.inr a) := by
  unfold dlook
  rw [List.find?_cons]
  by_cases h : k = a
  · subst h
    simp
  · have : decide ((Sum.inr k : Key) = Sum.inr a) = false := by simpa using h
    rw [this, if_neg h]
theorem look_under {x y u v : Str} (hn : [x, y, u, v].Nodup) (e1 e2 e3 e4 : Ent) : ∀ a ∈ [x, y, u, v], dlook (zipD [x, y, u, v] [en e1, en e2, en e3, en e4]) (.inr a) = some (en (under x y u e1 e2 e3 e4 a)) := by
  simp only [List.nodup_cons, List.mem_cons, List.not_mem_nil, or_false, not_or, not_false_eq_true, List.nodup_nil, and_true] at hn
  obtain ⟨⟨n1, n2, n3⟩, ⟨n4, n5⟩, n6⟩ := hn
  intro a ha
  simp only [List.mem_cons, List.not_mem_nil, or_false] at ha
  show dlook ((.inr x, en e1) :: (.inr y, en e2) :: (.inr u, en e3) :: (.inr v, en e4) :: []) (.inr a) = _
  unfold under
  rw [look_cons, look_cons, look_cons, look_cons]
  rcases ha with rfl | rfl | rfl | rfl
  · rw [if_pos rfl, if_pos rfl]
  · rw [if_neg n1, if_pos rfl, if_neg (Ne.symm n1), if_pos rfl]
  · rw [if_neg n2, if_neg n4, if_pos rfl, if_neg (Ne.symm n2), if_neg (Ne.symm n4), if_pos rfl]
  · rw [if_neg n3, if_neg n5, if_neg n6, if_pos rfl, if_neg (Ne.symm n3), if_neg (Ne.symm n5), if_neg (Ne.symm n6)]
theorem under_all {P : Ent → Ent → Prop} {x y u v : Str} {e1 e2 e3 e4 w1 w2 w3 w4 : Ent} (h1 : P w1 e1) (h2 : P w2 e2) (h3 : P w3 e3) (h4 : P w4 e4) (a : Str) : P (under x y u w1 w2 w3 w4 a) (under x y u e1 e2 e3 e4 a) := by
  unfold under
  split
  · exact h1
  · split
    · exact h2
    · split
      · exact h3
      · exact h4
theorem not_state {x y u v : Str} (h : x ∈ wordL) (c : V) (a b z : Int) (ys : List V) : HO.dK (zipK [x, y, u, v] ys) ≠ stD c a b z := fun e => by
  unfold stD at e
  injection e with e
  cases ys with
  | nil => cases e
  | cons y ys =>
    have e1 : ((Sum.inr x : Key), y) = ((Sum.inr ("cells" : Str) : Key), c) := (List.cons.inj e).1
    have e2 : x = "cells" := Sum.inr.inj (Prod.mk.inj e1).1
    subst e2
    exact absurd h (by decide +kernel)
theorem wv_lenS {X : Cx} {N : List Str} {sc : Scope} {kk : Nat} {ρ : Env'} {e : Expr} {p1 pos : Pos} {ns : List Int} (B : Bod X N sc kk) (hm : X.mg "len" = none) (ha : WV X e ρ (.scr ns)) (hg : sc.names.lookup ("len" : Str) = some .globalImplicit) (he : notStar e = true := by rfl) : WV X (.Call (.Name "len" p1) [e] [] pos) ρ (.int (ns.length : Int)) := fun t Φ h =>
  we_callB B call_len_seq rck_lenScr hm (by decide +kernel) hg ((av_cons ha av_nil he) _ _ ⟨ns, rfl, h⟩) (by decide) (by decide) he rfl
def p_law : Pr := fun ds t Φ => ∃ ns : List Int, ds = [.scr ns] ∧ ns.length ≤ 63 ∧ t = 0 ∧ ∀ t', Φ (.bl true) t'
theorem four {α : Type} {l : List α} (h : l.length = 4) : ∃ a b c d, l = [a, b, c, d] := by
  match l, h with
  | [a, b, c, d], _ => exact ⟨a, b, c, d, rfl⟩
theorem str_at' {l : List Str} {j : Nat} {d : D} (h : (l.map D.str)[j]? = some d) : ∃ s, l[j]? = some s ∧ d = .str s := by
  rw [List.getElem?_map] at h
  cases e : l[j]? with
  | none => rw [e] at h; cases h
  | some x => rw [e] at h; exact ⟨x, rfl, (Option.some.inj h).symm⟩
theorem en_at {l : List Ent} {j : Nat} {d : D} (h : (l.map en)[j]? = some d) : ∃ s, l[j]? = some s ∧ d = en s := by
  rw [List.getElem?_map] at h
  cases e : l[j]? with
  | none => rw [e] at h; cases h
  | some x => rw [e] at h; exact ⟨x, rfl, (Option.some.inj h).symm⟩
theorem sc_law : FnScope ["_law_script", "_law_state", "_law_many", "_law_k", "_law_turn", "_law_narrow", "_law_wide", "_law_ruler_here", "_law_names_here", "_law_name", "_law_entry_here"] ["_law_script"] (defScope (top 93)) := ⟨rfl, rfl, rfl, by decide +kernel, rfl, by decide +kernel, by decide +kernel⟩
theorem b_law {X : Cx} (B : Bod X ["_law_script", "_law_state", "_law_many", "_law_k", "_law_turn", "_law_narrow", "_law_wide", "_law_ruler_here", "_law_names_here", "_law_name", "_law_entry_here"] (defScope (top 93)) 12) (hsc : X.env.scope = defScope (top 93)) (G__law_begun : Dfn X "_law_begun" 1 p__law_begun) (G__law_open : Dfn X "_law_open" 2 p__law_open) (G__law_ruler : Dfn X "_law_ruler" 3 p__law_ruler) (G__law_names : Dfn X "_law_names" 3 p__law_names) (G__law_entry : Dfn X "_law_entry" 5 p__law_entry) (G__law_wider : Dfn X "_law_wider" 4 p__law_wider) (G__law_right : DfnG X "_law_right" 12 p__law_right) (G__law_number : Dfn X "_law_number" 3 p__law_number) (m_max : X.mg "max" = none) (m_range : X.mg "range" = none) (m_min : X.mg "min" = none) (m_len : X.mg "len" = none) (m_dict : X.mg "dict" = none) (m_zip : X.mg "zip" = none) (hgu : X.A.guards = some []) : ∀ ds t Φ, p_law ds t Φ → WB X (defBody (top 93)) (ds.map some ++ List.replicate (11 - ds.length) none) t (fun _ t' => Φ .non t') Φ := by
  rintro _ t Φ ⟨ns, rfl, hn, rfl, h⟩
  refine wb_cons (ws_set B 1 rfl (.inr rfl) (we_call B G__law_begun rfl (by decide) (wa_cons ((wv_var B 0 rfl rfl (.inl rfl)) _ _ (wa_nil ⟨ns, rfl, ?_⟩)))))
  refine wb_cons (ws_set B 2 rfl (.inl rfl) ((wv_max2 B m_max (av_cons wv_int (av_cons (wv_min2 B m_min (av_cons (wv_lenS B m_len (wv_var B 0 rfl rfl (.inl rfl)) rfl) (av_cons wv_int av_nil)) rfl) av_nil)) rfl) _ _ ?_))
  have hm1 : 1 ≤ max 1 (min (ns.length : Int) 4) := by omega
  have hm2 : max 1 (min (ns.length : Int) 4) ≤ 4 := by omega
  generalize max 1 (min (ns.length : Int) 4) = many at *
  refine wb_cons (ws_forR B 3 rfl (.inl rfl) (fun j ρ t' => t' ≤ j * 1000 ∧ ∃ a b c d e f : Option D, ρ = [some (.scr ns), some (.stt ns), some (.int many), a, b, c, d, e, f, none, none]) rfl m_range ((wv_var B 2 rfl rfl (.inl rfl)) _ _ ⟨many, rfl, by omega, by omega, ⟨by omega, none, none, none, none, none, none, rfl⟩, ?_, ?_⟩))
  · rintro k ρ t1 hk ⟨ht1, a, b, c, d, e, f, rfl⟩
    refine wb_cons (ws_expr (we_call B G__law_open rfl (by decide) (wa_cons ((wv_var B 1 rfl rfl (.inr (.inl rfl))) _ _ (wa_cons ((wv_var B 3 rfl rfl (.inl rfl)) _ _ (wa_cons ((wv_var B 2 rfl rfl (.inl rfl)) _ _ (wa_nil ⟨ns, (k : Int), many, rfl, hn, by omega, by omega, hm1, ?_⟩)))))))))
    refine wb_one (ws_forR B 4 rfl (.inl rfl) (fun j ρ t' => t' ≤ k * 1000 + j * 400 ∧ ∃ b c d e f : Option D, ρ = [some (.scr ns), some (.stt ns), some (.int many), some (.int (k : Int)), b, c, d, e, f, none, none]) rfl m_range (wv_int _ _ ⟨2, rfl, by decide, by decide, ⟨by omega, b, c, d, e, f, rfl⟩, ?_, ?_⟩))
    · rintro i ρ t2 hi ⟨ht2, b, c, d, e, f, rfl⟩
      have hi2 : i < 2 := hi
      refine wb_cons (ws_tup B (is := [7, 8]) (.cons rfl (.inr rfl) (.cons rfl (.inl rfl) .nil)) hsc rfl (we_tup (wa_cons (we_call B G__law_ruler rfl (by decide) (wa_cons ((wv_var B 1 rfl rfl (.inr (.inl rfl))) _ _ (wa_nil ⟨ns, rfl, by omega, fun r hr => wa_cons (we_call B G__law_names rfl (by decide) (wa_cons ((wv_var B 1 rfl rfl (.inr (.inl rfl))) _ _ (wa_cons (wv_int _ _ (wa_nil ⟨ns, rfl, by omega, fun l hl hnd hwl => wa_nil ⟨len_le rfl, _, rfl, rfl, ?_⟩⟩))))))⟩)))))))
      obtain ⟨x, y, u, v, rfl⟩ := four hl
      refine wb_cons (ws_mono (Nx := fun ρ1 t3 => t3 ≤ t2 + 4 + 2 + 160 ∧ ∃ es : List Ent, es.length = 4 ∧ (∀ e ∈ es, Narrow r e) ∧ ρ1 = [some (.scr ns), some (.stt ns), some (.int many), some (.int (k : Int)), some (.int (i : Int)), some (.lst (es.map en)), d, some (rul r), some (.lst [.str x, .str y, .str u, .str v]), none, none]) (ws_setLc B (i := 9) (k := 5) rfl (by rw [hsc]; decide +kernel) (by rw [hsc]; rfl) rfl rfl (pi_list semE) (by rw [hsc]; exact ⟨rfl, by decide +kernel, by decide +kernel, by decide +kernel, by decide +kernel⟩) rfl rfl (fun σ H er hb Q hq => lcL_run (Φ := fun d' t3 => t3 ≤ t2 + 4 + 2 + 160 ∧ ∃ es : List Ent, es.length = 4 ∧ (∀ e ∈ es, Narrow r e) ∧ ([some (.scr ns), some (.stt ns), some (.int many), some (.int (k : Int)), some (.int (i : Int)), c, d, some (rul r), some (.lst [.str x, .str y, .str u, .str v]), none, none] : Env').set 5 (some d') = [some (.scr ns), some (.stt ns), some (.int many), some (.int (k : Int)), some (.int (i : Int)), some (.lst (es.map en)), d, some (rul r), some (.lst [.str x, .str y, .str u, .str v]), none, none]) B (fun j acc t3 => t3 ≤ t2 + 4 + 2 + 40 * j ∧ ∃ es : List Ent, es.length = j ∧ (∀ e ∈ es, Narrow r e) ∧ acc = es.map en) ?lc1 er hb hq)) ?m1)
      case lc1 =>
        refine (wv_var B 8 rfl rfl (.inl rfl)) _ _ ⟨_, rfl, Nat.le_of_ble_eq_true rfl, ⟨by omega, [], rfl, (fun _ z => by cases z), rfl⟩, ?_, ?_⟩
        · rintro j d' acc t3 hd ⟨ht3, es, hes, hN, rfl⟩
          have hj : j < 4 := (List.getElem?_eq_some_iff.mp hd).1
          intro X' bl
          refine ⟨fun _ X2 b2 => ?_, fun z => nomatch z⟩
          refine we_call (b2.bod B) (b2.dfn G__law_entry) rfl (by decide) (wa_cons ((wv_var (b2.bod B) 1 rfl rfl (.inr (.inr rfl))) _ _ (wa_cons ((wv_var (b2.bod B) 7 rfl rfl (.inr (.inr rfl))) _ _ (wa_nil ⟨ns, r, rfl, hr, by omega, fun e t4 hNe h1 h2 => ⟨flat_en e, by omega, es ++ [e], by rw [List.length_append, hes]; rfl, ?_, by rw [List.map_append]; rfl⟩⟩)))))
          intro e' he'
          rcases List.mem_append.mp he' with z | z
          · exact hN e' z
          · simp only [List.mem_cons, List.not_mem_nil, or_false] at z
            rw [z]
            exact hNe
        · rintro acc t3 _ ⟨ht3, es, hes, hN, rfl⟩
          have ht3 : t3 ≤ t2 + 4 + 2 + 40 * 4 := ht3
          exact ⟨by omega, es, hes, hN, rfl⟩
      case m1 =>
        rintro ρ' t3 ⟨ht3, es, hes, hN, rfl⟩
        refine wb_cons (ws_mono (Nx := fun ρ1 t4 => t4 ≤ t3 + 40 ∧ ∃ ws : List Ent, ws.length = 4 ∧ (∀ (q : Nat) e w, es[q]? = some e → ws[q]? = some w → WideOf r w e) ∧ ρ1 = [some (.scr ns), some (.stt ns), some (.int many), some (.int (k : Int)), some (.int (i : Int)), some (.lst (es.map en)), some (.lst (ws.map en)), some (rul r), some (.lst [.str x, .str y, .str u, .str v]), none, none]) (ws_setLc B (i := 10) (k := 6) rfl (by rw [hsc]; decide +kernel) (by rw [hsc]; rfl) rfl rfl (pi_list semE) (by rw [hsc]; exact ⟨rfl, by decide +kernel, by decide +kernel, by decide +kernel, by decide +kernel⟩) rfl rfl (fun σ H er hb Q hq => lcL_run (Φ := fun d' t4 => t4 ≤ t3 + 40 ∧ ∃ ws : List Ent, ws.length = 4 ∧ (∀ (q : Nat) e w, es[q]? = some e → ws[q]? = some w → WideOf r w e) ∧ ([some (.scr ns), some (.stt ns), some (.int many), some (.int (k : Int)), some (.int (i : Int)), some (.lst (es.map en)), d, some (rul r), some (.lst [.str x, .str y, .str u, .str v]), none, none] : Env').set 6 (some d') = [some (.scr ns), some (.stt ns), some (.int many), some (.int (k : Int)), some (.int (i : Int)), some (.lst (es.map en)), some (.lst (ws.map en)), some (rul r), some (.lst [.str x, .str y, .str u, .str v]), none, none]) B (fun j acc t4 => t4 ≤ t3 + 10 * j ∧ ∃ ws : List Ent, ws.length = j ∧ (∀ (q : Nat) e w, es[q]? = some e → ws[q]? = some w → WideOf r w e) ∧ acc = ws.map en) ?lc2 er hb hq)) ?m2)
        case lc2 =>
          refine (wv_var B 5 rfl rfl (.inl rfl)) _ _ ⟨_, rfl, by rw [List.length_map]; omega, ⟨by omega, [], rfl, (fun q e w _ z => by simp at z), rfl⟩, ?_, ?_⟩
          · rintro j d' acc t4 hd ⟨ht4, ws, hws, hW, rfl⟩
            obtain ⟨e0, he0, rfl⟩ := en_at hd
            have hj : j < es.length := (List.getElem?_eq_some_iff.mp he0).1
            have hN0 := hN e0 (List.mem_of_getElem? he0)
            intro X' bl
            refine ⟨fun _ X2 b2 => ?_, fun z => nomatch z⟩
            refine we_call (b2.bod B) (b2.dfn G__law_wider) rfl (by decide) (wa_cons ((wv_var (b2.bod B) 1 rfl rfl (.inr (.inr rfl))) _ _ (wa_cons ((wv_var (b2.bod B) 7 rfl rfl (.inr (.inr rfl))) _ _ (wa_cons ((wv_var (b2.bod B) 10 rfl rfl (.inl rfl)) _ _ (wa_nil ⟨ns, r, e0, rfl, hr, hN0, by omega, fun w0 t5 hw0 h1 h2 => ⟨flat_en w0, by omega, ws ++ [w0], by rw [List.length_append, hws]; rfl, ?_, by rw [List.map_append]; rfl⟩⟩)))))))
            intro q e w he hw
            rw [List.getElem?_append] at hw
            split at hw
            · exact hW q e w he hw
            · rename_i hq
              have hq0 : q - ws.length = 0 := by
                have := (List.getElem?_eq_some_iff.mp hw).1
                simpa using this
              have hqj : q = j := by omega
              rw [hq0] at hw
              cases hw
              rw [hqj, he0] at he
              cases he
              exact hw0
          · rintro acc t4 _ ⟨ht4, ws, hws, hW, rfl⟩
            rw [List.length_map] at ht4 hws
            exact ⟨by omega, ws, by omega, hW, rfl⟩
        case m2 =>
          rintro ρ' t4 ⟨ht4, ws, hws, hW, rfl⟩
          obtain ⟨e1, e2, e3, e4, rfl⟩ := four hes
          obtain ⟨w1, w2, w3, w4, rfl⟩ := four hws
          have o1 := hW 0 e1 w1 rfl rfl
          have o2 := hW 1 e2 w2 rfl rfl
          have o3 := hW 2 e3 w3 rfl rfl
          have o4 := hW 3 e4 w4 rfl rfl
          have n1 := hN e1 (by simp)
          have n2 := hN e2 (by simp)
          have n3 := hN e3 (by simp)
          have n4 := hN e4 (by simp)
          have hst := fun c a b z ys => not_state (x := x) (y := y) (u := u) (v := v) (hwl x (by simp)) c a b z ys
          have kN : ∀ a ∈ [x, y, u, v], Kn (zipD [x, y, u, v] [en e1, en e2, en e3, en e4]) (under x y u e1 e2 e3 e4) a := fun a ha =>
            have q := under_all (P := fun _ e => e.Ok ∧ e.lo ≤ e.hi ∧ e.tlo ≤ e.thi) (x := x) (y := y) (u := u) (v := v) (w1 := w1) (w2 := w2) (w3 := w3) (w4 := w4) ⟨n1.ok hr, n1.ord, n1.tord⟩ ⟨n2.ok hr, n2.ord, n2.tord⟩ ⟨n3.ok hr, n3.ord, n3.tord⟩ ⟨n4.ok hr, n4.ord, n4.tord⟩ a
            ⟨look_under hnd e1 e2 e3 e4 a ha, q.1, q.2.1, q.2.2⟩
          have kW : ∀ a ∈ [x, y, u, v], Kn (zipD [x, y, u, v] [en w1, en w2, en w3, en w4]) (under x y u w1 w2 w3 w4) a := fun a ha =>
            have q := under_all (P := fun _ e => e.Ok ∧ e.lo ≤ e.hi ∧ e.tlo ≤ e.thi) (x := x) (y := y) (u := u) (v := v) (w1 := e1) (w2 := e2) (w3 := e3) (w4 := e4) ⟨o1.ok hr, o1.ord⟩ ⟨o2.ok hr, o2.ord⟩ ⟨o3.ok hr, o3.ord⟩ ⟨o4.ok hr, o4.ord⟩ a
            ⟨look_under hnd w1 w2 w3 w4 a ha, q.1, q.2.1, q.2.2⟩
          have hP : ∀ a, Pair r (under x y u w1 w2 w3 w4 a) (under x y u e1 e2 e3 e4 a) := under_all (P := fun w e => Pair r w e) (v := v) o1.pair o2.pair o3.pair o4.pair
          refine wb_one (ws_if (wt_not (wt_val (we_callG hgu B G__law_right rfl (by decide) (wa_cons ((wv_var B 7 rfl rfl (.inr (.inl rfl))) _ _ (wa_cons ((wv_var B 8 rfl rfl (.inl rfl)) _ _ (wa_cons (we_dictZip (ns := [x, y, u, v]) (l := [en e1, en e2, en e3, en e4]) B m_dict m_zip (wv_var B 8 rfl rfl (.inl rfl)) (wv_var B 5 rfl rfl (.inl rfl)) rfl (by show 4 ≤ 15; decide) hnd hst (wa_cons (we_dictZip (ns := [x, y, u, v]) (l := [en w1, en w2, en w3, en w4]) B m_dict m_zip (wv_var B 8 rfl rfl (.inl rfl)) (wv_var B 6 rfl rfl (.inl rfl)) rfl (by show 4 ≤ 15; decide) hnd hst (wa_cons (we_call B G__law_number rfl (by decide) (wa_cons ((wv_var B 1 rfl rfl (.inr (.inl rfl))) _ _ (wa_nil ⟨ns, rfl, by omega, fun cc hcc => wa_nil ⟨.bl true, ⟨r, x, y, u, v, _, _, _, _, cc, rfl, hr, hcc.le (by decide), fun a ha => ⟨kN a ha, kW a ha, hP a⟩, rfl⟩, true, rfl, fun z => (nomatch z), fun _ => wb_nil ⟨?_, _, _, _, _, _, rfl⟩⟩⟩))))) rfl rfl)) rfl rfl))))))))))
          omega
    · rintro ρ t2 ⟨ht2, b, c, d, e, f, rfl⟩
      have e2 : (2 : Int).toNat = 2 := rfl
      rw [e2] at ht2
      exact ⟨by omega, _, _, _, _, _, _, rfl⟩
  · rintro ρ t1 ⟨ht1, a, b, c, d, e, f, rfl⟩
    exact wb_one (ws_ret (wv_bl _ _ (h _)))
end RS
/-! part RSHead -/
namespace RS
open PySem PySem.Spec PyProof.Rows L2
/-! ### promises behind the top, for all bodies -/
def Has (P : Program) (w : World) (K : PySem.W.Frag) (mg : Str → Option Value) (base : Heap) (n : Str) (k : Nat) (p : Pr) : Prop := ∃ f fd ps, mg n = some (.ref f) ∧ PySem.W.keepIn K (.ref f) = true ∧ Binds K fd ps [] ∧ FnOk P w K mg base CX0 k f fd ps (spS K p)
def HasX (P : Program) (w : World) (K : PySem.W.Frag) (mg : Str → Option Value) (base : Heap) (CN : Addr) (n : Str) (k : Nat) (p : PrX) : Prop := ∃ f fd ps, mg n = some (.ref f) ∧ PySem.W.keepIn K (.ref f) = true ∧ Binds K fd ps [] ∧ FnOk P w K mg base (L2.CX P w) k f fd ps (spX K CN p)
def HasG (P : Program) (w : World) (K : PySem.W.Frag) (mg : Str → Option Value) (base : Heap) (n : Str) (k : Nat) (p : Pr) : Prop := ∃ f fd ps, mg n = some (.ref f) ∧ PySem.W.keepIn K (.ref f) = true ∧ Binds K fd ps [] ∧ FnG P w K mg base k f fd ps (spS K p)
/-- a context of this world -/
structure In (X : Cx) (P : Program) (w : World) (K : PySem.W.Frag) (mg : Str → Option Value) (base : Heap) : Prop where
  p : X.prog = P
  w : X.w = w
  k : X.K = K
  m : X.mg = mg
  b : X.base = base
section
variable {X : Cx} {P : Program} {w : World} {K : PySem.W.Frag} {mg : Str → Option Value} {base : Heap} {CN : Addr} {n : Str} {k : Nat} {d : D}
theorem Has.to {p : Pr} (h : Has P w K mg base n k p) (i : In X P w K mg base) : Dfn X n k p := by
  obtain ⟨rfl, rfl, rfl, rfl, rfl⟩ := i
  exact ⟨h⟩
theorem HasX.to {p : PrX} (h : HasX P w K mg base CN n k p) (i : In X P w K mg base) : DfnX X CN n k p := by
  obtain ⟨rfl, rfl, rfl, rfl, rfl⟩ := i
  exact ⟨h⟩
theorem HasG.to {p : Pr} (h : HasG P w K mg base n k p) (i : In X P w K mg base) : DfnG X n k p := by
  obtain ⟨rfl, rfl, rfl, rfl, rfl⟩ := i
  exact ⟨h⟩
theorem free_to {x : Str} (h : mg x = none) (i : In X P w K mg base) : X.mg x = none := by rw [i.m]; exact h
theorem glb_to {x : Str} (h : ∃ v u, mg x = some u ∧ RelV v u ∧ ∀ H, Rp K H d v) (i : In X P w K mg base) : Glb X x d := by
  obtain ⟨rfl, rfl, rfl, rfl, rfl⟩ := i
  exact ⟨h⟩
/-- as mk_def, where the frame is wanted too -/
theorem mk_defS {N : List Str} {nm qual : Str} {params : Arguments} {body : List Stmt} {scp : Scope} {f : Addr} {fd : FuncData} {ps : List Str} {p : Pr}
    (F : FunD K nm qual params body scp [] [] f fd) (S : FnScope N ps scp) (har : ∀ ds t Φ, p ds t Φ → ds.length = ps.length)
    (hbody : ∀ X : Cx, In X P w K mg base → X.stack = X.env :: X.outer → X.env.frame = some X.env.locals → Bod X N scp k → X.env.scope = scp → ∀ ds t Φ, p ds t Φ → WB X body (ds.map some ++ List.replicate (N.length - ds.length) none) t (fun _ t' => Φ .non t') Φ) :
    FnOk P w K mg base CX0 (k + 1) f fd ps (spS K p) := by
  refine F.ok S (fun vs H Q E ⟨ds, t, Φ, r, _, h, _⟩ => by rw [r.len]; exact har ds t Φ h) fun cdv A outer s H vs Q E hr ⟨ds, t, Φ, r, hb, h, q⟩ => ?_
  refine ⟨_, PSs.nox semB, ?_⟩
  exact hbody _ ⟨rfl, rfl, rfl, rfl, rfl⟩ rfl rfl ⟨rfl, fun _ z => z, fun _ z => z, fun _ z => z, fun _ z => z, rfl, S.nd, hr, fun _ _ => .inl rfl, PassesOwn.never⟩ rfl ds t Φ h (L2.start N vs) H (envR_start N r) hb _ ⟨fun ρ' t' σ' H' n e b _ => q _ _ t' H' n e b .non, fun d v t' H' h' e b r' => q d v t' H' h' e b r'⟩
/-- what is known of NoPaper behind the top -/
def Np (P : Program) (w : World) (K : PySem.W.Frag) (mg : Str → Option Value) (base : Heap) (CN : Addr) : Prop := OexC K CN ∧ mg "NoPaper" = some (.ref CN) ∧ PySem.W.exmOne K (.ref CN) (.ref CN) = some true ∧
  ∃ fI fd, PySem.W.findIn K (.ref CN) "__init__" = some (some (.ref fI)) ∧ PySem.W.typeIn K (.ref fI) = some (.type "function") ∧ Binds K fd ["self", "row"] [] ∧
    FnOk P w K mg base CX0 1 fI fd ["self", "row"] (fun vs H Q _ => ∃ (a : Addr) (y : V), vs = [.ref a, y] ∧ H a = some (exo a CN none) ∧ ∀ dx, H dx = none → dx ≠ a → Q .non (upd (upd H dx (exd dx [("row", y)])) a (exo a CN (some dx))))
theorem Np.to (h : Np P w K mg base CN) (i : In X P w K mg base) : NpC X CN := by
  obtain ⟨rfl, rfl, rfl, rfl, rfl⟩ := i
  exact ⟨h.1, h.2.1, h.2.2.1, h.2.2.2⟩
end
abbrev FnP (K : PySem.W.Frag) (x : Str) (i : Nat) (f : Addr) (fd : FuncData) : Prop := FunD K x x (defArgs (top i)) (defBody (top i)) (defScope (top i)) [] [] f fd
/-- a def of the text under its name -/
def At (K : PySem.W.Frag) (mg : Str → Option Value) (x : Str) (i : Nat) : Prop := ∃ f fd, mg x = some (.ref f) ∧ FnP K x i f fd
section
variable {P : Program} {w : World} {K : PySem.W.Frag} {mg : Str → Option Value} {base : Heap} {CN : Addr}
theorem h_shared (A : At K mg "shared" 7) (m_abs : mg "abs" = none) : Has P w K mg base "shared" 1 p_shared := by
  obtain ⟨f, fd, hm, F⟩ := A
  refine ⟨f, fd, ["one", "other"], hm, F.kp, F.bindsN fun _ _ _ _ _ _ us hl => (match us, hl with | [_, _], _ => rfl), ?_⟩
  exact mk_defS F sc_shared (by
    intro ds t Φ h
    obtain ⟨_, hF, _⟩ := h
    repeat (obtain ⟨_, hF⟩ := hF)
    all_goals (subst_vars; rfl)) fun X i _ _ B hsc => b_shared B hsc (free_to m_abs i)
theorem h_is_great (A : At K mg "is_great" 9) (m_abs : mg "abs" = none) (g_GREATEST : ∃ v u, mg "GREATEST" = some u ∧ RelV v u ∧ ∀ H, Rp K H v_GREATEST v) : Has P w K mg base "is_great" 1 p_is_great := by
  obtain ⟨f, fd, hm, F⟩ := A
  refine ⟨f, fd, ["number"], hm, F.kp, F.bindsN fun _ _ _ _ _ _ us hl => (match us, hl with | [_], _ => rfl), ?_⟩
  exact mk_defS F sc_is_great (by
    intro ds t Φ h
    obtain ⟨_, hF, _⟩ := h
    repeat (obtain ⟨_, hF⟩ := hF)
    all_goals (subst_vars; rfl)) fun X i _ _ B hsc => b_is_great B hsc (free_to m_abs i) (glb_to g_GREATEST i)
theorem h_whole_of (A : At K mg "whole_of" 11) : Has P w K mg base "whole_of" 1 p_whole_of := by
  obtain ⟨f, fd, hm, F⟩ := A
  refine ⟨f, fd, ["number"], hm, F.kp, F.bindsN fun _ _ _ _ _ _ us hl => (match us, hl with | [_], _ => rfl), ?_⟩
  exact mk_defS F sc_whole_of (by
    intro ds t Φ h
    obtain ⟨_, hF, _⟩ := h
    repeat (obtain ⟨_, hF⟩ := hF)
    all_goals (subst_vars; rfl)) fun X i _ _ B hsc => b_whole_of B hsc
theorem h_turned (A : At K mg "turned" 13) : Has P w K mg base "turned" 1 p_turned := by
  obtain ⟨f, fd, hm, F⟩ := A
  refine ⟨f, fd, ["one"], hm, F.kp, F.bindsN fun _ _ _ _ _ _ us hl => (match us, hl with | [_], _ => rfl), ?_⟩
  exact mk_defS F sc_turned (by
    intro ds t Φ h
    obtain ⟨_, hF, _⟩ := h
    repeat (obtain ⟨_, hF⟩ := hF)
    all_goals (subst_vars; rfl)) fun X i _ _ B hsc => b_turned B hsc
theorem h_size_of (A : At K mg "size_of" 17) (m_abs : mg "abs" = none) : Has P w K mg base "size_of" 1 p_size_of := by
  obtain ⟨f, fd, hm, F⟩ := A
  refine ⟨f, fd, ["one"], hm, F.kp, F.bindsN fun _ _ _ _ _ _ us hl => (match us, hl with | [_], _ => rfl), ?_⟩
  exact mk_defS F sc_size_of (by
    intro ds t Φ h
    obtain ⟨_, hF, _⟩ := h
    repeat (obtain ⟨_, hF⟩ := hF)
    all_goals (subst_vars; rfl)) fun X i _ _ B hsc => b_size_of B hsc (free_to m_abs i)
theorem h_is_less (A : At K mg "is_less" 18) : Has P w K mg base "is_less" 1 p_is_less := by
  obtain ⟨f, fd, hm, F⟩ := A
  refine ⟨f, fd, ["one", "other"], hm, F.kp, F.bindsN fun _ _ _ _ _ _ us hl => (match us, hl with | [_, _], _ => rfl), ?_⟩
  exact mk_defS F sc_is_less (by
    intro ds t Φ h
    obtain ⟨_, hF, _⟩ := h
    repeat (obtain ⟨_, hF⟩ := hF)
    all_goals (subst_vars; rfl)) fun X i _ _ B hsc => b_is_less B hsc
theorem h_power (A : At K mg "power" 21) (m_abs : mg "abs" = none) : Has P w K mg base "power" 1 p_power := by
  obtain ⟨f, fd, hm, F⟩ := A
  refine ⟨f, fd, ["base", "exponent"], hm, F.kp, F.bindsN fun _ _ _ _ _ _ us hl => (match us, hl with | [_, _], _ => rfl), ?_⟩
  exact mk_defS F sc_power (by
    intro ds t Φ h
    obtain ⟨_, hF, _⟩ := h
    repeat (obtain ⟨_, hF⟩ := hF)
    all_goals (subst_vars; rfl)) fun X i _ _ B hsc => b_power B hsc (free_to m_abs i)
theorem h_whole_by (A : At K mg "whole_by" 26) (m_int : mg "int" = none) : Has P w K mg base "whole_by" 1 p_whole_by := by
  obtain ⟨f, fd, hm, F⟩ := A
  refine ⟨f, fd, ["way", "above", "below"], hm, F.kp, F.bindsN fun _ _ _ _ _ _ us hl => (match us, hl with | [_, _, _], _ => rfl), ?_⟩
  exact mk_defS F sc_whole_by (by
    intro ds t Φ h
    obtain ⟨_, hF, _⟩ := h
    repeat (obtain ⟨_, hF⟩ := hF)
    all_goals (subst_vars; rfl)) fun X i _ _ B hsc => b_whole_by B hsc (free_to m_int i)
theorem h_less_grain (A : At K mg "less_grain" 49) (m_min : mg "min" = none) : Has P w K mg base "less_grain" 1 p_less_grain := by
  obtain ⟨f, fd, hm, F⟩ := A
  refine ⟨f, fd, ["one", "other"], hm, F.kp, F.bindsN fun _ _ _ _ _ _ us hl => (match us, hl with | [_, _], _ => rfl), ?_⟩
  exact mk_defS F sc_less_grain (by
    intro ds t Φ h
    obtain ⟨_, hF, _⟩ := h
    repeat (obtain ⟨_, hF⟩ := hF)
    all_goals (subst_vars; rfl)) fun X i _ _ B hsc => b_less_grain B hsc (free_to m_min i)
theorem h_great_grain (A : At K mg "great_grain" 50) (m_max : mg "max" = none) : Has P w K mg base "great_grain" 1 p_great_grain := by
  obtain ⟨f, fd, hm, F⟩ := A
  refine ⟨f, fd, ["one", "other"], hm, F.kp, F.bindsN fun _ _ _ _ _ _ us hl => (match us, hl with | [_, _], _ => rfl), ?_⟩
  exact mk_defS F sc_great_grain (by
    intro ds t Φ h
    obtain ⟨_, hF, _⟩ := h
    repeat (obtain ⟨_, hF⟩ := hF)
    all_goals (subst_vars; rfl)) fun X i _ _ B hsc => b_great_grain B hsc (free_to m_max i)
theorem h_both_grains (A : At K mg "both_grains" 51) : Has P w K mg base "both_grains" 1 p_both_grains := by
  obtain ⟨f, fd, hm, F⟩ := A
  refine ⟨f, fd, ["one", "other"], hm, F.kp, F.bindsN fun _ _ _ _ _ _ us hl => (match us, hl with | [_, _], _ => rfl), ?_⟩
  exact mk_defS F sc_both_grains (by
    intro ds t Φ h
    obtain ⟨_, hF, _⟩ := h
    repeat (obtain ⟨_, hF⟩ := hF)
    all_goals (subst_vars; rfl)) fun X i _ _ B hsc => b_both_grains B hsc
theorem h_rounded_part (A : At K mg "rounded_part" 55) : Has P w K mg base "rounded_part" 1 p_rounded_part := by
  obtain ⟨f, fd, hm, F⟩ := A
  refine ⟨f, fd, ["entry"], hm, F.kp, F.bindsN fun _ _ _ _ _ _ us hl => (match us, hl with | [_], _ => rfl), ?_⟩
  exact mk_defS F sc_rounded_part (by
    intro ds t Φ h
    obtain ⟨_, hF, _⟩ := h
    repeat (obtain ⟨_, hF⟩ := hF)
    all_goals (subst_vars; rfl)) fun X i _ _ B hsc => b_rounded_part B hsc
theorem h_true_part (A : At K mg "true_part" 56) : Has P w K mg base "true_part" 1 p_true_part := by
  obtain ⟨f, fd, hm, F⟩ := A
  refine ⟨f, fd, ["entry"], hm, F.kp, F.bindsN fun _ _ _ _ _ _ us hl => (match us, hl with | [_], _ => rfl), ?_⟩
  exact mk_defS F sc_true_part (by
    intro ds t Φ h
    obtain ⟨_, hF, _⟩ := h
    repeat (obtain ⟨_, hF⟩ := hF)
    all_goals (subst_vars; rfl)) fun X i _ _ B hsc => b_true_part B hsc
theorem h__law_mixed (A : At K mg "_law_mixed" 68) : Has P w K mg base "_law_mixed" 1 p__law_mixed := by
  obtain ⟨f, fd, hm, F⟩ := A
  refine ⟨f, fd, ["_law_cell", "_law_k"], hm, F.kp, F.bindsN fun _ _ _ _ _ _ us hl => (match us, hl with | [_, _], _ => rfl), ?_⟩
  exact mk_defS F sc__law_mixed (by
    intro ds t Φ h
    obtain ⟨_, hF, _⟩ := h
    repeat (obtain ⟨_, hF⟩ := hF)
    all_goals (subst_vars; rfl)) fun X i _ _ B hsc => b__law_mixed B hsc
theorem h__law_begun (A : At K mg "_law_begun" 69) : Has P w K mg base "_law_begun" 1 p__law_begun := by
  obtain ⟨f, fd, hm, F⟩ := A
  refine ⟨f, fd, ["_law_script"], hm, F.kp, F.bindsN fun _ _ _ _ _ _ us hl => (match us, hl with | [_], _ => rfl), ?_⟩
  exact mk_defS F sc__law_begun (by
    intro ds t Φ h
    repeat (obtain ⟨_, h⟩ := h)
    all_goals (subst_vars; rfl)) fun X i _ _ B hsc => b__law_begun B hsc
theorem h__law_made (A : At K mg "_law_made" 72) (m_abs : mg "abs" = none) : Has P w K mg base "_law_made" 1 p__law_made := by
  obtain ⟨f, fd, hm, F⟩ := A
  refine ⟨f, fd, ["_law_above", "_law_below_here"], hm, F.kp, F.bindsN fun _ _ _ _ _ _ us hl => (match us, hl with | [_, _], _ => rfl), ?_⟩
  exact mk_defS F sc__law_made (by
    intro ds t Φ h
    obtain ⟨_, hF, _⟩ := h
    repeat (obtain ⟨_, hF⟩ := hF)
    all_goals (subst_vars; rfl)) fun X i _ _ B hsc => b__law_made B hsc (free_to m_abs i)
theorem h__law_below (A : At K mg "_law_below" 76) : Has P w K mg base "_law_below" 1 p__law_below := by
  obtain ⟨f, fd, hm, F⟩ := A
  refine ⟨f, fd, ["_law_one", "_law_other"], hm, F.kp, F.bindsN fun _ _ _ _ _ _ us hl => (match us, hl with | [_, _], _ => rfl), ?_⟩
  exact mk_defS F sc__law_below (by
    intro ds t Φ h
    obtain ⟨_, hF, _⟩ := h
    repeat (obtain ⟨_, hF⟩ := hF)
    all_goals (subst_vars; rfl)) fun X i _ _ B hsc => b__law_below B hsc
theorem h__law_power (A : At K mg "_law_power" 79) (m_range : mg "range" = none) (m_abs : mg "abs" = none) : Has P w K mg base "_law_power" 1 p__law_power := by
  obtain ⟨f, fd, hm, F⟩ := A
  refine ⟨f, fd, ["_law_base", "_law_exponent"], hm, F.kp, F.bindsN fun _ _ _ _ _ _ us hl => (match us, hl with | [_, _], _ => rfl), ?_⟩
  exact mk_defS F sc__law_power (by
    intro ds t Φ h
    obtain ⟨_, hF, _⟩ := h
    repeat (obtain ⟨_, hF⟩ := hF)
    all_goals (subst_vars; rfl)) fun X i _ _ B hsc => b__law_power B hsc (free_to m_range i) (free_to m_abs i)
theorem h__law_size_of (A : At K mg "_law_size_of" 85) (m_abs : mg "abs" = none) : Has P w K mg base "_law_size_of" 1 p__law_size_of := by
  obtain ⟨f, fd, hm, F⟩ := A
  refine ⟨f, fd, ["_law_number_here"], hm, F.kp, F.bindsN fun _ _ _ _ _ _ us hl => (match us, hl with | [_], _ => rfl), ?_⟩
  exact mk_defS F sc__law_size_of (by
    intro ds t Φ h
    obtain ⟨_, hF, _⟩ := h
    repeat (obtain ⟨_, hF⟩ := hF)
    all_goals (subst_vars; rfl)) fun X i _ _ B hsc => b__law_size_of B hsc (free_to m_abs i)
theorem h_fraction (A : At K mg "fraction" 8) (H_shared : Has P w K mg base "shared" 1 p_shared) : Has P w K mg base "fraction" 2 p_fraction := by
  obtain ⟨f, fd, hm, F⟩ := A
  refine ⟨f, fd, ["above", "below"], hm, F.kp, F.bindsN fun _ _ _ _ _ _ us hl => (match us, hl with | [_, _], _ => rfl), ?_⟩
  exact mk_defS F sc_fraction (by
    intro ds t Φ h
    obtain ⟨_, hF, _⟩ := h
    repeat (obtain ⟨_, hF⟩ := hF)
    all_goals (subst_vars; rfl)) fun X i _ _ B hsc => b_fraction B hsc (H_shared.to i)
theorem h_need_small (A : At K mg "need_small" 10) (H_is_great : Has P w K mg base "is_great" 1 p_is_great) : Has P w K mg base "need_small" 2 p_need_small := by
  obtain ⟨f, fd, hm, F⟩ := A
  refine ⟨f, fd, ["number"], hm, F.kp, F.bindsN fun _ _ _ _ _ _ us hl => (match us, hl with | [_], _ => rfl), ?_⟩
  exact mk_defS F sc_need_small (by
    intro ds t Φ h
    obtain ⟨_, hF, _⟩ := h
    repeat (obtain ⟨_, hF⟩ := hF)
    all_goals (subst_vars; rfl)) fun X i _ _ B hsc => b_need_small B hsc (H_is_great.to i)
theorem h_lesser (A : At K mg "lesser" 19) (H_is_less : Has P w K mg base "is_less" 1 p_is_less) : Has P w K mg base "lesser" 2 p_lesser := by
  obtain ⟨f, fd, hm, F⟩ := A
  refine ⟨f, fd, ["one", "other"], hm, F.kp, F.bindsN fun _ _ _ _ _ _ us hl => (match us, hl with | [_, _], _ => rfl), ?_⟩
  exact mk_defS F sc_lesser (by
    intro ds t Φ h
    obtain ⟨_, hF, _⟩ := h
    repeat (obtain ⟨_, hF⟩ := hF)
    all_goals (subst_vars; rfl)) fun X i _ _ B hsc => b_lesser B hsc (H_is_less.to i)
theorem h_greater (A : At K mg "greater" 20) (H_is_less : Has P w K mg base "is_less" 1 p_is_less) : Has P w K mg base "greater" 2 p_greater := by
  obtain ⟨f, fd, hm, F⟩ := A
  refine ⟨f, fd, ["one", "other"], hm, F.kp, F.bindsN fun _ _ _ _ _ _ us hl => (match us, hl with | [_, _], _ => rfl), ?_⟩
  exact mk_defS F sc_greater (by
    intro ds t Φ h
    obtain ⟨_, hF, _⟩ := h
    repeat (obtain ⟨_, hF⟩ := hF)
    all_goals (subst_vars; rfl)) fun X i _ _ B hsc => b_greater B hsc (H_is_less.to i)
theorem h_is_enough (A : At K mg "is_enough" 23) (H_is_less : Has P w K mg base "is_less" 1 p_is_less) (H_power : Has P w K mg base "power" 1 p_power) : Has P w K mg base "is_enough" 2 p_is_enough := by
  obtain ⟨f, fd, hm, F⟩ := A
  refine ⟨f, fd, ["ruler", "size", "place"], hm, F.kp, F.bindsN fun _ _ _ _ _ _ us hl => (match us, hl with | [_, _, _], _ => rfl), ?_⟩
  exact mk_defS F sc_is_enough (by
    intro ds t Φ h
    obtain ⟨_, hF, _⟩ := h
    repeat (obtain ⟨_, hF⟩ := hF)
    all_goals (subst_vars; rfl)) fun X i _ _ B hsc => b_is_enough B hsc (H_is_less.to i) (H_power.to i)
theorem h_has (A : At K mg "has" 32) (H_is_less : Has P w K mg base "is_less" 1 p_is_less) : Has P w K mg base "has" 2 p_has := by
  obtain ⟨f, fd, hm, F⟩ := A
  refine ⟨f, fd, ["span", "number"], hm, F.kp, F.bindsN fun _ _ _ _ _ _ us hl => (match us, hl with | [_, _], _ => rfl), ?_⟩
  exact mk_defS F sc_has (by
    intro ds t Φ h
    obtain ⟨_, hF, _⟩ := h
    repeat (obtain ⟨_, hF⟩ := hF)
    all_goals (subst_vars; rfl)) fun X i _ _ B hsc => b_has B hsc (H_is_less.to i)
theorem h_turned_span (A : At K mg "turned_span" 35) (H_turned : Has P w K mg base "turned" 1 p_turned) : Has P w K mg base "turned_span" 2 p_turned_span := by
  obtain ⟨f, fd, hm, F⟩ := A
  refine ⟨f, fd, ["span"], hm, F.kp, F.bindsN fun _ _ _ _ _ _ us hl => (match us, hl with | [_], _ => rfl), ?_⟩
  exact mk_defS F sc_turned_span (by
    intro ds t Φ h
    obtain ⟨_, hF, _⟩ := h
    repeat (obtain ⟨_, hF⟩ := hF)
    all_goals (subst_vars; rfl)) fun X i _ _ B hsc => b_turned_span B hsc (H_turned.to i)
theorem h_sides (A : At K mg "sides" 64) (H_is_less : Has P w K mg base "is_less" 1 p_is_less) : Has P w K mg base "sides" 2 p_sides := by
  obtain ⟨f, fd, hm, F⟩ := A
  refine ⟨f, fd, ["one", "other"], hm, F.kp, F.bindsN fun _ _ _ _ _ _ us hl => (match us, hl with | [_, _], _ => rfl), ?_⟩
  exact mk_defS F sc_sides (by
    intro ds t Φ h
    obtain ⟨_, hF, _⟩ := h
    repeat (obtain ⟨_, hF⟩ := hF)
    all_goals (subst_vars; rfl)) fun X i _ _ B hsc => b_sides B hsc (H_is_less.to i)
theorem h__law_open (A : At K mg "_law_open" 70) (H__law_mixed : Has P w K mg base "_law_mixed" 1 p__law_mixed) (m_enumerate : mg "enumerate" = none) (m_abs : mg "abs" = none) : Has P w K mg base "_law_open" 2 p__law_open := by
  obtain ⟨f, fd, hm, F⟩ := A
  refine ⟨f, fd, ["_law_state", "_law_k", "_law_many"], hm, F.kp, F.bindsN fun _ _ _ _ _ _ us hl => (match us, hl with | [_, _, _], _ => rfl), ?_⟩
  exact mk_defS F sc__law_open (by
    intro ds t Φ h
    repeat (obtain ⟨_, h⟩ := h)
    all_goals (subst_vars; rfl)) fun X i _ _ B hsc => b__law_open B hsc (H__law_mixed.to i) (free_to m_enumerate i) (free_to m_abs i)
theorem h__law_draw (A : At K mg "_law_draw" 71) (H__law_mixed : Has P w K mg base "_law_mixed" 1 p__law_mixed) : Has P w K mg base "_law_draw" 2 p__law_draw := by
  obtain ⟨f, fd, hm, F⟩ := A
  refine ⟨f, fd, ["_law_state", "_law_many"], hm, F.kp, F.bindsN fun _ _ _ _ _ _ us hl => (match us, hl with | [_, _], _ => rfl), ?_⟩
  exact mk_defS F sc__law_draw (by
    intro ds t Φ h
    repeat (obtain ⟨_, h⟩ := h)
    all_goals (subst_vars; rfl)) fun X i _ _ B hsc => b__law_draw B hsc (H__law_mixed.to i)
theorem h__law_plus (A : At K mg "_law_plus" 73) (H__law_made : Has P w K mg base "_law_made" 1 p__law_made) : Has P w K mg base "_law_plus" 2 p__law_plus := by
  obtain ⟨f, fd, hm, F⟩ := A
  refine ⟨f, fd, ["_law_one", "_law_other"], hm, F.kp, F.bindsN fun _ _ _ _ _ _ us hl => (match us, hl with | [_, _], _ => rfl), ?_⟩
  exact mk_defS F sc__law_plus (by
    intro ds t Φ h
    obtain ⟨_, hF, _⟩ := h
    repeat (obtain ⟨_, hF⟩ := hF)
    all_goals (subst_vars; rfl)) fun X i _ _ B hsc => b__law_plus B hsc (H__law_made.to i)
theorem h__law_less (A : At K mg "_law_less" 74) (H__law_made : Has P w K mg base "_law_made" 1 p__law_made) : Has P w K mg base "_law_less" 2 p__law_less := by
  obtain ⟨f, fd, hm, F⟩ := A
  refine ⟨f, fd, ["_law_one", "_law_other"], hm, F.kp, F.bindsN fun _ _ _ _ _ _ us hl => (match us, hl with | [_, _], _ => rfl), ?_⟩
  exact mk_defS F sc__law_less (by
    intro ds t Φ h
    obtain ⟨_, hF, _⟩ := h
    repeat (obtain ⟨_, hF⟩ := hF)
    all_goals (subst_vars; rfl)) fun X i _ _ B hsc => b__law_less B hsc (H__law_made.to i)
theorem h__law_times (A : At K mg "_law_times" 75) (H__law_made : Has P w K mg base "_law_made" 1 p__law_made) : Has P w K mg base "_law_times" 2 p__law_times := by
  obtain ⟨f, fd, hm, F⟩ := A
  refine ⟨f, fd, ["_law_one", "_law_other"], hm, F.kp, F.bindsN fun _ _ _ _ _ _ us hl => (match us, hl with | [_, _], _ => rfl), ?_⟩
  exact mk_defS F sc__law_times (by
    intro ds t Φ h
    obtain ⟨_, hF, _⟩ := h
    repeat (obtain ⟨_, hF⟩ := hF)
    all_goals (subst_vars; rfl)) fun X i _ _ B hsc => b__law_times B hsc (H__law_made.to i)
theorem h__law_ends (A : At K mg "_law_ends" 77) (H__law_below : Has P w K mg base "_law_below" 1 p__law_below) : Has P w K mg base "_law_ends" 2 p__law_ends := by
  obtain ⟨f, fd, hm, F⟩ := A
  refine ⟨f, fd, ["_law_some"], hm, F.kp, F.bindsN fun _ _ _ _ _ _ us hl => (match us, hl with | [_], _ => rfl), ?_⟩
  exact mk_defS F sc__law_ends (by
    intro ds t Φ h
    obtain ⟨_, hF, _⟩ := h
    repeat (obtain ⟨_, hF⟩ := hF)
    all_goals (subst_vars; rfl)) fun X i _ _ B hsc => b__law_ends B hsc (H__law_below.to i)
theorem h__law_place (A : At K mg "_law_place" 80) (H__law_below : Has P w K mg base "_law_below" 1 p__law_below) (H__law_power : Has P w K mg base "_law_power" 1 p__law_power) (m_abs : mg "abs" = none) : Has P w K mg base "_law_place" 2 p__law_place := by
  obtain ⟨f, fd, hm, F⟩ := A
  refine ⟨f, fd, ["_law_ruler_here", "_law_number_here"], hm, F.kp, F.bindsN fun _ _ _ _ _ _ us hl => (match us, hl with | [_, _], _ => rfl), ?_⟩
  exact mk_defS F sc__law_place (by
    intro ds t Φ h
    obtain ⟨_, hF, _⟩ := h
    repeat (obtain ⟨_, hF⟩ := hF)
    all_goals (subst_vars; rfl)) fun X i _ _ B hsc => b__law_place B hsc (H__law_below.to i) (H__law_power.to i) (free_to m_abs i)
theorem h__law_holds (A : At K mg "_law_holds" 90) (H__law_below : Has P w K mg base "_law_below" 1 p__law_below) : Has P w K mg base "_law_holds" 2 p__law_holds := by
  obtain ⟨f, fd, hm, F⟩ := A
  refine ⟨f, fd, ["_law_wide", "_law_narrow"], hm, F.kp, F.bindsN fun _ _ _ _ _ _ us hl => (match us, hl with | [_, _], _ => rfl), ?_⟩
  exact mk_defS F sc__law_holds (by
    intro ds t Φ h
    obtain ⟨_, hF, _⟩ := h
    repeat (obtain ⟨_, hF⟩ := hF)
    all_goals (subst_vars; rfl)) fun X i _ _ B hsc => b__law_holds B hsc (H__law_below.to i)
theorem h_plus (A : At K mg "plus" 12) (H_fraction : Has P w K mg base "fraction" 2 p_fraction) : Has P w K mg base "plus" 3 p_plus := by
  obtain ⟨f, fd, hm, F⟩ := A
  refine ⟨f, fd, ["one", "other"], hm, F.kp, F.bindsN fun _ _ _ _ _ _ us hl => (match us, hl with | [_, _], _ => rfl), ?_⟩
  exact mk_defS F sc_plus (by
    intro ds t Φ h
    obtain ⟨_, hF, _⟩ := h
    repeat (obtain ⟨_, hF⟩ := hF)
    all_goals (subst_vars; rfl)) fun X i _ _ B hsc => b_plus B hsc (H_fraction.to i)
theorem h_times (A : At K mg "times" 15) (H_fraction : Has P w K mg base "fraction" 2 p_fraction) : Has P w K mg base "times" 3 p_times := by
  obtain ⟨f, fd, hm, F⟩ := A
  refine ⟨f, fd, ["one", "other"], hm, F.kp, F.bindsN fun _ _ _ _ _ _ us hl => (match us, hl with | [_, _], _ => rfl), ?_⟩
  exact mk_defS F sc_times (by
    intro ds t Φ h
    obtain ⟨_, hF, _⟩ := h
    repeat (obtain ⟨_, hF⟩ := hF)
    all_goals (subst_vars; rfl)) fun X i _ _ B hsc => b_times B hsc (H_fraction.to i)
theorem h_over (A : At K mg "over" 16) (H_fraction : Has P w K mg base "fraction" 2 p_fraction) : Has P w K mg base "over" 3 p_over := by
  obtain ⟨f, fd, hm, F⟩ := A
  refine ⟨f, fd, ["one", "other"], hm, F.kp, F.bindsN fun _ _ _ _ _ _ us hl => (match us, hl with | [_, _], _ => rfl), ?_⟩
  exact mk_defS F sc_over (by
    intro ds t Φ h
    obtain ⟨_, hF, _⟩ := h
    repeat (obtain ⟨_, hF⟩ := hF)
    all_goals (subst_vars; rfl)) fun X i _ _ B hsc => b_over B hsc (H_fraction.to i)
theorem h_place_of (A : At K mg "place_of" 24) (H_size_of : Has P w K mg base "size_of" 1 p_size_of) (H_is_enough : Has P w K mg base "is_enough" 2 p_is_enough) : Has P w K mg base "place_of" 3 p_place_of := by
  obtain ⟨f, fd, hm, F⟩ := A
  refine ⟨f, fd, ["ruler", "number"], hm, F.kp, F.bindsN fun _ _ _ _ _ _ us hl => (match us, hl with | [_, _], _ => rfl), ?_⟩
  exact mk_defS F sc_place_of (by
    intro ds t Φ h
    obtain ⟨_, hF, _⟩ := h
    repeat (obtain ⟨_, hF⟩ := hF)
    all_goals (subst_vars; rfl)) fun X i _ _ B hsc => b_place_of B hsc (H_size_of.to i) (H_is_enough.to i)
theorem h_span_of (A : At K mg "span_of" 31) (H_lesser : Has P w K mg base "lesser" 2 p_lesser) (H_greater : Has P w K mg base "greater" 2 p_greater) : Has P w K mg base "span_of" 3 p_span_of := by
  obtain ⟨f, fd, hm, F⟩ := A
  refine ⟨f, fd, ["some"], hm, F.kp, F.bindsN fun _ _ _ _ _ _ us hl => (match us, hl with | [_], _ => rfl), ?_⟩
  exact mk_defS F sc_span_of (by
    intro ds t Φ h
    obtain ⟨_, hF, _⟩ := h
    repeat (obtain ⟨_, hF⟩ := hF)
    all_goals (subst_vars; rfl)) fun X i _ _ B hsc => b_span_of B hsc (H_lesser.to i) (H_greater.to i)
theorem h_hull (A : At K mg "hull" 33) (H_lesser : Has P w K mg base "lesser" 2 p_lesser) (H_greater : Has P w K mg base "greater" 2 p_greater) : Has P w K mg base "hull" 3 p_hull := by
  obtain ⟨f, fd, hm, F⟩ := A
  refine ⟨f, fd, ["one", "other"], hm, F.kp, F.bindsN fun _ _ _ _ _ _ us hl => (match us, hl with | [_, _], _ => rfl), ?_⟩
  exact mk_defS F sc_hull (by
    intro ds t Φ h
    obtain ⟨_, hF, _⟩ := h
    repeat (obtain ⟨_, hF⟩ := hF)
    all_goals (subst_vars; rfl)) fun X i _ _ B hsc => b_hull B hsc (H_lesser.to i) (H_greater.to i)
theorem h_great_size (A : At K mg "great_size" 39) (H_greater : Has P w K mg base "greater" 2 p_greater) (H_size_of : Has P w K mg base "size_of" 1 p_size_of) : Has P w K mg base "great_size" 3 p_great_size := by
  obtain ⟨f, fd, hm, F⟩ := A
  refine ⟨f, fd, ["span"], hm, F.kp, F.bindsN fun _ _ _ _ _ _ us hl => (match us, hl with | [_], _ => rfl), ?_⟩
  exact mk_defS F sc_great_size (by
    intro ds t Φ h
    obtain ⟨_, hF, _⟩ := h
    repeat (obtain ⟨_, hF⟩ := hF)
    all_goals (subst_vars; rfl)) fun X i _ _ B hsc => b_great_size B hsc (H_greater.to i) (H_size_of.to i)
theorem h_small_size (A : At K mg "small_size" 40) (H_has : Has P w K mg base "has" 2 p_has) (H_lesser : Has P w K mg base "lesser" 2 p_lesser) (H_size_of : Has P w K mg base "size_of" 1 p_size_of) (g_NOUGHT : ∃ v u, mg "NOUGHT" = some u ∧ RelV v u ∧ ∀ H, Rp K H v_NOUGHT v) : Has P w K mg base "small_size" 3 p_small_size := by
  obtain ⟨f, fd, hm, F⟩ := A
  refine ⟨f, fd, ["span"], hm, F.kp, F.bindsN fun _ _ _ _ _ _ us hl => (match us, hl with | [_], _ => rfl), ?_⟩
  exact mk_defS F sc_small_size (by
    intro ds t Φ h
    obtain ⟨_, hF, _⟩ := h
    repeat (obtain ⟨_, hF⟩ := hF)
    all_goals (subst_vars; rfl)) fun X i _ _ B hsc => b_small_size B hsc (H_has.to i) (H_lesser.to i) (H_size_of.to i) (glb_to g_NOUGHT i)
theorem h_least_span (A : At K mg "least_span" 42) (H_lesser : Has P w K mg base "lesser" 2 p_lesser) : Has P w K mg base "least_span" 3 p_least_span := by
  obtain ⟨f, fd, hm, F⟩ := A
  refine ⟨f, fd, ["one", "other"], hm, F.kp, F.bindsN fun _ _ _ _ _ _ us hl => (match us, hl with | [_, _], _ => rfl), ?_⟩
  exact mk_defS F sc_least_span (by
    intro ds t Φ h
    obtain ⟨_, hF, _⟩ := h
    repeat (obtain ⟨_, hF⟩ := hF)
    all_goals (subst_vars; rfl)) fun X i _ _ B hsc => b_least_span B hsc (H_lesser.to i)
theorem h_most_span (A : At K mg "most_span" 43) (H_greater : Has P w K mg base "greater" 2 p_greater) : Has P w K mg base "most_span" 3 p_most_span := by
  obtain ⟨f, fd, hm, F⟩ := A
  refine ⟨f, fd, ["one", "other"], hm, F.kp, F.bindsN fun _ _ _ _ _ _ us hl => (match us, hl with | [_, _], _ => rfl), ?_⟩
  exact mk_defS F sc_most_span (by
    intro ds t Φ h
    obtain ⟨_, hF, _⟩ := h
    repeat (obtain ⟨_, hF⟩ := hF)
    all_goals (subst_vars; rfl)) fun X i _ _ B hsc => b_most_span B hsc (H_greater.to i)
theorem h__law_number (A : At K mg "_law_number" 78) (H__law_draw : Has P w K mg base "_law_draw" 2 p__law_draw) (H__law_made : Has P w K mg base "_law_made" 1 p__law_made) : Has P w K mg base "_law_number" 3 p__law_number := by
  obtain ⟨f, fd, hm, F⟩ := A
  refine ⟨f, fd, ["_law_state"], hm, F.kp, F.bindsN fun _ _ _ _ _ _ us hl => (match us, hl with | [_], _ => rfl), ?_⟩
  exact mk_defS F sc__law_number (by
    intro ds t Φ h
    repeat (obtain ⟨_, h⟩ := h)
    all_goals (subst_vars; rfl)) fun X i _ _ B hsc => b__law_number B hsc (H__law_draw.to i) (H__law_made.to i)
theorem h__law_rounded (A : At K mg "_law_rounded" 81) (H__law_power : Has P w K mg base "_law_power" 1 p__law_power) (H__law_times : Has P w K mg base "_law_times" 2 p__law_times) (H__law_place : Has P w K mg base "_law_place" 2 p__law_place) (m_int : mg "int" = none) : Has P w K mg base "_law_rounded" 3 p__law_rounded := by
  obtain ⟨f, fd, hm, F⟩ := A
  refine ⟨f, fd, ["_law_ruler_here", "_law_number_here"], hm, F.kp, F.bindsN fun _ _ _ _ _ _ us hl => (match us, hl with | [_, _], _ => rfl), ?_⟩
  exact mk_defS F sc__law_rounded (by
    intro ds t Φ h
    obtain ⟨_, hF, _⟩ := h
    repeat (obtain ⟨_, hF⟩ := hF)
    all_goals (subst_vars; rfl)) fun X i _ _ B hsc => b__law_rounded B hsc (H__law_power.to i) (H__law_times.to i) (H__law_place.to i) (free_to m_int i)
theorem h__law_ruler (A : At K mg "_law_ruler" 82) (H__law_draw : Has P w K mg base "_law_draw" 2 p__law_draw) : Has P w K mg base "_law_ruler" 3 p__law_ruler := by
  obtain ⟨f, fd, hm, F⟩ := A
  refine ⟨f, fd, ["_law_state"], hm, F.kp, F.bindsN fun _ _ _ _ _ _ us hl => (match us, hl with | [_], _ => rfl), ?_⟩
  exact mk_defS F sc__law_ruler (by
    intro ds t Φ h
    repeat (obtain ⟨_, h⟩ := h)
    all_goals (subst_vars; rfl)) fun X i _ _ B hsc => b__law_ruler B hsc (H__law_draw.to i)
theorem h__law_mark (A : At K mg "_law_mark" 83) (H__law_power : Has P w K mg base "_law_power" 1 p__law_power) (H__law_times : Has P w K mg base "_law_times" 2 p__law_times) (H__law_draw : Has P w K mg base "_law_draw" 2 p__law_draw) : Has P w K mg base "_law_mark" 3 p__law_mark := by
  obtain ⟨f, fd, hm, F⟩ := A
  refine ⟨f, fd, ["_law_state", "_law_ruler_here"], hm, F.kp, F.bindsN fun _ _ _ _ _ _ us hl => (match us, hl with | [_, _], _ => rfl), ?_⟩
  exact mk_defS F sc__law_mark (by
    intro ds t Φ h
    repeat (obtain ⟨_, h⟩ := h)
    all_goals (subst_vars; rfl)) fun X i _ _ B hsc => b__law_mark B hsc (H__law_power.to i) (H__law_times.to i) (H__law_draw.to i)
theorem h__law_own_grain (A : At K mg "_law_own_grain" 86) (H__law_place : Has P w K mg base "_law_place" 2 p__law_place) (H__law_ends : Has P w K mg base "_law_ends" 2 p__law_ends) (H__law_times : Has P w K mg base "_law_times" 2 p__law_times) (H__law_size_of : Has P w K mg base "_law_size_of" 1 p__law_size_of) (H__law_power : Has P w K mg base "_law_power" 1 p__law_power) : Has P w K mg base "_law_own_grain" 3 p__law_own_grain := by
  obtain ⟨f, fd, hm, F⟩ := A
  refine ⟨f, fd, ["_law_ruler_here", "_law_low", "_law_high"], hm, F.kp, F.bindsN fun _ _ _ _ _ _ us hl => (match us, hl with | [_, _, _], _ => rfl), ?_⟩
  exact mk_defS F sc__law_own_grain (by
    intro ds t Φ h
    obtain ⟨_, hF, _⟩ := h
    repeat (obtain ⟨_, hF⟩ := hF)
    all_goals (subst_vars; rfl)) fun X i _ _ B hsc => b__law_own_grain B hsc (H__law_place.to i) (H__law_ends.to i) (H__law_times.to i) (H__law_size_of.to i) (H__law_power.to i)
theorem h__law_names (A : At K mg "_law_names" 87) (H__law_draw : Has P w K mg base "_law_draw" 2 p__law_draw) (m_range : mg "range" = none) : Has P w K mg base "_law_names" 3 p__law_names := by
  obtain ⟨f, fd, hm, F⟩ := A
  refine ⟨f, fd, ["_law_state", "_law_many"], hm, F.kp, F.bindsN fun _ _ _ _ _ _ us hl => (match us, hl with | [_, _], _ => rfl), ?_⟩
  exact mk_defS F sc__law_names (by
    intro ds t Φ h
    repeat (obtain ⟨_, h⟩ := h)
    all_goals (subst_vars; rfl)) fun X i _ _ B hsc => b__law_names B hsc (H__law_draw.to i) (free_to m_range i)
theorem h_less (A : At K mg "less" 14) (H_plus : Has P w K mg base "plus" 3 p_plus) (H_turned : Has P w K mg base "turned" 1 p_turned) : Has P w K mg base "less" 4 p_less := by
  obtain ⟨f, fd, hm, F⟩ := A
  refine ⟨f, fd, ["one", "other"], hm, F.kp, F.bindsN fun _ _ _ _ _ _ us hl => (match us, hl with | [_, _], _ => rfl), ?_⟩
  exact mk_defS F sc_less (by
    intro ds t Φ h
    obtain ⟨_, hF, _⟩ := h
    repeat (obtain ⟨_, hF⟩ := hF)
    all_goals (subst_vars; rfl)) fun X i _ _ B hsc => b_less B hsc (H_plus.to i) (H_turned.to i)
theorem h_step_of (A : At K mg "step_of" 25) (H_power : Has P w K mg base "power" 1 p_power) (H_place_of : Has P w K mg base "place_of" 3 p_place_of) : Has P w K mg base "step_of" 4 p_step_of := by
  obtain ⟨f, fd, hm, F⟩ := A
  refine ⟨f, fd, ["ruler", "number"], hm, F.kp, F.bindsN fun _ _ _ _ _ _ us hl => (match us, hl with | [_, _], _ => rfl), ?_⟩
  exact mk_defS F sc_step_of (by
    intro ds t Φ h
    obtain ⟨_, hF, _⟩ := h
    repeat (obtain ⟨_, hF⟩ := hF)
    all_goals (subst_vars; rfl)) fun X i _ _ B hsc => b_step_of B hsc (H_power.to i) (H_place_of.to i)
theorem h_is_multiple (A : At K mg "is_multiple" 29) (H_over : Has P w K mg base "over" 3 p_over) (H_power : Has P w K mg base "power" 1 p_power) : Has P w K mg base "is_multiple" 4 p_is_multiple := by
  obtain ⟨f, fd, hm, F⟩ := A
  refine ⟨f, fd, ["ruler", "number", "grain"], hm, F.kp, F.bindsN fun _ _ _ _ _ _ us hl => (match us, hl with | [_, _, _], _ => rfl), ?_⟩
  exact mk_defS F sc_is_multiple (by
    intro ds t Φ h
    obtain ⟨_, hF, _⟩ := h
    repeat (obtain ⟨_, hF⟩ := hF)
    all_goals (subst_vars; rfl)) fun X i _ _ B hsc => b_is_multiple B hsc (H_over.to i) (H_power.to i)
theorem h_plus_spans (A : At K mg "plus_spans" 34) (H_plus : Has P w K mg base "plus" 3 p_plus) : Has P w K mg base "plus_spans" 4 p_plus_spans := by
  obtain ⟨f, fd, hm, F⟩ := A
  refine ⟨f, fd, ["one", "other"], hm, F.kp, F.bindsN fun _ _ _ _ _ _ us hl => (match us, hl with | [_, _], _ => rfl), ?_⟩
  exact mk_defS F sc_plus_spans (by
    intro ds t Φ h
    obtain ⟨_, hF, _⟩ := h
    repeat (obtain ⟨_, hF⟩ := hF)
    all_goals (subst_vars; rfl)) fun X i _ _ B hsc => b_plus_spans B hsc (H_plus.to i)
theorem h_times_spans (A : At K mg "times_spans" 37) (H_span_of : Has P w K mg base "span_of" 3 p_span_of) (H_times : Has P w K mg base "times" 3 p_times) : Has P w K mg base "times_spans" 4 p_times_spans := by
  obtain ⟨f, fd, hm, F⟩ := A
  refine ⟨f, fd, ["one", "other"], hm, F.kp, F.bindsN fun _ _ _ _ _ _ us hl => (match us, hl with | [_, _], _ => rfl), ?_⟩
  exact mk_defS F sc_times_spans (by
    intro ds t Φ h
    obtain ⟨_, hF, _⟩ := h
    repeat (obtain ⟨_, hF⟩ := hF)
    all_goals (subst_vars; rfl)) fun X i _ _ B hsc => b_times_spans B hsc (H_span_of.to i) (H_times.to i)
theorem h_over_spans (A : At K mg "over_spans" 38) (H_has : Has P w K mg base "has" 2 p_has) (H_span_of : Has P w K mg base "span_of" 3 p_span_of) (H_over : Has P w K mg base "over" 3 p_over) (g_NOUGHT : ∃ v u, mg "NOUGHT" = some u ∧ RelV v u ∧ ∀ H, Rp K H v_NOUGHT v) : Has P w K mg base "over_spans" 4 p_over_spans := by
  obtain ⟨f, fd, hm, F⟩ := A
  refine ⟨f, fd, ["one", "other"], hm, F.kp, F.bindsN fun _ _ _ _ _ _ us hl => (match us, hl with | [_, _], _ => rfl), ?_⟩
  exact mk_defS F sc_over_spans (by
    intro ds t Φ h
    obtain ⟨_, hF, _⟩ := h
    repeat (obtain ⟨_, hF⟩ := hF)
    all_goals (subst_vars; rfl)) fun X i _ _ B hsc => b_over_spans B hsc (H_has.to i) (H_span_of.to i) (H_over.to i) (glb_to g_NOUGHT i)
theorem h_size_span (A : At K mg "size_span" 41) (H_small_size : Has P w K mg base "small_size" 3 p_small_size) (H_great_size : Has P w K mg base "great_size" 3 p_great_size) : Has P w K mg base "size_span" 4 p_size_span := by
  obtain ⟨f, fd, hm, F⟩ := A
  refine ⟨f, fd, ["span"], hm, F.kp, F.bindsN fun _ _ _ _ _ _ us hl => (match us, hl with | [_], _ => rfl), ?_⟩
  exact mk_defS F sc_size_span (by
    intro ds t Φ h
    obtain ⟨_, hF, _⟩ := h
    repeat (obtain ⟨_, hF⟩ := hF)
    all_goals (subst_vars; rfl)) fun X i _ _ B hsc => b_size_span B hsc (H_small_size.to i) (H_great_size.to i)
theorem h_is_exact (A : At K mg "is_exact" 52) (H_is_less : Has P w K mg base "is_less" 1 p_is_less) (H_power : Has P w K mg base "power" 1 p_power) (H_great_size : Has P w K mg base "great_size" 3 p_great_size) : Has P w K mg base "is_exact" 4 p_is_exact := by
  obtain ⟨f, fd, hm, F⟩ := A
  refine ⟨f, fd, ["ruler", "span", "grain"], hm, F.kp, F.bindsN fun _ _ _ _ _ _ us hl => (match us, hl with | [_, _, _], _ => rfl), ?_⟩
  exact mk_defS F sc_is_exact (by
    intro ds t Φ h
    obtain ⟨_, hF, _⟩ := h
    repeat (obtain ⟨_, hF⟩ := hF)
    all_goals (subst_vars; rfl)) fun X i _ _ B hsc => b_is_exact B hsc (H_is_less.to i) (H_power.to i) (H_great_size.to i)
theorem h__law_marks (A : At K mg "_law_marks" 84) (H__law_mark : Has P w K mg base "_law_mark" 3 p__law_mark) (H__law_draw : Has P w K mg base "_law_draw" 2 p__law_draw) (H__law_below : Has P w K mg base "_law_below" 1 p__law_below) : Has P w K mg base "_law_marks" 4 p__law_marks := by
  obtain ⟨f, fd, hm, F⟩ := A
  refine ⟨f, fd, ["_law_state", "_law_ruler_here"], hm, F.kp, F.bindsN fun _ _ _ _ _ _ us hl => (match us, hl with | [_, _], _ => rfl), ?_⟩
  exact mk_defS F sc__law_marks (by
    intro ds t Φ h
    repeat (obtain ⟨_, h⟩ := h)
    all_goals (subst_vars; rfl)) fun X i _ _ B hsc => b__law_marks B hsc (H__law_mark.to i) (H__law_draw.to i) (H__law_below.to i)
theorem h__law_wider (A : At K mg "_law_wider" 89) (H__law_plus : Has P w K mg base "_law_plus" 2 p__law_plus) (H__law_own_grain : Has P w K mg base "_law_own_grain" 3 p__law_own_grain) (H__law_draw : Has P w K mg base "_law_draw" 2 p__law_draw) (H__law_rounded : Has P w K mg base "_law_rounded" 3 p__law_rounded) (H__law_less : Has P w K mg base "_law_less" 2 p__law_less) (H__law_power : Has P w K mg base "_law_power" 1 p__law_power) (H__law_place : Has P w K mg base "_law_place" 2 p__law_place) (m_range : mg "range" = none) (m_max : mg "max" = none) (m_min : mg "min" = none) : Has P w K mg base "_law_wider" 4 p__law_wider := by
  obtain ⟨f, fd, hm, F⟩ := A
  refine ⟨f, fd, ["_law_state", "_law_ruler_here", "_law_entry_here"], hm, F.kp, F.bindsN fun _ _ _ _ _ _ us hl => (match us, hl with | [_, _, _], _ => rfl), ?_⟩
  exact mk_defS F sc__law_wider (by
    intro ds t Φ h
    repeat (obtain ⟨_, h⟩ := h)
    all_goals (subst_vars; rfl)) fun X i _ _ B hsc => b__law_wider B hsc (H__law_plus.to i) (H__law_own_grain.to i) (H__law_draw.to i) (H__law_rounded.to i) (H__law_less.to i) (H__law_power.to i) (H__law_place.to i) (free_to m_range i) (free_to m_max i) (free_to m_min i)
theorem h_rounded (A : At K mg "rounded" 27) (H_step_of : Has P w K mg base "step_of" 4 p_step_of) (H_over : Has P w K mg base "over" 3 p_over) (H_times : Has P w K mg base "times" 3 p_times) (H_whole_of : Has P w K mg base "whole_of" 1 p_whole_of) (H_whole_by : Has P w K mg base "whole_by" 1 p_whole_by) : Has P w K mg base "rounded" 5 p_rounded := by
  obtain ⟨f, fd, hm, F⟩ := A
  refine ⟨f, fd, ["ruler", "number"], hm, F.kp, F.bindsN fun _ _ _ _ _ _ us hl => (match us, hl with | [_, _], _ => rfl), ?_⟩
  exact mk_defS F sc_rounded (by
    intro ds t Φ h
    obtain ⟨_, hF, _⟩ := h
    repeat (obtain ⟨_, hF⟩ := hF)
    all_goals (subst_vars; rfl)) fun X i _ _ B hsc => b_rounded B hsc (H_step_of.to i) (H_over.to i) (H_times.to i) (H_whole_of.to i) (H_whole_by.to i)
theorem h_less_spans (A : At K mg "less_spans" 36) (H_plus_spans : Has P w K mg base "plus_spans" 4 p_plus_spans) (H_turned_span : Has P w K mg base "turned_span" 2 p_turned_span) : Has P w K mg base "less_spans" 5 p_less_spans := by
  obtain ⟨f, fd, hm, F⟩ := A
  refine ⟨f, fd, ["one", "other"], hm, F.kp, F.bindsN fun _ _ _ _ _ _ us hl => (match us, hl with | [_, _], _ => rfl), ?_⟩
  exact mk_defS F sc_less_spans (by
    intro ds t Φ h
    obtain ⟨_, hF, _⟩ := h
    repeat (obtain ⟨_, hF⟩ := hF)
    all_goals (subst_vars; rfl)) fun X i _ _ B hsc => b_less_spans B hsc (H_plus_spans.to i) (H_turned_span.to i)
theorem h_apart (A : At K mg "apart" 44) (H_greater : Has P w K mg base "greater" 2 p_greater) (H_less : Has P w K mg base "less" 4 p_less) : Has P w K mg base "apart" 5 p_apart := by
  obtain ⟨f, fd, hm, F⟩ := A
  refine ⟨f, fd, ["one", "other"], hm, F.kp, F.bindsN fun _ _ _ _ _ _ us hl => (match us, hl with | [_, _], _ => rfl), ?_⟩
  exact mk_defS F sc_apart (by
    intro ds t Φ h
    obtain ⟨_, hF, _⟩ := h
    repeat (obtain ⟨_, hF⟩ := hF)
    all_goals (subst_vars; rfl)) fun X i _ _ B hsc => b_apart B hsc (H_greater.to i) (H_less.to i)
theorem h_grain_of (A : At K mg "grain_of" 47) (H_place_of : Has P w K mg base "place_of" 3 p_place_of) (H_is_multiple : Has P w K mg base "is_multiple" 4 p_is_multiple) (g_NOUGHT : ∃ v u, mg "NOUGHT" = some u ∧ RelV v u ∧ ∀ H, Rp K H v_NOUGHT v) : Has P w K mg base "grain_of" 5 p_grain_of := by
  obtain ⟨f, fd, hm, F⟩ := A
  refine ⟨f, fd, ["ruler", "number"], hm, F.kp, F.bindsN fun _ _ _ _ _ _ us hl => (match us, hl with | [_, _], _ => rfl), ?_⟩
  exact mk_defS F sc_grain_of (by
    intro ds t Φ h
    obtain ⟨_, hF, _⟩ := h
    repeat (obtain ⟨_, hF⟩ := hF)
    all_goals (subst_vars; rfl)) fun X i _ _ B hsc => b_grain_of B hsc (H_place_of.to i) (H_is_multiple.to i) (glb_to g_NOUGHT i)
theorem h__law_entry (A : At K mg "_law_entry" 88) (H__law_marks : Has P w K mg base "_law_marks" 4 p__law_marks) (H__law_ends : Has P w K mg base "_law_ends" 2 p__law_ends) (H__law_own_grain : Has P w K mg base "_law_own_grain" 3 p__law_own_grain) (H__law_draw : Has P w K mg base "_law_draw" 2 p__law_draw) (H__law_plus : Has P w K mg base "_law_plus" 2 p__law_plus) (H__law_size_of : Has P w K mg base "_law_size_of" 1 p__law_size_of) (H__law_number : Has P w K mg base "_law_number" 3 p__law_number) (m_max : mg "max" = none) : Has P w K mg base "_law_entry" 5 p__law_entry := by
  obtain ⟨f, fd, hm, F⟩ := A
  refine ⟨f, fd, ["_law_state", "_law_ruler_here"], hm, F.kp, F.bindsN fun _ _ _ _ _ _ us hl => (match us, hl with | [_, _], _ => rfl), ?_⟩
  exact mk_defS F sc__law_entry (by
    intro ds t Φ h
    repeat (obtain ⟨_, h⟩ := h)
    all_goals (subst_vars; rfl)) fun X i _ _ B hsc => b__law_entry B hsc (H__law_marks.to i) (H__law_ends.to i) (H__law_own_grain.to i) (H__law_draw.to i) (H__law_plus.to i) (H__law_size_of.to i) (H__law_number.to i) (free_to m_max i)
theorem h_off_of (A : At K mg "off_of" 28) (H_size_of : Has P w K mg base "size_of" 1 p_size_of) (H_less : Has P w K mg base "less" 4 p_less) (H_rounded : Has P w K mg base "rounded" 5 p_rounded) : Has P w K mg base "off_of" 6 p_off_of := by
  obtain ⟨f, fd, hm, F⟩ := A
  refine ⟨f, fd, ["ruler", "number"], hm, F.kp, F.bindsN fun _ _ _ _ _ _ us hl => (match us, hl with | [_, _], _ => rfl), ?_⟩
  exact mk_defS F sc_off_of (by
    intro ds t Φ h
    obtain ⟨_, hF, _⟩ := h
    repeat (obtain ⟨_, hF⟩ := hF)
    all_goals (subst_vars; rfl)) fun X i _ _ B hsc => b_off_of B hsc (H_size_of.to i) (H_less.to i) (H_rounded.to i)
theorem h_grain_of_span (A : At K mg "grain_of_span" 48) (H_has : Has P w K mg base "has" 2 p_has) (H_place_of : Has P w K mg base "place_of" 3 p_place_of) (H_grain_of : Has P w K mg base "grain_of" 5 p_grain_of) (H_small_size : Has P w K mg base "small_size" 3 p_small_size) (g_NOUGHT : ∃ v u, mg "NOUGHT" = some u ∧ RelV v u ∧ ∀ H, Rp K H v_NOUGHT v) : Has P w K mg base "grain_of_span" 6 p_grain_of_span := by
  obtain ⟨f, fd, hm, F⟩ := A
  refine ⟨f, fd, ["ruler", "low", "high"], hm, F.kp, F.bindsN fun _ _ _ _ _ _ us hl => (match us, hl with | [_, _, _], _ => rfl), ?_⟩
  exact mk_defS F sc_grain_of_span (by
    intro ds t Φ h
    obtain ⟨_, hF, _⟩ := h
    repeat (obtain ⟨_, hF⟩ := hF)
    all_goals (subst_vars; rfl)) fun X i _ _ B hsc => b_grain_of_span B hsc (H_has.to i) (H_place_of.to i) (H_grain_of.to i) (H_small_size.to i) (glb_to g_NOUGHT i)
theorem h_slack (A : At K mg "slack" 53) (H_is_exact : Has P w K mg base "is_exact" 4 p_is_exact) (H_step_of : Has P w K mg base "step_of" 4 p_step_of) (H_off_of : Has P w K mg base "off_of" 6 p_off_of) (H_great_size : Has P w K mg base "great_size" 3 p_great_size) (H_times : Has P w K mg base "times" 3 p_times) (g_HALF : ∃ v u, mg "HALF" = some u ∧ RelV v u ∧ ∀ H, Rp K H v_HALF v) (g_NOUGHT : ∃ v u, mg "NOUGHT" = some u ∧ RelV v u ∧ ∀ H, Rp K H v_NOUGHT v) : Has P w K mg base "slack" 7 p_slack := by
  obtain ⟨f, fd, hm, F⟩ := A
  refine ⟨f, fd, ["ruler", "span", "grain"], hm, F.kp, F.bindsN fun _ _ _ _ _ _ us hl => (match us, hl with | [_, _, _], _ => rfl), ?_⟩
  exact mk_defS F sc_slack (by
    intro ds t Φ h
    obtain ⟨_, hF, _⟩ := h
    repeat (obtain ⟨_, hF⟩ := hF)
    all_goals (subst_vars; rfl)) fun X i _ _ B hsc => b_slack B hsc (H_is_exact.to i) (H_step_of.to i) (H_off_of.to i) (H_great_size.to i) (H_times.to i) (glb_to g_HALF i) (glb_to g_NOUGHT i)
theorem h_last_entry (A : At K mg "last_entry" 57) (H_grain_of_span : Has P w K mg base "grain_of_span" 6 p_grain_of_span) (H_lesser : Has P w K mg base "lesser" 2 p_lesser) (H_apart : Has P w K mg base "apart" 5 p_apart) (H_need_small : Has P w K mg base "need_small" 2 p_need_small) (H_great_grain : Has P w K mg base "great_grain" 1 p_great_grain) (m_tuple : mg "tuple" = none) (m_list : mg "list" = none) : Has P w K mg base "last_entry" 7 p_last_entry := by
  obtain ⟨f, fd, hm, F⟩ := A
  refine ⟨f, fd, ["ruler", "span", "trues", "err", "grain"], hm, F.kp, F.bindsN fun _ _ _ _ _ _ us hl => (match us, hl with | [_, _, _, _, _], _ => rfl), ?_⟩
  exact mk_defS F sc_last_entry (by
    intro ds t Φ h
    obtain ⟨_, hF, _⟩ := h
    repeat (obtain ⟨_, hF⟩ := hF)
    all_goals (subst_vars; rfl)) fun X i _ _ B hsc => b_last_entry B hsc (H_grain_of_span.to i) (H_lesser.to i) (H_apart.to i) (H_need_small.to i) (H_great_grain.to i) (free_to m_tuple i) (free_to m_list i)
theorem h_rounded_entry (A : At K mg "rounded_entry" 58) (H_last_entry : Has P w K mg base "last_entry" 7 p_last_entry) (H_rounded : Has P w K mg base "rounded" 5 p_rounded) (H_plus : Has P w K mg base "plus" 3 p_plus) (H_slack : Has P w K mg base "slack" 7 p_slack) : Has P w K mg base "rounded_entry" 8 p_rounded_entry := by
  obtain ⟨f, fd, hm, F⟩ := A
  refine ⟨f, fd, ["ruler", "span", "trues", "err", "grain"], hm, F.kp, F.bindsN fun _ _ _ _ _ _ us hl => (match us, hl with | [_, _, _, _, _], _ => rfl), ?_⟩
  exact mk_defS F sc_rounded_entry (by
    intro ds t Φ h
    obtain ⟨_, hF, _⟩ := h
    repeat (obtain ⟨_, hF⟩ := hF)
    all_goals (subst_vars; rfl)) fun X i _ _ B hsc => b_rounded_entry B hsc (H_last_entry.to i) (H_rounded.to i) (H_plus.to i) (H_slack.to i)
theorem h_single_entry (A : At K mg "single_entry" 62) (H_last_entry : Has P w K mg base "last_entry" 7 p_last_entry) (H_size_span : Has P w K mg base "size_span" 4 p_size_span) (H_turned_span : Has P w K mg base "turned_span" 2 p_turned_span) (H_rounded_part : Has P w K mg base "rounded_part" 1 p_rounded_part) (H_true_part : Has P w K mg base "true_part" 1 p_true_part) : Has P w K mg base "single_entry" 8 p_single_entry := by
  obtain ⟨f, fd, hm, F⟩ := A
  refine ⟨f, fd, ["ruler", "word", "one"], hm, F.kp, F.bindsN fun _ _ _ _ _ _ us hl => (match us, hl with | [_, _, _], _ => rfl), ?_⟩
  exact mk_defS F sc_single_entry (by
    intro ds t Φ h
    obtain ⟨_, hF, _⟩ := h
    repeat (obtain ⟨_, hF⟩ := hF)
    all_goals (subst_vars; rfl)) fun X i _ _ B hsc => b_single_entry B hsc (H_last_entry.to i) (H_size_span.to i) (H_turned_span.to i) (H_rounded_part.to i) (H_true_part.to i)
theorem h_chosen_entry (A : At K mg "chosen_entry" 63) (H_last_entry : Has P w K mg base "last_entry" 7 p_last_entry) (H_rounded_part : Has P w K mg base "rounded_part" 1 p_rounded_part) (H_true_part : Has P w K mg base "true_part" 1 p_true_part) (H_least_span : Has P w K mg base "least_span" 3 p_least_span) (H_most_span : Has P w K mg base "most_span" 3 p_most_span) (H_greater : Has P w K mg base "greater" 2 p_greater) (H_less_grain : Has P w K mg base "less_grain" 1 p_less_grain) : Has P w K mg base "chosen_entry" 8 p_chosen_entry := by
  obtain ⟨f, fd, hm, F⟩ := A
  refine ⟨f, fd, ["ruler", "word", "one", "other"], hm, F.kp, F.bindsN fun _ _ _ _ _ _ us hl => (match us, hl with | [_, _, _, _], _ => rfl), ?_⟩
  exact mk_defS F sc_chosen_entry (by
    intro ds t Φ h
    obtain ⟨_, hF, _⟩ := h
    repeat (obtain ⟨_, hF⟩ := hF)
    all_goals (subst_vars; rfl)) fun X i _ _ B hsc => b_chosen_entry B hsc (H_last_entry.to i) (H_rounded_part.to i) (H_true_part.to i) (H_least_span.to i) (H_most_span.to i) (H_greater.to i) (H_less_grain.to i)
theorem h_picked_entry (A : At K mg "picked_entry" 65) (H_sides : Has P w K mg base "sides" 2 p_sides) (H_hull : Has P w K mg base "hull" 3 p_hull) (H_last_entry : Has P w K mg base "last_entry" 7 p_last_entry) (H_rounded_part : Has P w K mg base "rounded_part" 1 p_rounded_part) (H_true_part : Has P w K mg base "true_part" 1 p_true_part) (H_less_grain : Has P w K mg base "less_grain" 1 p_less_grain) (H_greater : Has P w K mg base "greater" 2 p_greater) (H_apart : Has P w K mg base "apart" 5 p_apart) (g_NOUGHT : ∃ v u, mg "NOUGHT" = some u ∧ RelV v u ∧ ∀ H, Rp K H v_NOUGHT v) : Has P w K mg base "picked_entry" 8 p_picked_entry := by
  obtain ⟨f, fd, hm, F⟩ := A
  refine ⟨f, fd, ["ruler", "one", "other", "some", "is_same"], hm, F.kp, F.bindsN fun _ _ _ _ _ _ us hl => (match us, hl with | [_, _, _, _, _], _ => rfl), ?_⟩
  exact mk_defS F sc_picked_entry (by
    intro ds t Φ h
    obtain ⟨_, hF, _⟩ := h
    repeat (obtain ⟨_, hF⟩ := hF)
    all_goals (subst_vars; rfl)) fun X i _ _ B hsc => b_picked_entry B hsc (H_sides.to i) (H_hull.to i) (H_last_entry.to i) (H_rounded_part.to i) (H_true_part.to i) (H_less_grain.to i) (H_greater.to i) (H_apart.to i) (glb_to g_NOUGHT i)
theorem h_sum_entry (A : At K mg "sum_entry" 59) (H_rounded_entry : Has P w K mg base "rounded_entry" 8 p_rounded_entry) (H_rounded_part : Has P w K mg base "rounded_part" 1 p_rounded_part) (H_true_part : Has P w K mg base "true_part" 1 p_true_part) (H_plus_spans : Has P w K mg base "plus_spans" 4 p_plus_spans) (H_less_spans : Has P w K mg base "less_spans" 5 p_less_spans) (H_plus : Has P w K mg base "plus" 3 p_plus) (H_less_grain : Has P w K mg base "less_grain" 1 p_less_grain) : Has P w K mg base "sum_entry" 9 p_sum_entry := by
  obtain ⟨f, fd, hm, F⟩ := A
  refine ⟨f, fd, ["ruler", "word", "one", "other"], hm, F.kp, F.bindsN fun _ _ _ _ _ _ us hl => (match us, hl with | [_, _, _, _], _ => rfl), ?_⟩
  exact mk_defS F sc_sum_entry (by
    intro ds t Φ h
    obtain ⟨_, hF, _⟩ := h
    repeat (obtain ⟨_, hF⟩ := hF)
    all_goals (subst_vars; rfl)) fun X i _ _ B hsc => b_sum_entry B hsc (H_rounded_entry.to i) (H_rounded_part.to i) (H_true_part.to i) (H_plus_spans.to i) (H_less_spans.to i) (H_plus.to i) (H_less_grain.to i)
theorem h_product_entry (A : At K mg "product_entry" 60) (H_times_spans : Has P w K mg base "times_spans" 4 p_times_spans) (H_plus : Has P w K mg base "plus" 3 p_plus) (H_rounded_entry : Has P w K mg base "rounded_entry" 8 p_rounded_entry) (H_rounded_part : Has P w K mg base "rounded_part" 1 p_rounded_part) (H_true_part : Has P w K mg base "true_part" 1 p_true_part) (H_times : Has P w K mg base "times" 3 p_times) (H_both_grains : Has P w K mg base "both_grains" 1 p_both_grains) (H_great_size : Has P w K mg base "great_size" 3 p_great_size) : Has P w K mg base "product_entry" 9 p_product_entry := by
  obtain ⟨f, fd, hm, F⟩ := A
  refine ⟨f, fd, ["ruler", "one", "other"], hm, F.kp, F.bindsN fun _ _ _ _ _ _ us hl => (match us, hl with | [_, _, _], _ => rfl), ?_⟩
  exact mk_defS F sc_product_entry (by
    intro ds t Φ h
    obtain ⟨_, hF, _⟩ := h
    repeat (obtain ⟨_, hF⟩ := hF)
    all_goals (subst_vars; rfl)) fun X i _ _ B hsc => b_product_entry B hsc (H_times_spans.to i) (H_plus.to i) (H_rounded_entry.to i) (H_rounded_part.to i) (H_true_part.to i) (H_times.to i) (H_both_grains.to i) (H_great_size.to i)
theorem h_quotient_entry (A : At K mg "quotient_entry" 61) (T : Np P w K mg base CN) (H_over_spans : Has P w K mg base "over_spans" 4 p_over_spans) (H_over : Has P w K mg base "over" 3 p_over) (H_rounded_entry : Has P w K mg base "rounded_entry" 8 p_rounded_entry) (H_has : Has P w K mg base "has" 2 p_has) (H_rounded_part : Has P w K mg base "rounded_part" 1 p_rounded_part) (H_true_part : Has P w K mg base "true_part" 1 p_true_part) (H_plus : Has P w K mg base "plus" 3 p_plus) (H_small_size : Has P w K mg base "small_size" 3 p_small_size) (H_times : Has P w K mg base "times" 3 p_times) (H_great_size : Has P w K mg base "great_size" 3 p_great_size) (g_NOUGHT : ∃ v u, mg "NOUGHT" = some u ∧ RelV v u ∧ ∀ H, Rp K H v_NOUGHT v) : HasX P w K mg base CN "quotient_entry" 9 p_quotient_entry := by
  obtain ⟨f, fd, hm, F⟩ := A
  refine ⟨f, fd, ["ruler", "one", "other", "row"], hm, F.kp, F.bindsN fun _ _ _ _ _ _ us hl => (match us, hl with | [_, _, _, _], _ => rfl), ?_⟩
  exact mk_defX F sc_quotient_entry (by
    intro ds Φ Ω h
    repeat (obtain ⟨_, h⟩ := h)
    all_goals (subst_vars; rfl)) fun X e1 e2 e3 e4 e5 B hsc => have i : In X P w K mg base := ⟨e1, e2, e3, e4, e5⟩; b_quotient_entry B hsc (T.to i) (H_over_spans.to i) (H_over.to i) (H_rounded_entry.to i) (H_has.to i) (H_rounded_part.to i) (H_true_part.to i) (H_plus.to i) (H_small_size.to i) (H_times.to i) (H_great_size.to i) (glb_to g_NOUGHT i)
theorem h_entry_of (A : At K mg "entry_of" 66) (T : Np P w K mg base CN) (H_picked_entry : Has P w K mg base "picked_entry" 8 p_picked_entry) (H_rounded_entry : Has P w K mg base "rounded_entry" 8 p_rounded_entry) (H_sum_entry : Has P w K mg base "sum_entry" 9 p_sum_entry) (H_product_entry : Has P w K mg base "product_entry" 9 p_product_entry) (H_quotient_entry : HasX P w K mg base CN "quotient_entry" 9 p_quotient_entry) (H_single_entry : Has P w K mg base "single_entry" 8 p_single_entry) (H_chosen_entry : Has P w K mg base "chosen_entry" 8 p_chosen_entry) (g_NOUGHT : ∃ v u, mg "NOUGHT" = some u ∧ RelV v u ∧ ∀ H, Rp K H v_NOUGHT v) : HasX P w K mg base CN "entry_of" 10 p_entry_of := by
  obtain ⟨f, fd, hm, F⟩ := A
  refine ⟨f, fd, ["ruler", "work", "known", "row"], hm, F.kp, F.bindsN fun _ _ _ _ _ _ us hl => (match us, hl with | [_, _, _, _], _ => rfl), ?_⟩
  exact mk_defX F sc_entry_of (by
    intro ds Φ Ω h
    repeat (obtain ⟨_, h⟩ := h)
    all_goals (subst_vars; rfl)) fun X e1 e2 e3 e4 e5 B hsc => have i : In X P w K mg base := ⟨e1, e2, e3, e4, e5⟩; b_entry_of B hsc (T.to i) (H_picked_entry.to i) (H_rounded_entry.to i) (H_sum_entry.to i) (H_product_entry.to i) (H_quotient_entry.to i) (H_single_entry.to i) (H_chosen_entry.to i) (glb_to g_NOUGHT i)
theorem h__law_told (A : At K mg "_law_told" 91) (T : Np P w K mg base CN) (H_entry_of : HasX P w K mg base CN "entry_of" 10 p_entry_of) : Has P w K mg base "_law_told" 11 p__law_told := by
  obtain ⟨f, fd, hm, F⟩ := A
  refine ⟨f, fd, ["_law_ruler_here", "_law_work", "_law_known"], hm, F.kp, F.bindsN fun _ _ _ _ _ _ us hl => (match us, hl with | [_, _, _], _ => rfl), ?_⟩
  exact mk_defS F sc__law_told (by
    intro ds t Φ h
    obtain ⟨_, hF, _⟩ := h
    repeat (obtain ⟨_, hF⟩ := hF)
    all_goals (subst_vars; rfl)) fun X i hs hf B hsc => b__law_told B hsc (T.to i) (H_entry_of.to i) hs hf
theorem h__law_right (A : At K mg "_law_right" 92) (H__law_told : Has P w K mg base "_law_told" 11 p__law_told) (H__law_holds : Has P w K mg base "_law_holds" 2 p__law_holds) (m_repr : mg "repr" = none) (m_dict : mg "dict" = none) : HasG P w K mg base "_law_right" 12 p__law_right := by
  obtain ⟨f, fd, hm, F⟩ := A
  refine ⟨f, fd, ["_law_ruler_here", "_law_names_here", "_law_narrow", "_law_wide", "_law_number_here"], hm, F.kp, F.bindsN fun _ _ _ _ _ _ us hl => (match us, hl with | [_, _, _, _, _], _ => rfl), ?_⟩
  exact mk_defG F sc__law_right (by
    intro ds t Φ h
    obtain ⟨_, hF, _⟩ := h
    repeat (obtain ⟨_, hF⟩ := hF)
    all_goals (subst_vars; rfl)) fun X e1 e2 e3 e4 e5 gu B hsc => have i : In X P w K mg base := ⟨e1, e2, e3, e4, e5⟩; b__law_right B hsc (H__law_told.to i) (H__law_holds.to i) (free_to m_repr i) (free_to m_dict i) gu
theorem g_law {f : Addr} {fd : FuncData} (F : FnP K "law" 93 f fd) (H__law_begun : Has P w K mg base "_law_begun" 1 p__law_begun) (H__law_open : Has P w K mg base "_law_open" 2 p__law_open) (H__law_ruler : Has P w K mg base "_law_ruler" 3 p__law_ruler) (H__law_names : Has P w K mg base "_law_names" 3 p__law_names) (H__law_entry : Has P w K mg base "_law_entry" 5 p__law_entry) (H__law_wider : Has P w K mg base "_law_wider" 4 p__law_wider) (H__law_right : HasG P w K mg base "_law_right" 12 p__law_right) (H__law_number : Has P w K mg base "_law_number" 3 p__law_number) (m_max : mg "max" = none) (m_range : mg "range" = none) (m_min : mg "min" = none) (m_len : mg "len" = none) (m_dict : mg "dict" = none) (m_zip : mg "zip" = none) : FnG P w K mg base 13 f fd ["_law_script"] (spS K p_law) := by
  exact mk_defG F sc_law (by
    intro ds t Φ h
    repeat (obtain ⟨_, h⟩ := h)
    all_goals (subst_vars; rfl)) fun X e1 e2 e3 e4 e5 gu B hsc => have i : In X P w K mg base := ⟨e1, e2, e3, e4, e5⟩; b_law B hsc (H__law_begun.to i) (H__law_open.to i) (H__law_ruler.to i) (H__law_names.to i) (H__law_entry.to i) (H__law_wider.to i) (H__law_right.to i) (H__law_number.to i) (free_to m_max i) (free_to m_range i) (free_to m_min i) (free_to m_len i) (free_to m_dict i) (free_to m_zip i) gu
end
/-! ### the head: facts by names -/
def fnL0 : List He.DefD := [⟨("shared", none), "shared", "shared", defArgs (top 7), defBody (top 7), defScope (top 7), [], []⟩, ⟨("fraction", none), "fraction", "fraction", defArgs (top 8), defBody (top 8), defScope (top 8), [], []⟩, ⟨("is_great", none), "is_great", "is_great", defArgs (top 9), defBody (top 9), defScope (top 9), [], []⟩, ⟨("need_small", none), "need_small", "need_small", defArgs (top 10), defBody (top 10), defScope (top 10), [], []⟩, ⟨("whole_of", none), "whole_of", "whole_of", defArgs (top 11), defBody (top 11), defScope (top 11), [], []⟩, ⟨("plus", none), "plus", "plus", defArgs (top 12), defBody (top 12), defScope (top 12), [], []⟩, ⟨("turned", none), "turned", "turned", defArgs (top 13), defBody (top 13), defScope (top 13), [], []⟩, ⟨("less", none), "less", "less", defArgs (top 14), defBody (top 14), defScope (top 14), [], []⟩, ⟨("times", none), "times", "times", defArgs (top 15), defBody (top 15), defScope (top 15), [], []⟩, ⟨("over", none), "over", "over", defArgs (top 16), defBody (top 16), defScope (top 16), [], []⟩, ⟨("size_of", none), "size_of", "size_of", defArgs (top 17), defBody (top 17), defScope (top 17), [], []⟩, ⟨("is_less", none), "is_less", "is_less", defArgs (top 18), defBody (top 18), defScope (top 18), [], []⟩, ⟨("lesser", none), "lesser", "lesser", defArgs (top 19), defBody (top 19), defScope (top 19), [], []⟩, ⟨("greater", none), "greater", "greater", defArgs (top 20), defBody (top 20), defScope (top 20), [], []⟩, ⟨("power", none), "power", "power", defArgs (top 21), defBody (top 21), defScope (top 21), [], []⟩, ⟨("is_enough", none), "is_enough", "is_enough", defArgs (top 23), defBody (top 23), defScope (top 23), [], []⟩, ⟨("place_of", none), "place_of", "place_of", defArgs (top 24), defBody (top 24), defScope (top 24), [], []⟩, ⟨("step_of", none), "step_of", "step_of", defArgs (top 25), defBody (top 25), defScope (top 25), [], []⟩, ⟨("whole_by", none), "whole_by", "whole_by", defArgs (top 26), defBody (top 26), defScope (top 26), [], []⟩, ⟨("rounded", none), "rounded", "rounded", defArgs (top 27), defBody (top 27), defScope (top 27), [], []⟩]
def fnL1 : List He.DefD := [⟨("off_of", none), "off_of", "off_of", defArgs (top 28), defBody (top 28), defScope (top 28), [], []⟩, ⟨("is_multiple", none), "is_multiple", "is_multiple", defArgs (top 29), defBody (top 29), defScope (top 29), [], []⟩, ⟨("span_of", none), "span_of", "span_of", defArgs (top 31), defBody (top 31), defScope (top 31), [], []⟩, ⟨("has", none), "has", "has", defArgs (top 32), defBody (top 32), defScope (top 32), [], []⟩, ⟨("hull", none), "hull", "hull", defArgs (top 33), defBody (top 33), defScope (top 33), [], []⟩, ⟨("plus_spans", none), "plus_spans", "plus_spans", defArgs (top 34), defBody (top 34), defScope (top 34), [], []⟩, ⟨("turned_span", none), "turned_span", "turned_span", defArgs (top 35), defBody (top 35), defScope (top 35), [], []⟩, ⟨("less_spans", none), "less_spans", "less_spans", defArgs (top 36), defBody (top 36), defScope (top 36), [], []⟩, ⟨("times_spans", none), "times_spans", "times_spans", defArgs (top 37), defBody (top 37), defScope (top 37), [], []⟩, ⟨("over_spans", none), "over_spans", "over_spans", defArgs (top 38), defBody (top 38), defScope (top 38), [], []⟩, ⟨("great_size", none), "great_size", "great_size", defArgs (top 39), defBody (top 39), defScope (top 39), [], []⟩, ⟨("small_size", none), "small_size", "small_size", defArgs (top 40), defBody (top 40), defScope (top 40), [], []⟩, ⟨("size_span", none), "size_span", "size_span", defArgs (top 41), defBody (top 41), defScope (top 41), [], []⟩, ⟨("least_span", none), "least_span", "least_span", defArgs (top 42), defBody (top 42), defScope (top 42), [], []⟩, ⟨("most_span", none), "most_span", "most_span", defArgs (top 43), defBody (top 43), defScope (top 43), [], []⟩, ⟨("apart", none), "apart", "apart", defArgs (top 44), defBody (top 44), defScope (top 44), [], []⟩, ⟨("grain_of", none), "grain_of", "grain_of", defArgs (top 47), defBody (top 47), defScope (top 47), [], []⟩, ⟨("grain_of_span", none), "grain_of_span", "grain_of_span", defArgs (top 48), defBody (top 48), defScope (top 48), [], []⟩, ⟨("less_grain", none), "less_grain", "less_grain", defArgs (top 49), defBody (top 49), defScope (top 49), [], []⟩, ⟨("great_grain", none), "great_grain", "great_grain", defArgs (top 50), defBody (top 50), defScope (top 50), [], []⟩]
def fnL2 : List He.DefD := [⟨("both_grains", none), "both_grains", "both_grains", defArgs (top 51), defBody (top 51), defScope (top 51), [], []⟩, ⟨("is_exact", none), "is_exact", "is_exact", defArgs (top 52), defBody (top 52), defScope (top 52), [], []⟩, ⟨("slack", none), "slack", "slack", defArgs (top 53), defBody (top 53), defScope (top 53), [], []⟩, ⟨("rounded_part", none), "rounded_part", "rounded_part", defArgs (top 55), defBody (top 55), defScope (top 55), [], []⟩, ⟨("true_part", none), "true_part", "true_part", defArgs (top 56), defBody (top 56), defScope (top 56), [], []⟩, ⟨("last_entry", none), "last_entry", "last_entry", defArgs (top 57), defBody (top 57), defScope (top 57), [], []⟩, ⟨("rounded_entry", none), "rounded_entry", "rounded_entry", defArgs (top 58), defBody (top 58), defScope (top 58), [], []⟩, ⟨("sum_entry", none), "sum_entry", "sum_entry", defArgs (top 59), defBody (top 59), defScope (top 59), [], []⟩, ⟨("product_entry", none), "product_entry", "product_entry", defArgs (top 60), defBody (top 60), defScope (top 60), [], []⟩, ⟨("quotient_entry", none), "quotient_entry", "quotient_entry", defArgs (top 61), defBody (top 61), defScope (top 61), [], []⟩, ⟨("single_entry", none), "single_entry", "single_entry", defArgs (top 62), defBody (top 62), defScope (top 62), [], []⟩, ⟨("chosen_entry", none), "chosen_entry", "chosen_entry", defArgs (top 63), defBody (top 63), defScope (top 63), [], []⟩, ⟨("sides", none), "sides", "sides", defArgs (top 64), defBody (top 64), defScope (top 64), [], []⟩, ⟨("picked_entry", none), "picked_entry", "picked_entry", defArgs (top 65), defBody (top 65), defScope (top 65), [], []⟩, ⟨("entry_of", none), "entry_of", "entry_of", defArgs (top 66), defBody (top 66), defScope (top 66), [], []⟩, ⟨("_law_mixed", none), "_law_mixed", "_law_mixed", defArgs (top 68), defBody (top 68), defScope (top 68), [], []⟩, ⟨("_law_begun", none), "_law_begun", "_law_begun", defArgs (top 69), defBody (top 69), defScope (top 69), [], []⟩, ⟨("_law_open", none), "_law_open", "_law_open", defArgs (top 70), defBody (top 70), defScope (top 70), [], []⟩, ⟨("_law_draw", none), "_law_draw", "_law_draw", defArgs (top 71), defBody (top 71), defScope (top 71), [], []⟩, ⟨("_law_made", none), "_law_made", "_law_made", defArgs (top 72), defBody (top 72), defScope (top 72), [], []⟩]
def fnL3 : List He.DefD := [⟨("_law_plus", none), "_law_plus", "_law_plus", defArgs (top 73), defBody (top 73), defScope (top 73), [], []⟩, ⟨("_law_less", none), "_law_less", "_law_less", defArgs (top 74), defBody (top 74), defScope (top 74), [], []⟩, ⟨("_law_times", none), "_law_times", "_law_times", defArgs (top 75), defBody (top 75), defScope (top 75), [], []⟩, ⟨("_law_below", none), "_law_below", "_law_below", defArgs (top 76), defBody (top 76), defScope (top 76), [], []⟩, ⟨("_law_ends", none), "_law_ends", "_law_ends", defArgs (top 77), defBody (top 77), defScope (top 77), [], []⟩, ⟨("_law_number", none), "_law_number", "_law_number", defArgs (top 78), defBody (top 78), defScope (top 78), [], []⟩, ⟨("_law_power", none), "_law_power", "_law_power", defArgs (top 79), defBody (top 79), defScope (top 79), [], []⟩, ⟨("_law_place", none), "_law_place", "_law_place", defArgs (top 80), defBody (top 80), defScope (top 80), [], []⟩, ⟨("_law_rounded", none), "_law_rounded", "_law_rounded", defArgs (top 81), defBody (top 81), defScope (top 81), [], []⟩, ⟨("_law_ruler", none), "_law_ruler", "_law_ruler", defArgs (top 82), defBody (top 82), defScope (top 82), [], []⟩, ⟨("_law_mark", none), "_law_mark", "_law_mark", defArgs (top 83), defBody (top 83), defScope (top 83), [], []⟩, ⟨("_law_marks", none), "_law_marks", "_law_marks", defArgs (top 84), defBody (top 84), defScope (top 84), [], []⟩, ⟨("_law_size_of", none), "_law_size_of", "_law_size_of", defArgs (top 85), defBody (top 85), defScope (top 85), [], []⟩, ⟨("_law_own_grain", none), "_law_own_grain", "_law_own_grain", defArgs (top 86), defBody (top 86), defScope (top 86), [], []⟩, ⟨("_law_names", none), "_law_names", "_law_names", defArgs (top 87), defBody (top 87), defScope (top 87), [], []⟩, ⟨("_law_entry", none), "_law_entry", "_law_entry", defArgs (top 88), defBody (top 88), defScope (top 88), [], []⟩, ⟨("_law_wider", none), "_law_wider", "_law_wider", defArgs (top 89), defBody (top 89), defScope (top 89), [], []⟩, ⟨("_law_holds", none), "_law_holds", "_law_holds", defArgs (top 90), defBody (top 90), defScope (top 90), [], []⟩, ⟨("_law_told", none), "_law_told", "_law_told", defArgs (top 91), defBody (top 91), defScope (top 91), [], []⟩, ⟨("_law_right", none), "_law_right", "_law_right", defArgs (top 92), defBody (top 92), defScope (top 92), [], []⟩]
def fnL4 : List He.DefD := [⟨("law", none), "law", "law", defArgs (top 93), defBody (top 93), defScope (top 93), [], []⟩]
def fnI : He.DefD := ⟨("NoPaper", some "__init__"), "__init__", "NoPaper.__init__", defArgs initSt, defBody initSt, defScope initSt, [], []⟩
def fnAll : List He.DefD := fnL0 ++ fnL1 ++ fnL2 ++ fnL3 ++ fnL4 ++ [fnI]
def faL0 : List He.Fa := [.glo "shared", .glo "fraction", .glo "is_great", .glo "need_small", .glo "whole_of", .glo "plus", .glo "turned", .glo "less", .glo "times", .glo "over", .glo "size_of", .glo "is_less", .glo "lesser", .glo "greater", .glo "power", .glo "is_enough", .glo "place_of", .glo "step_of", .glo "whole_by", .glo "rounded"]
def faL1 : List He.Fa := [.glo "off_of", .glo "is_multiple", .glo "span_of", .glo "has", .glo "hull", .glo "plus_spans", .glo "turned_span", .glo "less_spans", .glo "times_spans", .glo "over_spans", .glo "great_size", .glo "small_size", .glo "size_span", .glo "least_span", .glo "most_span", .glo "apart", .glo "grain_of", .glo "grain_of_span", .glo "less_grain", .glo "great_grain"]
def faL2 : List He.Fa := [.glo "both_grains", .glo "is_exact", .glo "slack", .glo "rounded_part", .glo "true_part", .glo "last_entry", .glo "rounded_entry", .glo "sum_entry", .glo "product_entry", .glo "quotient_entry", .glo "single_entry", .glo "chosen_entry", .glo "sides", .glo "picked_entry", .glo "entry_of", .glo "_law_mixed", .glo "_law_begun", .glo "_law_open", .glo "_law_draw", .glo "_law_made"]
def faL3 : List He.Fa := [.glo "_law_plus", .glo "_law_less", .glo "_law_times", .glo "_law_below", .glo "_law_ends", .glo "_law_number", .glo "_law_power", .glo "_law_place", .glo "_law_rounded", .glo "_law_ruler", .glo "_law_mark", .glo "_law_marks", .glo "_law_size_of", .glo "_law_own_grain", .glo "_law_names", .glo "_law_entry", .glo "_law_wider", .glo "_law_holds", .glo "_law_told", .glo "_law_right"]
def faL4 : List He.Fa := [.glo "law"]
def faR : List He.Fa := [.glo "NoPaper", .glo "RoundError", .glo "NOUGHT", .glo "HALF", .int "GREATEST" ((10 ^ 60) ^ 10), .exm "NoPaper" "NoPaper" true, .noat "NoPaper" "row", .free "abs", .free "dict", .free "enumerate", .free "int", .free "len", .free "list", .free "max", .free "min", .free "range", .free "repr", .free "tuple", .free "zip"]
def faAll : List He.Fa := faL0 ++ faL1 ++ faL2 ++ faL3 ++ faL4 ++ faR
end RS
/-! part RSEnd0 -/
namespace RS
open PySem PySem.Spec PyProof.Rows L2
/-! ### the call of the law, where no repr is under way -/
theorem call_lawG {P : Program} {w : World} {K : PySem.W.Frag} {mg mb : Str → Option Value} {k : Nat} {fa a : Addr} {fd : FuncData} {x : Str} {sp : Sp} {st : Shared} {us : List Value} {ns : List Int}
    (KX : K.In st.heap) (g1 : st.heap.Ns mainGlobals mg) (g2 : st.heap.Ns builtinsNs mb) (g3 : ∀ x : Str, x ≠ "__name__" → mb x = bootBuiltins x) (g4 : st.heap.NoLimit) (g5 : st.gens = #[])
    (sc : st.heap.get? a = some { cls := .type "list", data := .seq us.toArray }) (si : IntsAre us ns) (sl : ns.length ≤ sizeLine) (room : Room k callerA)
    (F : ∀ base : Heap, K.In base → base.Ns mainGlobals mg → FnG P w K mg base k fa fd [x] sp) (bnd : ∀ (s : Shared) (u : Value), BindsTo s fd ⟨[u], []⟩ [(x, u)])
    (prom : ∀ H : Hp, Only H → SqL K H a (ns.map V.int) → sp [.ref a] H (fun v _ => v = .bl true) fun _ _ _ => False) :
    codeAny (model P w) callerA (.call (.ref fa) ⟨[.ref a], []⟩) (fun r s' => r = .ok (.ret (.bool true)) ∧ OldK st.heap s'.heap ∧ s'.os = st.os ∧ AllBare s'.gens) st := by
  have rvs := vals_ints si
  have len := si.length
  have main : ∀ H : Hp, Only H → SqL K H a (ns.map V.int) → HOk P w H st.heap → (∀ b, H b ≠ none → b = a) → (H a ≠ none → K.lookup a = none) →
      codeAny (model P w) callerA (.call (.ref fa) ⟨[.ref a], []⟩) (fun r s' => r = .ok (.ret (.bool true)) ∧ OldK st.heap s'.heap ∧ s'.os = st.os ∧ AllBare s'.gens) st := by
    intro H only seq ok self free
    have isA : ∀ {b : Addr} {u : HO}, H b = some u → b = a := fun {b u} z => self b (by rw [z]; simp)
    have noDict : ∀ {b : Addr} {o : Obj} {es : Array DictEntry} {ep : Nat}, st.heap.get? b = some o → o.data = .dict es ep → H b = none := by
      intro b o es ep e d
      cases z : H b with
      | none => rfl
      | some u =>
        have eb := isA z
        subst eb
        rw [sc] at e
        cases e
        exact absurd (show Data.seq us.toArray _ = Data.dict es ep from d) (fun y => nomatch y)
    have ns2 : ∀ {b : Addr} {m : Str → Option Value}, st.heap.Ns b m → (hidT st.heap H).Ns b m := fun {b m} z => by
      obtain ⟨o, es, ep, e, d, r⟩ := z
      exact ⟨o, es, ep, hidT_get e (noDict e d), d, r⟩
    have KB : K.In (hidT st.heap H) := by
      intro b o e
      refine hidT_get (KX b o e) ?_
      cases z : H b with
      | none => rfl
      | some u =>
        have eb := isA z
        subst eb
        rw [free (by rw [z]; simp)] at e
        cases e
    have mod : Mod K mg (hidT st.heap H) := ⟨KB, ns2 g1, ⟨mb, ns2 g2, g3⟩, by obtain ⟨mc, y1, y2⟩ := g4; exact ⟨mc, ns2 y1, y2⟩⟩
    have en0 : Env0 P w K mg (hidT st.heap H) callerA [] st H := ⟨rfl, mod, fun _ _ e => of_hidT e, Nat.le_of_eq (hidT_size _ _), trivial, fun _ hb => (by cases hb), ok, .of_eq g5⟩
    refine codeAny_mono ((F _ KB (ns2 g1)).2 callerA [] st H ⟨[.ref a], []⟩ [.ref a] [.ref a] _ _ rfl room en0 (bnd st (.ref a)) (.cons rfl .nil) (prom H only seq)) fun r s' hr => ?_
    match r, hr with
    | .error _, hr => exact hr.elim
    | .ok .next, hr => exact hr.elim
    | .ok .brk, hr => exact hr.elim
    | .ok .cont, hr => exact hr.elim
    | .ok (.ret u), hr =>
      obtain ⟨v, H', os, bare, un, ok', rv, hv⟩ := hr
      have hv : v = .bl true := hv
      subst hv
      obtain rfl : u = Value.bool true := rv
      refine ⟨rfl, OldK.of_keep fun b o e => ?_, os, bare⟩
      rcases only b with z | ⟨ob, xs, z⟩
      · exact un.keep b o e z (fun y => by cases y) (by simp)
      · obtain ⟨e1, _⟩ := ok b _ z
        obtain ⟨e2, _⟩ := ok' b _ (un.frzs b ob _ z)
        rw [e] at e1
        cases e1
        exact e2
  cases z : K.lookup a with
  | some o =>
    have e := (KX a o z).symm.trans sc
    cases e
    exact main (fun _ => none) (fun _ => .inl rfl) (.inr ⟨_, us.toArray, _, z, rfl, rfl, rfl, by rw [List.size_toArray, len]; exact sl, by simpa using rvs⟩) (fun b u y => absurd (show (none : Option HO) = some u from y) (fun q => nomatch q)) (fun b y => absurd rfl y) fun y => absurd rfl y
  | none =>
    have same : (if a = a then some (HO.frz { cls := .type "list", data := .seq us.toArray } (.lst (ns.map V.int))) else none) = some (.frz { cls := .type "list", data := .seq us.toArray } (.lst (ns.map V.int))) := if_pos rfl
    refine main (fun b => if b = a then some (.frz { cls := .type "list", data := .seq us.toArray } (.lst (ns.map V.int))) else none) (fun b => ?_) (.inl (.inr ⟨_, same⟩)) (fun b u y => ?_) (fun b y => ?_) fun _ => z
    · rcases Decidable.em (b = a) with hb | hb
      · exact .inr ⟨_, _, if_pos hb⟩
      · exact .inl (if_neg hb)
    · rcases Decidable.em (b = a) with hb | hb
      · subst hb
        have y' := same.symm.trans y
        cases y'
        exact ⟨sc, by rw [List.length_map]; exact sl, us, _, rvs, sc⟩
      · have y' := (if_neg hb).symm.trans y
        cases y'
    · exact Decidable.byContradiction fun hb => y (if_neg hb)
theorem walk_ofG {l : PySem.W.OpenLaw} {n k : Nat} {q : Program} {loose : List Str} {XP : (Str → Option Value) → Heap → Prop} {YP : World → Heap → Prop} {d : DefRec} {x : Str}
    (hn : l.most = some n) (hn2 : n ≤ sizeLine) (hdf : d.params.defaults = []) (room : Room k callerA)
    (F : ∀ (w : World) (mg : Str → Option Value) (fa : Addr) (h : Heap), YP w h → h.Ns mainGlobals mg → mg d.name = some (.ref fa) →
      ∃ (K : PySem.W.Frag) (fd : FuncData) (sp : Sp), K.In h ∧ (∀ (s : Shared) (u : Value), BindsTo s fd ⟨[u], []⟩ [(x, u)]) ∧
        (∀ (H : Hp) (a : Addr) (ns : List Int), ns.length ≤ n → Only H → SqL K H a (ns.map V.int) → sp [.ref a] H (fun v _ => v = .bl true) fun _ _ _ => False) ∧
        ∀ base : Heap, K.In base → base.Ns mainGlobals mg → FnG l.prog w K mg base k fa fd [x] sp) :
    PySem.W.WalkO q loose XP YP l.row.toRowW d [] (fun f vs => PySem.call f vs) :=
  Att.attach_call hn hdf fun w _ s1 mg _ fa _ _ _ _ a _ ns G Y _ _ _ hm hobj hints hlen hg => by
    obtain ⟨K, fd, sp, KX, hb, hsp, hF⟩ := F w mg fa _ Y G.T.g hm
    exact call_lawG KX G.T.g G.T.b G.T.builtins G.T.nolimit hg hobj hints (Nat.le_trans hlen hn2) room hF hb fun H only seq => hsp H a ns hlen only seq
end RS
/-! part RSEnd1 -/
namespace RS
open PySem PySem.Spec PyProof.Rows L2
/-! ### what of the classes is looked at -/
def oexB (K : PySem.W.Frag) (C : Addr) : Bool := match K.lookup C with
  | some ⟨.type t, _, .cls cd, sl⟩ => (match cd.mro, sl.toList with
    | .ref C' :: bm, [_, _, _, _, some (.builtin m), _] => (decide (t = "type") && (C' == C)) && ((m == "ValueError.__new__" && !cd.hasDel) && (HandSPX.refsVE bm && cd.hasDict))
    | _, _ => false)
  | _ => false
theorem oexB_ok {K : PySem.W.Frag} {C : Addr} (h : oexB K C = true) : ∃ nm q N bs bm sn sub ab col dd k0 k1 k2 k3 k5, K.lookup C = some (excClassObj nm q C N bs bm true sn sub ab col dd k0 k1 k2 k3 k5 "ValueError.__new__") ∧ HandSPX.refsVE bm = true := by
  unfold oexB at h
  split at h
  · rename_i t dd cd sl lk
    split at h
    · rename_i C' bm k0 k1 k2 k3 m k5 hm hs
      obtain ⟨h1, h2⟩ := He.ba h
      obtain ⟨h3, h4⟩ := He.ba h1
      obtain ⟨h5, h6⟩ := He.ba h2
      obtain ⟨h7, h8⟩ := He.ba h5
      obtain ⟨h9, h10⟩ := He.ba h6
      have t1 := of_decide_eq_true h3
      have t2 : C' = C := eq_of_beq h4
      have t3 : m = "ValueError.__new__" := eq_of_beq h7
      obtain ⟨nm, bs, mro, ns, qn, hd, sn, sub, ab, col, del⟩ := cd
      dsimp only at hm h8 h10
      have t4 : del = false := by simpa using h8
      subst t1 t2 t3 t4 hm h10
      obtain ⟨lst⟩ := sl
      have hs : lst = _ := hs
      subst hs
      exact ⟨nm, qn, ns, bs, bm, sn, sub, ab, col, dd, k0, k1, k2, k3, k5, lk, h9⟩
    · cases h
  · cases h
def isVal (o : Option PySem.W.CFound) (s : String) : Bool := match o with
  | some (.val (.builtin b)) => decide (b = s)
  | _ => false
theorem isVal_ok {o : Option PySem.W.CFound} {s : String} (h : isVal o s = true) : o = some (.val (.builtin s)) := by
  unfold isVal at h
  split at h
  · rw [of_decide_eq_true h]
  · cases h
def xtra (K : PySem.W.Frag) : Bool :=
  ((oexB K (He.ga K "NoPaper") && He.eqO (PySem.W.findIn K (.ref (He.ga K "NoPaper")) "__setattr__") (some (some (.builtin "object.__setattr__")))) &&
    (decide (PySem.W.subIn K (.ref (He.ga K "NoPaper")) (.type "BaseException") = some true) && decide (PySem.W.typeIn K (.ref (He.ga K "NoPaper")) = some (.type "type")))) &&
  (((PySem.W.keepIn K (.ref (He.ga K "NoPaper")) && He.eqO (PySem.W.findIn K (.ref (He.ga K "NoPaper")) "__init__") (some (some (.ref (He.ma K (He.ga K "NoPaper") "__init__"))))) &&
    (decide (PySem.W.typeIn K (.ref (He.ma K (He.ga K "NoPaper") "__init__")) = some (.type "function")) && PySem.W.readsIn K (He.ga K "RoundError") (.type "type"))) &&
  ((He.eqO (PySem.W.specialIn K (.ref (He.ga K "RoundError")) "__getattribute__") (some (some (.builtin "type.__getattribute__"))) && isVal (PySem.W.findCls K (.ref (He.ga K "RoundError")) (.type "type") "__init__") "ValueError.__init__") &&
    (He.tupB K "NOUGHT" [.int 0, .int 1] && He.tupB K "HALF" [.int 1, .int 2])))
/-! ### the Hook -/
def asR (g : Addr → Option Obj) : List Addr := He.asD g 5 ++ [cStatics]
abbrev AlR : Type := Bool × He.AlD
def obsR (K : PySem.W.Frag) : AlR := (xtra K, He.obsD faAll fnAll K)
def valR : AlR := (true, He.valD fnAll)
def SaysR (K : PySem.W.Frag) : Prop := obsR K = valR
def obsRG (g : Addr → Option Obj) : AlR := obsR (He.frG g (asR g))
def hookR : PySem.W.Hook where
  α := AlR
  obs := fun s => obsRG s.heap.get?
  val := fun _ => valR
  says := fun _ h => ∃ K : PySem.W.Frag, K.In h ∧ SaysR K
  of := fun _ _ e => ⟨_, He.frG_in, e⟩
  keeps := fun _ _ _ ⟨K, hK, c⟩ k => ⟨K, PySem.W.Frag.In.keeps hK k, c⟩
theorem obsRG_eq {g : Addr → Option Obj} {s : Shared} (h : ∀ a, g a = s.heap.get? a) : obsRG g = hookR.obs s := by
  have e : g = s.heap.get? := funext h
  rw [e]
  rfl
/-! ### the law, from these facts -/
theorem tup_glb {K : PySem.W.Frag} {mg : Str → Option Value} {h : Heap} (X : K.In h) (G : h.Ns mainGlobals mg) {x : Str} {i j : Int} (c1 : (He.Fa.glo x).ok K = true) (c2 : He.tupB K x [.int i, .int j] = true) : ∃ v u, mg x = some u ∧ RelV v u ∧ ∀ H, Rp K H (.tup [.int i, .int j]) v :=
  ⟨.ref (He.ga K x), .ref (He.ga K x), He.glo_ok X G c1, rfl, fun H => .tup (He.tupB_ok c2 H) (.cons (.int i) (.cons (.int j) .nil))⟩
theorem facts {P : Program} {w : World} {K : PySem.W.Frag} {h : Heap} {mg : Str → Option Value} {f : Addr} (X : K.In h) (G : h.Ns mainGlobals mg) (hfa : mg ("law" : Str) = some (.ref f)) (c : SaysR K) :
    ∃ fd : FuncData, (∀ (s : Shared) (v : Value), BindsTo s fd ⟨[v], []⟩ [("_law_script", v)]) ∧ ∀ base : Heap, FnG P w K mg base 13 f fd ["_law_script"] (spS K p_law) := by
  have cx : xtra K = true := congrArg (fun z : AlR => z.1) c
  have cd : He.SaysD faAll fnAll K := congrArg (fun z : AlR => z.2) c
  obtain ⟨xa, xb⟩ := He.ba cx
  obtain ⟨xc, xd⟩ := He.ba xa
  obtain ⟨x1, x2⟩ := He.ba xc
  obtain ⟨x3, x4⟩ := He.ba xd
  obtain ⟨xe, xf⟩ := He.ba xb
  obtain ⟨xg, xh⟩ := He.ba xe
  obtain ⟨x5, x6⟩ := He.ba xg
  obtain ⟨x7, x8⟩ := He.ba xh
  obtain ⟨xi, xj⟩ := He.ba xf
  obtain ⟨x9, x10⟩ := He.ba xi
  obtain ⟨x11, x12⟩ := He.ba xj
  have A_shared : At K mg "shared" 7 := by
    obtain ⟨fd, F⟩ := cd.def_ 0 rfl
    exact ⟨_, fd, He.glo_ok X G (cd.fact 0 (f := .glo "shared") rfl), F⟩
  have A_fraction : At K mg "fraction" 8 := by
    obtain ⟨fd, F⟩ := cd.def_ 1 rfl
    exact ⟨_, fd, He.glo_ok X G (cd.fact 1 (f := .glo "fraction") rfl), F⟩
  have A_is_great : At K mg "is_great" 9 := by
    obtain ⟨fd, F⟩ := cd.def_ 2 rfl
    exact ⟨_, fd, He.glo_ok X G (cd.fact 2 (f := .glo "is_great") rfl), F⟩
  have A_need_small : At K mg "need_small" 10 := by
    obtain ⟨fd, F⟩ := cd.def_ 3 rfl
    exact ⟨_, fd, He.glo_ok X G (cd.fact 3 (f := .glo "need_small") rfl), F⟩
  have A_whole_of : At K mg "whole_of" 11 := by
    obtain ⟨fd, F⟩ := cd.def_ 4 rfl
    exact ⟨_, fd, He.glo_ok X G (cd.fact 4 (f := .glo "whole_of") rfl), F⟩
  have A_plus : At K mg "plus" 12 := by
    obtain ⟨fd, F⟩ := cd.def_ 5 rfl
    exact ⟨_, fd, He.glo_ok X G (cd.fact 5 (f := .glo "plus") rfl), F⟩
  have A_turned : At K mg "turned" 13 := by
    obtain ⟨fd, F⟩ := cd.def_ 6 rfl
    exact ⟨_, fd, He.glo_ok X G (cd.fact 6 (f := .glo "turned") rfl), F⟩
  have A_less : At K mg "less" 14 := by
    obtain ⟨fd, F⟩ := cd.def_ 7 rfl
    exact ⟨_, fd, He.glo_ok X G (cd.fact 7 (f := .glo "less") rfl), F⟩
  have A_times : At K mg "times" 15 := by
    obtain ⟨fd, F⟩ := cd.def_ 8 rfl
    exact ⟨_, fd, He.glo_ok X G (cd.fact 8 (f := .glo "times") rfl), F⟩
  have A_over : At K mg "over" 16 := by
    obtain ⟨fd, F⟩ := cd.def_ 9 rfl
    exact ⟨_, fd, He.glo_ok X G (cd.fact 9 (f := .glo "over") rfl), F⟩
  have A_size_of : At K mg "size_of" 17 := by
    obtain ⟨fd, F⟩ := cd.def_ 10 rfl
    exact ⟨_, fd, He.glo_ok X G (cd.fact 10 (f := .glo "size_of") rfl), F⟩
  have A_is_less : At K mg "is_less" 18 := by
    obtain ⟨fd, F⟩ := cd.def_ 11 rfl
    exact ⟨_, fd, He.glo_ok X G (cd.fact 11 (f := .glo "is_less") rfl), F⟩
  have A_lesser : At K mg "lesser" 19 := by
    obtain ⟨fd, F⟩ := cd.def_ 12 rfl
    exact ⟨_, fd, He.glo_ok X G (cd.fact 12 (f := .glo "lesser") rfl), F⟩
  have A_greater : At K mg "greater" 20 := by
    obtain ⟨fd, F⟩ := cd.def_ 13 rfl
    exact ⟨_, fd, He.glo_ok X G (cd.fact 13 (f := .glo "greater") rfl), F⟩
  have A_power : At K mg "power" 21 := by
    obtain ⟨fd, F⟩ := cd.def_ 14 rfl
    exact ⟨_, fd, He.glo_ok X G (cd.fact 14 (f := .glo "power") rfl), F⟩
  have A_is_enough : At K mg "is_enough" 23 := by
    obtain ⟨fd, F⟩ := cd.def_ 15 rfl
    exact ⟨_, fd, He.glo_ok X G (cd.fact 15 (f := .glo "is_enough") rfl), F⟩
  have A_place_of : At K mg "place_of" 24 := by
    obtain ⟨fd, F⟩ := cd.def_ 16 rfl
    exact ⟨_, fd, He.glo_ok X G (cd.fact 16 (f := .glo "place_of") rfl), F⟩
  have A_step_of : At K mg "step_of" 25 := by
    obtain ⟨fd, F⟩ := cd.def_ 17 rfl
    exact ⟨_, fd, He.glo_ok X G (cd.fact 17 (f := .glo "step_of") rfl), F⟩
  have A_whole_by : At K mg "whole_by" 26 := by
    obtain ⟨fd, F⟩ := cd.def_ 18 rfl
    exact ⟨_, fd, He.glo_ok X G (cd.fact 18 (f := .glo "whole_by") rfl), F⟩
  have A_rounded : At K mg "rounded" 27 := by
    obtain ⟨fd, F⟩ := cd.def_ 19 rfl
    exact ⟨_, fd, He.glo_ok X G (cd.fact 19 (f := .glo "rounded") rfl), F⟩
  have A_off_of : At K mg "off_of" 28 := by
    obtain ⟨fd, F⟩ := cd.def_ 20 rfl
    exact ⟨_, fd, He.glo_ok X G (cd.fact 20 (f := .glo "off_of") rfl), F⟩
  have A_is_multiple : At K mg "is_multiple" 29 := by
    obtain ⟨fd, F⟩ := cd.def_ 21 rfl
    exact ⟨_, fd, He.glo_ok X G (cd.fact 21 (f := .glo "is_multiple") rfl), F⟩
  have A_span_of : At K mg "span_of" 31 := by
    obtain ⟨fd, F⟩ := cd.def_ 22 rfl
    exact ⟨_, fd, He.glo_ok X G (cd.fact 22 (f := .glo "span_of") rfl), F⟩
  have A_has : At K mg "has" 32 := by
    obtain ⟨fd, F⟩ := cd.def_ 23 rfl
    exact ⟨_, fd, He.glo_ok X G (cd.fact 23 (f := .glo "has") rfl), F⟩
  have A_hull : At K mg "hull" 33 := by
    obtain ⟨fd, F⟩ := cd.def_ 24 rfl
    exact ⟨_, fd, He.glo_ok X G (cd.fact 24 (f := .glo "hull") rfl), F⟩
  have A_plus_spans : At K mg "plus_spans" 34 := by
    obtain ⟨fd, F⟩ := cd.def_ 25 rfl
    exact ⟨_, fd, He.glo_ok X G (cd.fact 25 (f := .glo "plus_spans") rfl), F⟩
  have A_turned_span : At K mg "turned_span" 35 := by
    obtain ⟨fd, F⟩ := cd.def_ 26 rfl
    exact ⟨_, fd, He.glo_ok X G (cd.fact 26 (f := .glo "turned_span") rfl), F⟩
  have A_less_spans : At K mg "less_spans" 36 := by
    obtain ⟨fd, F⟩ := cd.def_ 27 rfl
    exact ⟨_, fd, He.glo_ok X G (cd.fact 27 (f := .glo "less_spans") rfl), F⟩
  have A_times_spans : At K mg "times_spans" 37 := by
    obtain ⟨fd, F⟩ := cd.def_ 28 rfl
    exact ⟨_, fd, He.glo_ok X G (cd.fact 28 (f := .glo "times_spans") rfl), F⟩
  have A_over_spans : At K mg "over_spans" 38 := by
    obtain ⟨fd, F⟩ := cd.def_ 29 rfl
    exact ⟨_, fd, He.glo_ok X G (cd.fact 29 (f := .glo "over_spans") rfl), F⟩
  have A_great_size : At K mg "great_size" 39 := by
    obtain ⟨fd, F⟩ := cd.def_ 30 rfl
    exact ⟨_, fd, He.glo_ok X G (cd.fact 30 (f := .glo "great_size") rfl), F⟩
  have A_small_size : At K mg "small_size" 40 := by
    obtain ⟨fd, F⟩ := cd.def_ 31 rfl
    exact ⟨_, fd, He.glo_ok X G (cd.fact 31 (f := .glo "small_size") rfl), F⟩
  have A_size_span : At K mg "size_span" 41 := by
    obtain ⟨fd, F⟩ := cd.def_ 32 rfl
    exact ⟨_, fd, He.glo_ok X G (cd.fact 32 (f := .glo "size_span") rfl), F⟩
  have A_least_span : At K mg "least_span" 42 := by
    obtain ⟨fd, F⟩ := cd.def_ 33 rfl
    exact ⟨_, fd, He.glo_ok X G (cd.fact 33 (f := .glo "least_span") rfl), F⟩
  have A_most_span : At K mg "most_span" 43 := by
    obtain ⟨fd, F⟩ := cd.def_ 34 rfl
    exact ⟨_, fd, He.glo_ok X G (cd.fact 34 (f := .glo "most_span") rfl), F⟩
  have A_apart : At K mg "apart" 44 := by
    obtain ⟨fd, F⟩ := cd.def_ 35 rfl
    exact ⟨_, fd, He.glo_ok X G (cd.fact 35 (f := .glo "apart") rfl), F⟩
  have A_grain_of : At K mg "grain_of" 47 := by
    obtain ⟨fd, F⟩ := cd.def_ 36 rfl
    exact ⟨_, fd, He.glo_ok X G (cd.fact 36 (f := .glo "grain_of") rfl), F⟩
  have A_grain_of_span : At K mg "grain_of_span" 48 := by
    obtain ⟨fd, F⟩ := cd.def_ 37 rfl
    exact ⟨_, fd, He.glo_ok X G (cd.fact 37 (f := .glo "grain_of_span") rfl), F⟩
  have A_less_grain : At K mg "less_grain" 49 := by
    obtain ⟨fd, F⟩ := cd.def_ 38 rfl
    exact ⟨_, fd, He.glo_ok X G (cd.fact 38 (f := .glo "less_grain") rfl), F⟩
  have A_great_grain : At K mg "great_grain" 50 := by
    obtain ⟨fd, F⟩ := cd.def_ 39 rfl
    exact ⟨_, fd, He.glo_ok X G (cd.fact 39 (f := .glo "great_grain") rfl), F⟩
  have A_both_grains : At K mg "both_grains" 51 := by
    obtain ⟨fd, F⟩ := cd.def_ 40 rfl
    exact ⟨_, fd, He.glo_ok X G (cd.fact 40 (f := .glo "both_grains") rfl), F⟩
  have A_is_exact : At K mg "is_exact" 52 := by
    obtain ⟨fd, F⟩ := cd.def_ 41 rfl
    exact ⟨_, fd, He.glo_ok X G (cd.fact 41 (f := .glo "is_exact") rfl), F⟩
  have A_slack : At K mg "slack" 53 := by
    obtain ⟨fd, F⟩ := cd.def_ 42 rfl
    exact ⟨_, fd, He.glo_ok X G (cd.fact 42 (f := .glo "slack") rfl), F⟩
  have A_rounded_part : At K mg "rounded_part" 55 := by
    obtain ⟨fd, F⟩ := cd.def_ 43 rfl
    exact ⟨_, fd, He.glo_ok X G (cd.fact 43 (f := .glo "rounded_part") rfl), F⟩
  have A_true_part : At K mg "true_part" 56 := by
    obtain ⟨fd, F⟩ := cd.def_ 44 rfl
    exact ⟨_, fd, He.glo_ok X G (cd.fact 44 (f := .glo "true_part") rfl), F⟩
  have A_last_entry : At K mg "last_entry" 57 := by
    obtain ⟨fd, F⟩ := cd.def_ 45 rfl
    exact ⟨_, fd, He.glo_ok X G (cd.fact 45 (f := .glo "last_entry") rfl), F⟩
  have A_rounded_entry : At K mg "rounded_entry" 58 := by
    obtain ⟨fd, F⟩ := cd.def_ 46 rfl
    exact ⟨_, fd, He.glo_ok X G (cd.fact 46 (f := .glo "rounded_entry") rfl), F⟩
  have A_sum_entry : At K mg "sum_entry" 59 := by
    obtain ⟨fd, F⟩ := cd.def_ 47 rfl
    exact ⟨_, fd, He.glo_ok X G (cd.fact 47 (f := .glo "sum_entry") rfl), F⟩
  have A_product_entry : At K mg "product_entry" 60 := by
    obtain ⟨fd, F⟩ := cd.def_ 48 rfl
    exact ⟨_, fd, He.glo_ok X G (cd.fact 48 (f := .glo "product_entry") rfl), F⟩
  have A_quotient_entry : At K mg "quotient_entry" 61 := by
    obtain ⟨fd, F⟩ := cd.def_ 49 rfl
    exact ⟨_, fd, He.glo_ok X G (cd.fact 49 (f := .glo "quotient_entry") rfl), F⟩
  have A_single_entry : At K mg "single_entry" 62 := by
    obtain ⟨fd, F⟩ := cd.def_ 50 rfl
    exact ⟨_, fd, He.glo_ok X G (cd.fact 50 (f := .glo "single_entry") rfl), F⟩
  have A_chosen_entry : At K mg "chosen_entry" 63 := by
    obtain ⟨fd, F⟩ := cd.def_ 51 rfl
    exact ⟨_, fd, He.glo_ok X G (cd.fact 51 (f := .glo "chosen_entry") rfl), F⟩
  have A_sides : At K mg "sides" 64 := by
    obtain ⟨fd, F⟩ := cd.def_ 52 rfl
    exact ⟨_, fd, He.glo_ok X G (cd.fact 52 (f := .glo "sides") rfl), F⟩
  have A_picked_entry : At K mg "picked_entry" 65 := by
    obtain ⟨fd, F⟩ := cd.def_ 53 rfl
    exact ⟨_, fd, He.glo_ok X G (cd.fact 53 (f := .glo "picked_entry") rfl), F⟩
  have A_entry_of : At K mg "entry_of" 66 := by
    obtain ⟨fd, F⟩ := cd.def_ 54 rfl
    exact ⟨_, fd, He.glo_ok X G (cd.fact 54 (f := .glo "entry_of") rfl), F⟩
  have A__law_mixed : At K mg "_law_mixed" 68 := by
    obtain ⟨fd, F⟩ := cd.def_ 55 rfl
    exact ⟨_, fd, He.glo_ok X G (cd.fact 55 (f := .glo "_law_mixed") rfl), F⟩
  have A__law_begun : At K mg "_law_begun" 69 := by
    obtain ⟨fd, F⟩ := cd.def_ 56 rfl
    exact ⟨_, fd, He.glo_ok X G (cd.fact 56 (f := .glo "_law_begun") rfl), F⟩
  have A__law_open : At K mg "_law_open" 70 := by
    obtain ⟨fd, F⟩ := cd.def_ 57 rfl
    exact ⟨_, fd, He.glo_ok X G (cd.fact 57 (f := .glo "_law_open") rfl), F⟩
  have A__law_draw : At K mg "_law_draw" 71 := by
    obtain ⟨fd, F⟩ := cd.def_ 58 rfl
    exact ⟨_, fd, He.glo_ok X G (cd.fact 58 (f := .glo "_law_draw") rfl), F⟩
  have A__law_made : At K mg "_law_made" 72 := by
    obtain ⟨fd, F⟩ := cd.def_ 59 rfl
    exact ⟨_, fd, He.glo_ok X G (cd.fact 59 (f := .glo "_law_made") rfl), F⟩
  have A__law_plus : At K mg "_law_plus" 73 := by
    obtain ⟨fd, F⟩ := cd.def_ 60 rfl
    exact ⟨_, fd, He.glo_ok X G (cd.fact 60 (f := .glo "_law_plus") rfl), F⟩
  have A__law_less : At K mg "_law_less" 74 := by
    obtain ⟨fd, F⟩ := cd.def_ 61 rfl
    exact ⟨_, fd, He.glo_ok X G (cd.fact 61 (f := .glo "_law_less") rfl), F⟩
  have A__law_times : At K mg "_law_times" 75 := by
    obtain ⟨fd, F⟩ := cd.def_ 62 rfl
    exact ⟨_, fd, He.glo_ok X G (cd.fact 62 (f := .glo "_law_times") rfl), F⟩
  have A__law_below : At K mg "_law_below" 76 := by
    obtain ⟨fd, F⟩ := cd.def_ 63 rfl
    exact ⟨_, fd, He.glo_ok X G (cd.fact 63 (f := .glo "_law_below") rfl), F⟩
  have A__law_ends : At K mg "_law_ends" 77 := by
    obtain ⟨fd, F⟩ := cd.def_ 64 rfl
    exact ⟨_, fd, He.glo_ok X G (cd.fact 64 (f := .glo "_law_ends") rfl), F⟩
  have A__law_number : At K mg "_law_number" 78 := by
    obtain ⟨fd, F⟩ := cd.def_ 65 rfl
    exact ⟨_, fd, He.glo_ok X G (cd.fact 65 (f := .glo "_law_number") rfl), F⟩
  have A__law_power : At K mg "_law_power" 79 := by
    obtain ⟨fd, F⟩ := cd.def_ 66 rfl
    exact ⟨_, fd, He.glo_ok X G (cd.fact 66 (f := .glo "_law_power") rfl), F⟩
  have A__law_place : At K mg "_law_place" 80 := by
    obtain ⟨fd, F⟩ := cd.def_ 67 rfl
    exact ⟨_, fd, He.glo_ok X G (cd.fact 67 (f := .glo "_law_place") rfl), F⟩
  have A__law_rounded : At K mg "_law_rounded" 81 := by
    obtain ⟨fd, F⟩ := cd.def_ 68 rfl
    exact ⟨_, fd, He.glo_ok X G (cd.fact 68 (f := .glo "_law_rounded") rfl), F⟩
  have A__law_ruler : At K mg "_law_ruler" 82 := by
    obtain ⟨fd, F⟩ := cd.def_ 69 rfl
    exact ⟨_, fd, He.glo_ok X G (cd.fact 69 (f := .glo "_law_ruler") rfl), F⟩
  have A__law_mark : At K mg "_law_mark" 83 := by
    obtain ⟨fd, F⟩ := cd.def_ 70 rfl
    exact ⟨_, fd, He.glo_ok X G (cd.fact 70 (f := .glo "_law_mark") rfl), F⟩
  have A__law_marks : At K mg "_law_marks" 84 := by
    obtain ⟨fd, F⟩ := cd.def_ 71 rfl
    exact ⟨_, fd, He.glo_ok X G (cd.fact 71 (f := .glo "_law_marks") rfl), F⟩
  have A__law_size_of : At K mg "_law_size_of" 85 := by
    obtain ⟨fd, F⟩ := cd.def_ 72 rfl
    exact ⟨_, fd, He.glo_ok X G (cd.fact 72 (f := .glo "_law_size_of") rfl), F⟩
  have A__law_own_grain : At K mg "_law_own_grain" 86 := by
    obtain ⟨fd, F⟩ := cd.def_ 73 rfl
    exact ⟨_, fd, He.glo_ok X G (cd.fact 73 (f := .glo "_law_own_grain") rfl), F⟩
  have A__law_names : At K mg "_law_names" 87 := by
    obtain ⟨fd, F⟩ := cd.def_ 74 rfl
    exact ⟨_, fd, He.glo_ok X G (cd.fact 74 (f := .glo "_law_names") rfl), F⟩
  have A__law_entry : At K mg "_law_entry" 88 := by
    obtain ⟨fd, F⟩ := cd.def_ 75 rfl
    exact ⟨_, fd, He.glo_ok X G (cd.fact 75 (f := .glo "_law_entry") rfl), F⟩
  have A__law_wider : At K mg "_law_wider" 89 := by
    obtain ⟨fd, F⟩ := cd.def_ 76 rfl
    exact ⟨_, fd, He.glo_ok X G (cd.fact 76 (f := .glo "_law_wider") rfl), F⟩
  have A__law_holds : At K mg "_law_holds" 90 := by
    obtain ⟨fd, F⟩ := cd.def_ 77 rfl
    exact ⟨_, fd, He.glo_ok X G (cd.fact 77 (f := .glo "_law_holds") rfl), F⟩
  have A__law_told : At K mg "_law_told" 91 := by
    obtain ⟨fd, F⟩ := cd.def_ 78 rfl
    exact ⟨_, fd, He.glo_ok X G (cd.fact 78 (f := .glo "_law_told") rfl), F⟩
  have A__law_right : At K mg "_law_right" 92 := by
    obtain ⟨fd, F⟩ := cd.def_ 79 rfl
    exact ⟨_, fd, He.glo_ok X G (cd.fact 79 (f := .glo "_law_right") rfl), F⟩
  have A_law : At K mg "law" 93 := by
    obtain ⟨fd, F⟩ := cd.def_ 80 rfl
    exact ⟨_, fd, He.glo_ok X G (cd.fact 80 (f := .glo "law") rfl), F⟩
  have m_abs : mg "abs" = none := He.free_ok X G (cd.fact 88 (f := .free "abs") rfl)
  have m_dict : mg "dict" = none := He.free_ok X G (cd.fact 89 (f := .free "dict") rfl)
  have m_enumerate : mg "enumerate" = none := He.free_ok X G (cd.fact 90 (f := .free "enumerate") rfl)
  have m_int : mg "int" = none := He.free_ok X G (cd.fact 91 (f := .free "int") rfl)
  have m_len : mg "len" = none := He.free_ok X G (cd.fact 92 (f := .free "len") rfl)
  have m_list : mg "list" = none := He.free_ok X G (cd.fact 93 (f := .free "list") rfl)
  have m_max : mg "max" = none := He.free_ok X G (cd.fact 94 (f := .free "max") rfl)
  have m_min : mg "min" = none := He.free_ok X G (cd.fact 95 (f := .free "min") rfl)
  have m_range : mg "range" = none := He.free_ok X G (cd.fact 96 (f := .free "range") rfl)
  have m_repr : mg "repr" = none := He.free_ok X G (cd.fact 97 (f := .free "repr") rfl)
  have m_tuple : mg "tuple" = none := He.free_ok X G (cd.fact 98 (f := .free "tuple") rfl)
  have m_zip : mg "zip" = none := He.free_ok X G (cd.fact 99 (f := .free "zip") rfl)
  have g_NOUGHT : ∃ v u, mg "NOUGHT" = some u ∧ RelV v u ∧ ∀ H, Rp K H v_NOUGHT v := tup_glb X G (cd.fact 83 (f := .glo "NOUGHT") rfl) x11
  have g_HALF : ∃ v u, mg "HALF" = some u ∧ RelV v u ∧ ∀ H, Rp K H v_HALF v := tup_glb X G (cd.fact 84 (f := .glo "HALF") rfl) x12
  have g_GREATEST : ∃ v u, mg "GREATEST" = some u ∧ RelV v u ∧ ∀ H, Rp K H v_GREATEST v := by
    obtain ⟨t, e⟩ := He.int_ok X G (cd.fact 85 (f := .int "GREATEST" ((10 ^ 60) ^ 10)) rfl)
    exact ⟨.int ((10 ^ 60) ^ 10), _, e, ⟨t, rfl⟩, fun H => .int _⟩
  have T : ∀ base : Heap, Np P w K mg base (He.ga K "NoPaper") := fun base => by
    obtain ⟨fd, F⟩ := cd.def_ 81 rfl
    have ox : OexC K (He.ga K "NoPaper") := ⟨oexB_ok x1, He.eqO_ok x2, of_decide_eq_true x3, of_decide_eq_true x4, x5⟩
    refine ⟨ox, He.glo_ok X G (cd.fact 81 (f := .glo "NoPaper") rfl), He.exm_ok (cd.fact 86 (f := .exm "NoPaper" "NoPaper" true) rfl), _, fd, He.eqO_ok x6, of_decide_eq_true x7, F.bindsN fun _ _ _ _ _ _ us hl => (match us, hl with | [_, _], _ => rfl), ?_⟩
    exact fn_init F ox (He.glo_ok X G (cd.fact 82 (f := .glo "RoundError") rfl)) ⟨x8, He.eqO_ok x9⟩ (isVal_ok x10) (He.noat_ok (cd.fact 87 (f := .noat "NoPaper" "row") rfl))
  obtain ⟨fd0, F0⟩ := cd.def_ 80 rfl
  have e := hfa.symm.trans (He.glo_ok X G (cd.fact 80 (f := .glo "law") rfl))
  cases e
  have b := FunD.bindsA (ps := ["_law_script"]) F0 fun _ _ _ _ _ _ us hl => (match us, hl with | [_], _ => rfl)
  refine ⟨fd0, fun s v => b s [v] rfl, fun base => ?_⟩
  have T0 := T base
  have H_shared : Has P w K mg base "shared" 1 p_shared := h_shared A_shared m_abs
  have H_is_great : Has P w K mg base "is_great" 1 p_is_great := h_is_great A_is_great m_abs g_GREATEST
  have H_whole_of : Has P w K mg base "whole_of" 1 p_whole_of := h_whole_of A_whole_of
  have H_turned : Has P w K mg base "turned" 1 p_turned := h_turned A_turned
  have H_size_of : Has P w K mg base "size_of" 1 p_size_of := h_size_of A_size_of m_abs
  have H_is_less : Has P w K mg base "is_less" 1 p_is_less := h_is_less A_is_less
  have H_power : Has P w K mg base "power" 1 p_power := h_power A_power m_abs
  have H_whole_by : Has P w K mg base "whole_by" 1 p_whole_by := h_whole_by A_whole_by m_int
  have H_less_grain : Has P w K mg base "less_grain" 1 p_less_grain := h_less_grain A_less_grain m_min
  have H_great_grain : Has P w K mg base "great_grain" 1 p_great_grain := h_great_grain A_great_grain m_max
  have H_both_grains : Has P w K mg base "both_grains" 1 p_both_grains := h_both_grains A_both_grains
  have H_rounded_part : Has P w K mg base "rounded_part" 1 p_rounded_part := h_rounded_part A_rounded_part
  have H_true_part : Has P w K mg base "true_part" 1 p_true_part := h_true_part A_true_part
  have H__law_mixed : Has P w K mg base "_law_mixed" 1 p__law_mixed := h__law_mixed A__law_mixed
  have H__law_begun : Has P w K mg base "_law_begun" 1 p__law_begun := h__law_begun A__law_begun
  have H__law_made : Has P w K mg base "_law_made" 1 p__law_made := h__law_made A__law_made m_abs
  have H__law_below : Has P w K mg base "_law_below" 1 p__law_below := h__law_below A__law_below
  have H__law_power : Has P w K mg base "_law_power" 1 p__law_power := h__law_power A__law_power m_range m_abs
  have H__law_size_of : Has P w K mg base "_law_size_of" 1 p__law_size_of := h__law_size_of A__law_size_of m_abs
  have H_fraction : Has P w K mg base "fraction" 2 p_fraction := h_fraction A_fraction H_shared
  have H_need_small : Has P w K mg base "need_small" 2 p_need_small := h_need_small A_need_small H_is_great
  have H_lesser : Has P w K mg base "lesser" 2 p_lesser := h_lesser A_lesser H_is_less
  have H_greater : Has P w K mg base "greater" 2 p_greater := h_greater A_greater H_is_less
  have H_is_enough : Has P w K mg base "is_enough" 2 p_is_enough := h_is_enough A_is_enough H_is_less H_power
  have H_has : Has P w K mg base "has" 2 p_has := h_has A_has H_is_less
  have H_turned_span : Has P w K mg base "turned_span" 2 p_turned_span := h_turned_span A_turned_span H_turned
  have H_sides : Has P w K mg base "sides" 2 p_sides := h_sides A_sides H_is_less
  have H__law_open : Has P w K mg base "_law_open" 2 p__law_open := h__law_open A__law_open H__law_mixed m_enumerate m_abs
  have H__law_draw : Has P w K mg base "_law_draw" 2 p__law_draw := h__law_draw A__law_draw H__law_mixed
  have H__law_plus : Has P w K mg base "_law_plus" 2 p__law_plus := h__law_plus A__law_plus H__law_made
  have H__law_less : Has P w K mg base "_law_less" 2 p__law_less := h__law_less A__law_less H__law_made
  have H__law_times : Has P w K mg base "_law_times" 2 p__law_times := h__law_times A__law_times H__law_made
  have H__law_ends : Has P w K mg base "_law_ends" 2 p__law_ends := h__law_ends A__law_ends H__law_below
  have H__law_place : Has P w K mg base "_law_place" 2 p__law_place := h__law_place A__law_place H__law_below H__law_power m_abs
  have H__law_holds : Has P w K mg base "_law_holds" 2 p__law_holds := h__law_holds A__law_holds H__law_below
  have H_plus : Has P w K mg base "plus" 3 p_plus := h_plus A_plus H_fraction
  have H_times : Has P w K mg base "times" 3 p_times := h_times A_times H_fraction
  have H_over : Has P w K mg base "over" 3 p_over := h_over A_over H_fraction
  have H_place_of : Has P w K mg base "place_of" 3 p_place_of := h_place_of A_place_of H_size_of H_is_enough
  have H_span_of : Has P w K mg base "span_of" 3 p_span_of := h_span_of A_span_of H_lesser H_greater
  have H_hull : Has P w K mg base "hull" 3 p_hull := h_hull A_hull H_lesser H_greater
  have H_great_size : Has P w K mg base "great_size" 3 p_great_size := h_great_size A_great_size H_greater H_size_of
  have H_small_size : Has P w K mg base "small_size" 3 p_small_size := h_small_size A_small_size H_has H_lesser H_size_of g_NOUGHT
  have H_least_span : Has P w K mg base "least_span" 3 p_least_span := h_least_span A_least_span H_lesser
  have H_most_span : Has P w K mg base "most_span" 3 p_most_span := h_most_span A_most_span H_greater
  have H__law_number : Has P w K mg base "_law_number" 3 p__law_number := h__law_number A__law_number H__law_draw H__law_made
  have H__law_rounded : Has P w K mg base "_law_rounded" 3 p__law_rounded := h__law_rounded A__law_rounded H__law_power H__law_times H__law_place m_int
  have H__law_ruler : Has P w K mg base "_law_ruler" 3 p__law_ruler := h__law_ruler A__law_ruler H__law_draw
  have H__law_mark : Has P w K mg base "_law_mark" 3 p__law_mark := h__law_mark A__law_mark H__law_power H__law_times H__law_draw
  have H__law_own_grain : Has P w K mg base "_law_own_grain" 3 p__law_own_grain := h__law_own_grain A__law_own_grain H__law_place H__law_ends H__law_times H__law_size_of H__law_power
  have H__law_names : Has P w K mg base "_law_names" 3 p__law_names := h__law_names A__law_names H__law_draw m_range
  have H_less : Has P w K mg base "less" 4 p_less := h_less A_less H_plus H_turned
  have H_step_of : Has P w K mg base "step_of" 4 p_step_of := h_step_of A_step_of H_power H_place_of
  have H_is_multiple : Has P w K mg base "is_multiple" 4 p_is_multiple := h_is_multiple A_is_multiple H_over H_power
  have H_plus_spans : Has P w K mg base "plus_spans" 4 p_plus_spans := h_plus_spans A_plus_spans H_plus
  have H_times_spans : Has P w K mg base "times_spans" 4 p_times_spans := h_times_spans A_times_spans H_span_of H_times
  have H_over_spans : Has P w K mg base "over_spans" 4 p_over_spans := h_over_spans A_over_spans H_has H_span_of H_over g_NOUGHT
  have H_size_span : Has P w K mg base "size_span" 4 p_size_span := h_size_span A_size_span H_small_size H_great_size
  have H_is_exact : Has P w K mg base "is_exact" 4 p_is_exact := h_is_exact A_is_exact H_is_less H_power H_great_size
  have H__law_marks : Has P w K mg base "_law_marks" 4 p__law_marks := h__law_marks A__law_marks H__law_mark H__law_draw H__law_below
  have H__law_wider : Has P w K mg base "_law_wider" 4 p__law_wider := h__law_wider A__law_wider H__law_plus H__law_own_grain H__law_draw H__law_rounded H__law_less H__law_power H__law_place m_range m_max m_min
  have H_rounded : Has P w K mg base "rounded" 5 p_rounded := h_rounded A_rounded H_step_of H_over H_times H_whole_of H_whole_by
  have H_less_spans : Has P w K mg base "less_spans" 5 p_less_spans := h_less_spans A_less_spans H_plus_spans H_turned_span
  have H_apart : Has P w K mg base "apart" 5 p_apart := h_apart A_apart H_greater H_less
  have H_grain_of : Has P w K mg base "grain_of" 5 p_grain_of := h_grain_of A_grain_of H_place_of H_is_multiple g_NOUGHT
  have H__law_entry : Has P w K mg base "_law_entry" 5 p__law_entry := h__law_entry A__law_entry H__law_marks H__law_ends H__law_own_grain H__law_draw H__law_plus H__law_size_of H__law_number m_max
  have H_off_of : Has P w K mg base "off_of" 6 p_off_of := h_off_of A_off_of H_size_of H_less H_rounded
  have H_grain_of_span : Has P w K mg base "grain_of_span" 6 p_grain_of_span := h_grain_of_span A_grain_of_span H_has H_place_of H_grain_of H_small_size g_NOUGHT
  have H_slack : Has P w K mg base "slack" 7 p_slack := h_slack A_slack H_is_exact H_step_of H_off_of H_great_size H_times g_HALF g_NOUGHT
  have H_last_entry : Has P w K mg base "last_entry" 7 p_last_entry := h_last_entry A_last_entry H_grain_of_span H_lesser H_apart H_need_small H_great_grain m_tuple m_list
  have H_rounded_entry : Has P w K mg base "rounded_entry" 8 p_rounded_entry := h_rounded_entry A_rounded_entry H_last_entry H_rounded H_plus H_slack
  have H_single_entry : Has P w K mg base "single_entry" 8 p_single_entry := h_single_entry A_single_entry H_last_entry H_size_span H_turned_span H_rounded_part H_true_part
  have H_chosen_entry : Has P w K mg base "chosen_entry" 8 p_chosen_entry := h_chosen_entry A_chosen_entry H_last_entry H_rounded_part H_true_part H_least_span H_most_span H_greater H_less_grain
  have H_picked_entry : Has P w K mg base "picked_entry" 8 p_picked_entry := h_picked_entry A_picked_entry H_sides H_hull H_last_entry H_rounded_part H_true_part H_less_grain H_greater H_apart g_NOUGHT
  have H_sum_entry : Has P w K mg base "sum_entry" 9 p_sum_entry := h_sum_entry A_sum_entry H_rounded_entry H_rounded_part H_true_part H_plus_spans H_less_spans H_plus H_less_grain
  have H_product_entry : Has P w K mg base "product_entry" 9 p_product_entry := h_product_entry A_product_entry H_times_spans H_plus H_rounded_entry H_rounded_part H_true_part H_times H_both_grains H_great_size
  have H_quotient_entry : HasX P w K mg base (He.ga K "NoPaper") "quotient_entry" 9 p_quotient_entry := h_quotient_entry A_quotient_entry T0 H_over_spans H_over H_rounded_entry H_has H_rounded_part H_true_part H_plus H_small_size H_times H_great_size g_NOUGHT
  have H_entry_of : HasX P w K mg base (He.ga K "NoPaper") "entry_of" 10 p_entry_of := h_entry_of A_entry_of T0 H_picked_entry H_rounded_entry H_sum_entry H_product_entry H_quotient_entry H_single_entry H_chosen_entry g_NOUGHT
  have H__law_told : Has P w K mg base "_law_told" 11 p__law_told := h__law_told A__law_told T0 H_entry_of
  have H__law_right : HasG P w K mg base "_law_right" 12 p__law_right := h__law_right A__law_right H__law_told H__law_holds m_repr m_dict
  exact g_law F0 H__law_begun H__law_open H__law_ruler H__law_names H__law_entry H__law_wider H__law_right H__law_number m_max m_range m_min m_len m_dict m_zip
end RS
/-! part RSEnd2 -/
namespace RS
open PySem PySem.Spec PyProof.Rows L2
/-! ### the run of the top -/
abbrev rowR : PySem.W.OpenRow := PySem.W.OpenLaw.row PySem.Challenge.rw_roundsure_k31_whole_wider_entries_tell_w
def nextR (g : Addr → Option Obj) (fs : List Addr) : List Addr := fs.flatMap fun a => match g a with
  | some o => (He.refsD o).filter fun b => !(b == mainGlobals || b == builtinsNs)
  | none => []
def asQ (g : Addr → Option Obj) : List Addr :=
  let f1 := nextR g [mainGlobals]
  let f2 := nextR g f1
  let f3 := nextR g f2
  let f4 := nextR g f3
  mainGlobals :: cStatics :: (f1 ++ (f2 ++ (f3 ++ f4)))
def obsQG (g : Addr → Option Obj) : AlR := obsR (He.frG g (asQ g))
def hookQ : PySem.W.Hook where
  α := AlR
  obs := fun s => obsQG s.heap.get?
  val := fun _ => valR
  says := fun _ h => ∃ K : PySem.W.Frag, K.In h ∧ SaysR K
  of := fun _ _ e => ⟨_, He.frG_in, e⟩
  keeps := fun _ _ _ h k => Exists.elim h fun K y => ⟨K, .keeps y.1 k, y.2⟩
theorem obsQG_eq {g : Addr → Option Obj} {s : Shared} (h : ∀ a, g a = s.heap.get? a) : obsQG g = hookQ.obs s := by
  rw [show g = s.heap.get? from funext h]
  rfl
def obR (s : PySem.W.SharedT) : AlR := obsQG (HandSHeadRun.getT s)
theorem obR_eq (s : PySem.W.SharedT) : obR s = hookQ.obs s.abs := obsQG_eq (HandSHeadRun.getT_eq s)
def looseR : List Str := (["shared", "fraction", "is_great", "need_small", "whole_of", "plus", "turned", "less", "times", "over", "size_of", "is_less", "lesser", "greater", "power", "is_enough", "place_of", "step_of", "whole_by", "rounded"] : List Str) ++ (["off_of", "is_multiple", "span_of", "has", "hull", "plus_spans", "turned_span", "less_spans", "times_spans", "over_spans", "great_size", "small_size", "size_span", "least_span", "most_span", "apart", "grain_of", "grain_of_span", "less_grain", "great_grain"] : List Str) ++ (["both_grains", "is_exact", "slack", "rounded_part", "true_part", "last_entry", "rounded_entry", "sum_entry", "product_entry", "quotient_entry", "single_entry", "chosen_entry", "sides", "picked_entry", "entry_of", "_law_mixed", "_law_begun", "_law_open", "_law_draw", "_law_made"] : List Str) ++ (["_law_plus", "_law_less", "_law_times", "_law_below", "_law_ends", "_law_number", "_law_power", "_law_place", "_law_rounded", "_law_ruler", "_law_mark", "_law_marks", "_law_size_of", "_law_own_grain", "_law_names", "_law_entry", "_law_wider", "_law_holds", "_law_told", "_law_right"] : List Str) ++ (["RoundError", "TooGreat", "NoPaper", "NOUGHT", "GREATEST", "HALF"] : List Str)
theorem runR (w : World) : HandSHeadRun.RunEq rowR (PySem.W.view rowR.prog [93]) hookQ obR 4000 looseR w := by
  intro os
  kernel_rfl
end RS
/-! part RSEnd3 -/
namespace RS
open PySem PySem.Spec PyProof.Rows L2
theorem facts_end {P : Program} {w : World} {K : PySem.W.Frag} {h : Heap} {mg : Str → Option Value} {f : Addr} (X : K.In h) (G : h.Ns mainGlobals mg) (hfa : mg ("law" : Str) = some (.ref f)) (c : SaysR K) :
    ∃ (K : PySem.W.Frag) (fd : FuncData) (sp : Sp), K.In h ∧ (∀ (s : Shared) (u : Value), BindsTo s fd ⟨[u], []⟩ [("_law_script", u)]) ∧
        (∀ (H : Hp) (a : Addr) (ns : List Int), ns.length ≤ 63 → Only H → SqL K H a (ns.map V.int) → sp [.ref a] H (fun v _ => v = .bl true) fun _ _ _ => False) ∧
        ∀ base : Heap, K.In base → base.Ns mainGlobals mg → FnG P w K mg base 13 f fd ["_law_script"] sp := by
  obtain ⟨fd, hb, hF⟩ := facts (P := P) (w := w) X G hfa c
  refine ⟨K, fd, spS K p_law, X, hb, fun H a ns hl only hS => ?_, fun base _ _ => hF base⟩
  refine ⟨[.scr ns], 0, fun d _ => d = .bl true, .cons (.scr hS) .nil, fun b c x y z e => ?_, ⟨ns, rfl, hl, rfl, fun _ => rfl⟩, fun d v t' H' hd _ _ hr => ?_⟩
  · rcases only b with q | ⟨o, xs, q⟩
    · rw [q] at e
      cases e
    · rw [q] at e
      cases e
  · have hd : d = .bl true := hd
    subst hd
    cases hr
    rfl
end RS
open PySem PySem.W PySem.Calls PyProof.Rows
theorem PySem.Challenge.cw_roundsure_k31_whole_wider_entries_tell_w_holds : PySem.Challenge.rw_roundsure_k31_whole_wider_entries_tell_w.Holds := by
  w_on; o_law
  refine HandSHeadRun.head_any (r := OpenLaw.row PySem.Challenge.rw_roundsure_k31_whole_wider_entries_tell_w) (q := view (OpenLaw.row PySem.Challenge.rw_roundsure_k31_whole_wider_entries_tell_w).prog [93]) (H := RS.hookQ) (ob := RS.obR) (M := 4000) (loose := RS.looseR) (d := HandSHeadRun.topDef (OpenLaw.row PySem.Challenge.rw_roundsure_k31_whole_wider_entries_tell_w).prog 93) (kwd := []) RS.obR_eq
    (by kernel_rfl) (fun s => by kernel_rfl) RS.runR (by kernel_rfl) (by kernel_rfl) (by kernel_rfl) (by rfl) (by first | assumption | decide +kernel) (by decide +kernel) ⟨rfl, rfl, rfl, rfl, rfl, by decide +kernel⟩ ?hw ?hc
  case hw => w_witness2
  case hc =>
    refine RS.walk_ofG (l := PySem.Challenge.rw_roundsure_k31_whole_wider_entries_tell_w) (n := 63) (k := 13) (x := "_law_script") rfl (by decide) (by kernel_rfl) ⟨rfl, by decide, by decide⟩ ?F
    intro w mg fa h Y G hmg0
    obtain ⟨K, KX, c⟩ := Y
    have hmg : mg ("law" : PySem.Str) = some (.ref fa) := by
      have e : (HandSHeadRun.topDef (OpenLaw.row PySem.Challenge.rw_roundsure_k31_whole_wider_entries_tell_w).prog 93).name = ("law" : PySem.Str) := by kernel_rfl
      rw [← e]
      exact hmg0
    exact RS.facts_end KX G hmg c

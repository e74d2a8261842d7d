import PyProof.Rows.All
import Wide.All
import OpenK.AllK
import Wide.FinOn
import KE.KStateDown
import HandS.Base
import HandS.Call
import HandS.List
import HandS.Comp
import HandS.Ends
import HandS.Dict
import HandS.DictTup
import HandS.Iter
import HandS.Walk
import HandS.More
import HandS.Conv
import HandS.Flow
import HandS.Exc
import HandS.ExcOwn
import HandS.ExcIs
import HandS.IsInst
import HandS.TryOnly
import HandS.TupAny
import HandS.Deep
import HandS.Wide
import HandS.Words
import HandS.WordsList
import HandS.WordsExc
import HandS.Codes
import HandS.Defaults
import HandS.Lambda
import HandS.EndTab
import PySem.Challenge.RW_matefloors_k16_whole_sums_kept
import HandS.ExcCtx
import HandS.Hot
import HandS.HotCalls
import HandS.Head0
import HandS.Head1
import HandS.Head2
import HandS.HeadEnd
import HandS.HeadHook1
import HandS.HeadHook2
import HandS.HeadHook3
import HandS.HeadHook4
import HandS.HeadWalk
set_option Elab.async false
set_option linter.all false
set_option maxRecDepth 100000
set_option maxHeartbeats 0
namespace Mf
/-! ### numbers p + q root d, p and q fractions, as an ordered ring -/
/-- a root: d, and that no fraction's square is d -/
structure Rt where
  d : Int
  pos : 0 < d
  irr : ∀ p q : Rat, p * p = (d : Rat) * (q * q) → p = 0 ∧ q = 0
structure F (r : Rt) where
  p : Rat
  q : Rat
variable {r : Rt}
abbrev Rt.k (r : Rt) : Rat := (r.d : Rat)
theorem F.ext {x y : F r} (h1 : x.p = y.p) (h2 : x.q = y.q) : x = y := by
  cases x; cases y; cases h1; cases h2; rfl
instance : Add (F r) := ⟨fun x y => ⟨x.p + y.p, x.q + y.q⟩⟩
instance : Mul (F r) := ⟨fun x y => ⟨x.p * y.p + r.k * (x.q * y.q), x.p * y.q + x.q * y.p⟩⟩
instance : Neg (F r) := ⟨fun x => ⟨-x.p, -x.q⟩⟩
instance : Sub (F r) := ⟨fun x y => ⟨x.p - y.p, x.q - y.q⟩⟩
instance : NatCast (F r) := ⟨fun n => ⟨(n : Rat), 0⟩⟩
instance : IntCast (F r) := ⟨fun n => ⟨(n : Rat), 0⟩⟩
instance (n : Nat) : OfNat (F r) n := ⟨⟨(n : Rat), 0⟩⟩
instance : SMul Nat (F r) := ⟨fun n x => ⟨(n : Rat), 0⟩ * x⟩
instance : SMul Int (F r) := ⟨fun n x => ⟨(n : Rat), 0⟩ * x⟩
def F.npow (x : F r) : Nat → F r
  | 0 => 1
  | n + 1 => F.npow x n * x
instance : HPow (F r) Nat (F r) := ⟨F.npow⟩
@[simp] theorem add_p (x y : F r) : (x + y).p = x.p + y.p := rfl
@[simp] theorem add_q (x y : F r) : (x + y).q = x.q + y.q := rfl
@[simp] theorem mul_p (x y : F r) : (x * y).p = x.p * y.p + r.k * (x.q * y.q) := rfl
@[simp] theorem mul_q (x y : F r) : (x * y).q = x.p * y.q + x.q * y.p := rfl
@[simp] theorem neg_p (x : F r) : (-x).p = -x.p := rfl
@[simp] theorem neg_q (x : F r) : (-x).q = -x.q := rfl
@[simp] theorem sub_p (x y : F r) : (x - y).p = x.p - y.p := rfl
@[simp] theorem sub_q (x y : F r) : (x - y).q = x.q - y.q := rfl
@[simp] theorem zero_p : (0 : F r).p = 0 := rfl
@[simp] theorem zero_q : (0 : F r).q = 0 := rfl
@[simp] theorem one_p : (1 : F r).p = 1 := rfl
@[simp] theorem one_q : (1 : F r).q = 0 := rfl
@[simp] theorem ofNat_p (n : Nat) : (OfNat.ofNat n : F r).p = (n : Rat) := rfl
@[simp] theorem ofNat_q (n : Nat) : (OfNat.ofNat n : F r).q = 0 := rfl
@[simp] theorem natCast_p (n : Nat) : ((n : Nat) : F r).p = (n : Rat) := rfl
@[simp] theorem natCast_q (n : Nat) : ((n : Nat) : F r).q = 0 := rfl
@[simp] theorem intCast_p (n : Int) : ((n : Int) : F r).p = (n : Rat) := rfl
@[simp] theorem intCast_q (n : Int) : ((n : Int) : F r).q = 0 := rfl

theorem kc (n : Nat) : (OfNat.ofNat (α := F r) n) = ⟨(n : Rat), 0⟩ := rfl
instance : Lean.Grind.CommRing (F r) where
  add_zero a := F.ext (by simp; grind) (by simp; grind)
  add_comm a b := F.ext (by simp; grind) (by simp; grind)
  add_assoc a b c := F.ext (by simp; grind) (by simp; grind)
  mul_assoc a b c := F.ext (by simp; grind) (by simp; grind)
  mul_one a := F.ext (by simp; grind) (by simp; grind)
  one_mul a := F.ext (by simp; grind) (by simp; grind)
  left_distrib a b c := F.ext (by simp; grind) (by simp; grind)
  right_distrib a b c := F.ext (by simp; grind) (by simp; grind)
  zero_mul a := F.ext (by simp; grind) (by simp; grind)
  mul_zero a := F.ext (by simp; grind) (by simp; grind)
  pow_zero a := rfl
  pow_succ a n := rfl
  ofNat_succ a := F.ext (by show ((a + 1 : Nat) : Rat) = (a : Rat) + 1; simp [Rat.natCast_add]) (by show (0 : Rat) = 0 + 0; grind)
  ofNat_eq_natCast n := rfl
  nsmul_eq_natCast_mul n a := rfl
  mul_comm a b := F.ext (by simp; grind) (by simp; grind)
  neg_add_cancel a := F.ext (by simp; grind) (by simp; grind)
  sub_eq_add_neg a b := F.ext (by simp; grind) (by simp; grind)
  neg_zsmul i a := F.ext (by show ((-i : Int) : Rat) * a.p + r.k * (0 * a.q) = -((i : Rat) * a.p + r.k * (0 * a.q)); rw [Rat.intCast_neg]; grind)
    (by show ((-i : Int) : Rat) * a.q + 0 * a.p = -((i : Rat) * a.q + 0 * a.p); rw [Rat.intCast_neg]; grind)
  zsmul_natCast_eq_nsmul n a := rfl
  intCast_ofNat n := rfl
  intCast_neg i := F.ext (by show ((-i : Int) : Rat) = -(i : Rat); rw [Rat.intCast_neg]) (by show (0 : Rat) = -0; grind)

/-! ### the order -/
theorem k_pos : 0 < r.k := by
  have := r.pos
  exact Rat.intCast_pos.mpr this
theorem sq_lt {a b : Rat} (hb : 0 ≤ b) (h : a * a < b * b) : a < b := by
  apply Classical.byContradiction
  intro hn
  have h1 : b ≤ a := Rat.not_lt.mp hn
  have h2 : b * b ≤ a * b := Rat.mul_le_mul_of_nonneg_right h1 hb
  have h3 : a * b ≤ a * a := Rat.mul_le_mul_of_nonneg_left h1 (by grind)
  grind
theorem sq_lt2 {a b : Rat} (hb : 0 ≤ b) (h : a * a < b * b) : a < b ∧ -a < b := ⟨sq_lt hb h, sq_lt hb (by grind)⟩
theorem mul_lt4 {a b c e : Rat} (ha : 0 ≤ a) (h : a < b) (hc : 0 ≤ c) (h2 : c < e) : a * c < b * e := by
  have h3 : a * c ≤ a * e := Rat.mul_le_mul_of_nonneg_left (by grind) ha
  have h4 : a * e < b * e := Rat.mul_lt_mul_of_pos_right h (by grind)
  grind
theorem sq_nn (a : Rat) : 0 ≤ a * a := by
  by_cases h : 0 ≤ a
  · exact Rat.mul_nonneg h h
  · have : 0 ≤ (-a) * (-a) := Rat.mul_nonneg (by grind) (by grind)
    grind
/-- k q q' is below p p', both ways -/
theorem cross {k p q p' q' : Rat} (hk : 0 < k) (hp : 0 < p) (hp' : 0 < p') (h : k * (q * q) < p * p) (h' : k * (q' * q') < p' * p') : k * (q * q') < p * p' ∧ -(k * (q * q')) < p * p' := by
  refine sq_lt2 (Rat.mul_nonneg (by grind) (by grind)) ?_
  have a1 : 0 ≤ k * (q * q) := Rat.mul_nonneg (by grind) (sq_nn q)
  have a2 : 0 ≤ k * (q' * q') := Rat.mul_nonneg (by grind) (sq_nn q')
  have := mul_lt4 a1 h a2 h'
  grind
/-- the same by the other ones -/
theorem cross2 {k p q p' q' : Rat} (hk : 0 < k) (hq : 0 < q) (hq' : 0 < q') (h : p * p < k * (q * q)) (h' : p' * p' < k * (q' * q')) : p * p' < k * (q * q') ∧ -(p * p') < k * (q * q') := by
  refine sq_lt2 (Rat.mul_nonneg (by grind) (Rat.mul_nonneg (by grind) (by grind))) ?_
  have := mul_lt4 (sq_nn p) h (sq_nn p') h'
  grind
theorem cross3 {k p q p' q' : Rat} (hk : 0 < k) (hp : 0 < p) (hq' : 0 < q') (h : k * (q * q) < p * p) (h' : p' * p' < k * (q' * q')) : q * p' < p * q' ∧ -(q * p') < p * q' := by
  refine sq_lt2 (Rat.mul_nonneg (by grind) (by grind)) ?_
  have a1 : 0 ≤ k * (q * q) := Rat.mul_nonneg (by grind) (sq_nn q)
  have h0 := mul_lt4 a1 h (sq_nn p') h'
  have h1 : k * ((q * p') * (q * p')) < k * ((p * q') * (p * q')) := by grind
  apply Classical.byContradiction
  intro hn
  have := Rat.mul_le_mul_of_nonneg_left (Rat.not_lt.mp hn) (show (0 : Rat) ≤ k by grind)
  grind
/-- above nought -/
def Pos (x : F r) : Prop := (r.k * (x.q * x.q) < x.p * x.p ∧ 0 < x.p) ∨ (x.p * x.p < r.k * (x.q * x.q) ∧ 0 < x.q)
theorem addA {x y : F r} (h : r.k * (x.q * x.q) < x.p * x.p ∧ 0 < x.p) (h' : r.k * (y.q * y.q) < y.p * y.p ∧ 0 < y.p) :
    r.k * ((x.q + y.q) * (x.q + y.q)) < (x.p + y.p) * (x.p + y.p) ∧ 0 < x.p + y.p := by
  have := cross k_pos h.2 h'.2 h.1 h'.1
  grind
theorem addB {x y : F r} (h : x.p * x.p < r.k * (x.q * x.q) ∧ 0 < x.q) (h' : y.p * y.p < r.k * (y.q * y.q) ∧ 0 < y.q) :
    (x.p + y.p) * (x.p + y.p) < r.k * ((x.q + y.q) * (x.q + y.q)) ∧ 0 < x.q + y.q := by
  have := cross2 k_pos h.2 h'.2 h.1 h'.1
  grind
theorem addC {x y : F r} (h : r.k * (x.q * x.q) < x.p * x.p ∧ 0 < x.p) (h' : y.p * y.p < r.k * (y.q * y.q) ∧ 0 < y.q) : Pos (x + y) := by
  by_cases h1 : r.k * ((x.q + y.q) * (x.q + y.q)) < (x.p + y.p) * (x.p + y.p)
  · refine .inl ⟨h1, ?_⟩
    apply Classical.byContradiction
    intro hn
    have hn : ¬ 0 < x.p + y.p := hn
    have h2 : x.p + y.p ≠ 0 := fun e => by
      rw [e] at h1
      have a1 : 0 ≤ r.k * ((x.q + y.q) * (x.q + y.q)) := Rat.mul_nonneg (by have := k_pos (r := r); grind) (sq_nn _)
      grind
    have h3 := addA (r := r) (x := x) (y := ⟨-(x.p + y.p), -(x.q + y.q)⟩) h ⟨by show r.k * (-(x.q + y.q) * -(x.q + y.q)) < -(x.p + y.p) * -(x.p + y.p); grind, by show 0 < -(x.p + y.p); grind⟩
    have h4 : r.k * ((x.q + -(x.q + y.q)) * (x.q + -(x.q + y.q))) < (x.p + -(x.p + y.p)) * (x.p + -(x.p + y.p)) := h3.1
    grind
  · by_cases h2 : (x.p + y.p) * (x.p + y.p) < r.k * ((x.q + y.q) * (x.q + y.q))
    · refine .inr ⟨h2, ?_⟩
      apply Classical.byContradiction
      intro hn
      have hn : ¬ 0 < x.q + y.q := hn
      have h5 : x.q + y.q ≠ 0 := fun e => by
        rw [e] at h2
        have a1 := sq_nn (x.p + y.p)
        grind
      have h3 := addB (r := r) (x := y) (y := ⟨-(x.p + y.p), -(x.q + y.q)⟩) h' ⟨by show -(x.p + y.p) * -(x.p + y.p) < r.k * (-(x.q + y.q) * -(x.q + y.q)); grind, by show 0 < -(x.q + y.q); grind⟩
      have h4 : (y.p + -(x.p + y.p)) * (y.p + -(x.p + y.p)) < r.k * ((y.q + -(x.q + y.q)) * (y.q + -(x.q + y.q))) := h3.1
      grind
    · obtain ⟨e1, e2⟩ := r.irr (x.p + y.p) (x.q + y.q) (by grind)
      have e3 : y.p = -x.p := by grind
      have e4 : y.q = -x.q := by grind
      have h1' := h'.1
      rw [e3, e4] at h1'
      grind
theorem Pos.add {x y : F r} (h : Pos x) (h' : Pos y) : Pos (x + y) := by
  rcases h with h | h <;> rcases h' with h' | h'
  · exact .inl (addA h h')
  · exact addC h h'
  · rw [show x + y = y + x from F.ext (by simp; grind) (by simp; grind)]
    exact addC h' h
  · exact .inr (addB h h')
theorem lt4 {k a b c e : Rat} (hk : 0 < k) (ha : 0 < a) (hb : 0 < b) (h : b * c < a * e) : True := trivial
theorem Pos.mul {x y : F r} (h : Pos x) (h' : Pos y) : Pos (x * y) := by
  have hk := k_pos (r := r)
  -- the norms
  have key : ∀ x y : F r, (x * y).p * (x * y).p - r.k * ((x * y).q * (x * y).q) = (x.p * x.p - r.k * (x.q * x.q)) * (y.p * y.p - r.k * (y.q * y.q)) := fun x y => by
    simp only [mul_p, mul_q]
    grind
  have k1 := key x y
  rcases h with h | h <;> rcases h' with h' | h'
  · have c := cross hk h.2 h'.2 h.1 h'.1
    have n : 0 < (x.p * x.p - r.k * (x.q * x.q)) * (y.p * y.p - r.k * (y.q * y.q)) := Rat.mul_pos (by grind) (by grind)
    exact .inl ⟨by grind, by show 0 < x.p * y.p + r.k * (x.q * y.q); grind⟩
  · have c := cross3 hk h.2 h'.2 h.1 h'.1
    have n : 0 < (x.p * x.p - r.k * (x.q * x.q)) * -(y.p * y.p - r.k * (y.q * y.q)) := Rat.mul_pos (by grind) (by grind)
    exact .inr ⟨by grind, by show 0 < x.p * y.q + x.q * y.p; grind⟩
  · have c := cross3 hk h'.2 h.2 h'.1 h.1
    have n : 0 < -(x.p * x.p - r.k * (x.q * x.q)) * (y.p * y.p - r.k * (y.q * y.q)) := Rat.mul_pos (by grind) (by grind)
    exact .inr ⟨by grind, by show 0 < x.p * y.q + x.q * y.p; grind⟩
  · have c := cross2 hk h.2 h'.2 h.1 h'.1
    have n : 0 < -(x.p * x.p - r.k * (x.q * x.q)) * -(y.p * y.p - r.k * (y.q * y.q)) := Rat.mul_pos (by grind) (by grind)
    exact .inl ⟨by grind, by show 0 < x.p * y.p + r.k * (x.q * y.q); grind⟩
theorem Pos.ne {x : F r} (h : Pos x) : x ≠ 0 := fun e => by
  subst e
  rcases h with h | h
  · exact absurd h.2 (by show ¬ (0 : Rat) < 0; decide)
  · exact absurd h.2 (by show ¬ (0 : Rat) < 0; decide)
theorem Pos.neg {x : F r} (h : Pos x) : ¬ Pos (-x) := fun h' => by
  have := (h.add h').ne
  exact this (F.ext (by simp; grind) (by simp; grind))
theorem Pos.three (x : F r) : Pos x ∨ x = 0 ∨ Pos (-x) := by
  unfold Pos
  simp only [neg_p, neg_q]
  by_cases h1 : r.k * (x.q * x.q) < x.p * x.p
  · by_cases h2 : 0 < x.p
    · exact .inl (.inl ⟨h1, h2⟩)
    · have h3 : x.p ≠ 0 := fun e => by
        rw [e] at h1
        have a1 : 0 ≤ r.k * (x.q * x.q) := Rat.mul_nonneg (by have := k_pos (r := r); grind) (sq_nn _)
        grind
      exact .inr (.inr (.inl ⟨by grind, by grind⟩))
  · by_cases h2 : x.p * x.p < r.k * (x.q * x.q)
    · by_cases h3 : 0 < x.q
      · exact .inl (.inr ⟨h2, h3⟩)
      · have h4 : x.q ≠ 0 := fun e => by
          rw [e] at h2
          have a1 := sq_nn x.p
          grind
        exact .inr (.inr (.inr ⟨by grind, by grind⟩))
    · obtain ⟨e1, e2⟩ := r.irr x.p x.q (by grind)
      exact .inr (.inl (F.ext e1 e2))
instance : LT (F r) := ⟨fun x y => Pos (y - x)⟩
instance : LE (F r) := ⟨fun x y => x = y ∨ Pos (y - x)⟩
theorem lt_def {x y : F r} : x < y ↔ Pos (y - x) := Iff.rfl
theorem le_def {x y : F r} : x ≤ y ↔ (x = y ∨ Pos (y - x)) := Iff.rfl
theorem pos_iff {x : F r} : 0 < x ↔ Pos x := by
  rw [lt_def, show x - 0 = x from F.ext (by simp; grind) (by simp; grind)]
theorem sub_tr (x y z : F r) : z - x = (z - y) + (y - x) := F.ext (by simp; grind) (by simp; grind)
theorem sub_neg' (x y : F r) : -(y - x) = x - y := F.ext (by simp; grind) (by simp; grind)
theorem sub_zero' {x y : F r} (h : y - x = 0) : x = y := by
  have h1 : (y - x).p = 0 := by rw [h]; rfl
  have h2 : (y - x).q = 0 := by rw [h]; rfl
  simp only [sub_p, sub_q] at h1 h2
  exact F.ext (by grind) (by grind)
instance : Std.IsLinearOrder (F r) where
  le_refl a := .inl rfl
  le_trans a b c h h' := by
    rcases h with rfl | h
    · exact h'
    · rcases h' with rfl | h'
      · exact .inr h
      · refine .inr ?_
        rw [sub_tr a b c]
        exact h'.add h
  le_antisymm a b h h' := by
    rcases h with h | h
    · exact h
    · rcases h' with h' | h'
      · exact h'.symm
      · exact absurd h' (by rw [← sub_neg']; exact h.neg)
  le_total a b := by
    rcases Pos.three (b - a) with h | h | h
    · exact .inl (.inr h)
    · exact .inl (.inl (sub_zero' h))
    · exact .inr (.inr (by rw [← sub_neg']; exact h))
instance : Std.LawfulOrderLT (F r) where
  lt_iff a b := by
    constructor
    · intro h
      have h : Pos (b - a) := h
      refine ⟨.inr h, fun h' => ?_⟩
      rcases h' with h' | h'
      · subst h'
        exact h.ne (F.ext (by simp; grind) (by simp; grind))
      · exact absurd h' (by rw [← sub_neg']; exact h.neg)
    · rintro ⟨h, h'⟩
      rcases h with h | h
      · exact absurd (.inl h.symm) h'
      · exact h
instance : Lean.Grind.OrderedAdd (F r) where
  add_le_left_iff {a b} c := by
    have e : (b + c) - (a + c) = b - a := F.ext (by simp; grind) (by simp; grind)
    rw [le_def, le_def, e]
    constructor
    · rintro (h | h)
      · exact .inl (by rw [h])
      · exact .inr h
    · rintro (h | h)
      · refine .inl (F.ext ?_ ?_)
        · have := congrArg F.p h
          simp only [add_p] at this
          grind
        · have := congrArg F.q h
          simp only [add_q] at this
          grind
      · exact .inr h
instance : Lean.Grind.OrderedRing (F r) where
  zero_lt_one := by
    rw [pos_iff]
    exact .inl ⟨by show r.k * (0 * 0) < (1 : Rat) * 1; grind, by show (0 : Rat) < 1; decide⟩
  mul_lt_mul_of_pos_left {a b c} h hc := by
    rw [pos_iff] at hc
    have h : Pos (b - a) := h
    show Pos (c * b - c * a)
    rw [show c * b - c * a = c * (b - a) by grind]
    exact hc.mul h
  mul_lt_mul_of_pos_right {a b c} h hc := by
    rw [pos_iff] at hc
    have h : Pos (b - a) := h
    show Pos (b * c - a * c)
    rw [show b * c - a * c = (b - a) * c by grind]
    exact h.mul hc
theorem fmul_pos {x y : F r} (hx : 0 < x) (hy : 0 < y) : 0 < x * y := by
  rw [pos_iff] at *
  exact hx.mul hy
example (x y w : F r) (h : x < y) (h2 : 0 ≤ w) : x - w < y + w := by grind
end Mf
namespace Mf
/-! ### triples of whole numbers -/
structure N3 where
  a : Int
  b : Int
  c : Int
deriving DecidableEq
variable {r : Rt}
def g3 (a b c : Int) : Int := (Int.gcd (Int.gcd a b : Int) c : Int)
def gs (a b c : Int) : Int := if c < 0 then 0 - g3 a b c else g3 a b c
def low (a b c : Int) : N3 := ⟨a / gs a b c, b / gs a b c, c / gs a b c⟩
def Nm (x : N3) : Prop := 0 < x.c ∧ g3 x.a x.b x.c = 1
def val (r : Rt) (x : N3) : F r := ⟨(x.a : Rat) / (x.c : Rat), (x.b : Rat) / (x.c : Rat)⟩
def fr (r : Rt) (a b c : Int) : F r := ⟨(a : Rat) / (c : Rat), (b : Rat) / (c : Rat)⟩
theorem g3_pos {a b c : Int} (h : c ≠ 0) : 0 < g3 a b c := by
  unfold g3
  have : 0 < Int.gcd (Int.gcd a b : Int) c := Int.gcd_pos_of_ne_zero_right _ h
  omega
theorem g3_dvd (a b c : Int) : g3 a b c ∣ a ∧ g3 a b c ∣ b ∧ g3 a b c ∣ c := by
  unfold g3
  have h1 : ((Int.gcd (Int.gcd a b : Int) c : Nat) : Int) ∣ (Int.gcd a b : Int) := Int.gcd_dvd_left _ _
  exact ⟨Int.dvd_trans h1 (Int.gcd_dvd_left _ _), Int.dvd_trans h1 (Int.gcd_dvd_right _ _), Int.gcd_dvd_right _ _⟩
theorem dvd_g3 {k a b c : Int} (h1 : k ∣ a) (h2 : k ∣ b) (h3 : k ∣ c) : k ∣ g3 a b c := by
  unfold g3
  exact Int.dvd_coe_gcd (Int.dvd_coe_gcd h1 h2) h3
theorem gs_spec {a b c : Int} (h : c ≠ 0) : gs a b c ≠ 0 ∧ (∃ k, a = gs a b c * k) ∧ (∃ k, b = gs a b c * k) ∧ (∃ k, c = gs a b c * k) ∧ 0 < c / gs a b c := by
  have hp := g3_pos (a := a) (b := b) h
  obtain ⟨⟨ka, ea⟩, ⟨kb, eb⟩, ⟨kc, ec⟩⟩ := g3_dvd a b c
  unfold gs
  by_cases hc : c < 0
  · rw [if_pos hc]
    refine ⟨by omega, ⟨-ka, by grind⟩, ⟨-kb, by grind⟩, ⟨-kc, by grind⟩, ?_⟩
    generalize g3 a b c = g at *
    subst ec
    have e : g * kc / (0 - g) = -kc := by
      rw [show g * kc = (0 - g) * (-kc) by grind]
      exact Int.mul_ediv_cancel_left _ (by omega)
    rw [e]
    apply Classical.byContradiction
    intro hn
    have : 0 ≤ g * kc := Int.mul_nonneg (by omega) (by omega)
    omega
  · rw [if_neg hc]
    refine ⟨by omega, ⟨ka, ea⟩, ⟨kb, eb⟩, ⟨kc, ec⟩, ?_⟩
    generalize g3 a b c = g at *
    subst ec
    rw [Int.mul_ediv_cancel_left _ (by omega)]
    apply Classical.byContradiction
    intro hn
    have : 0 ≤ g * (-kc) := Int.mul_nonneg (by omega) (by omega)
    have e : g * (-kc) = -(g * kc) := by grind
    omega
theorem low_eq {a b c : Int} (h : c ≠ 0) : ∃ g, g ≠ 0 ∧ a = g * (low a b c).a ∧ b = g * (low a b c).b ∧ c = g * (low a b c).c ∧ 0 < (low a b c).c ∧ g = gs a b c := by
  obtain ⟨h0, ⟨ka, ea⟩, ⟨kb, eb⟩, ⟨kc, ec⟩, hp⟩ := gs_spec (a := a) (b := b) h
  refine ⟨gs a b c, h0, ?_, ?_, ?_, hp, rfl⟩
  · show a = gs a b c * (a / gs a b c)
    exact (Int.mul_ediv_cancel' ⟨ka, ea⟩).symm
  · show b = gs a b c * (b / gs a b c)
    exact (Int.mul_ediv_cancel' ⟨kb, eb⟩).symm
  · show c = gs a b c * (c / gs a b c)
    exact (Int.mul_ediv_cancel' ⟨kc, ec⟩).symm
theorem icast_ne {c : Int} (h : c ≠ 0) : (c : Rat) ≠ 0 := fun e => h (Rat.intCast_inj.mp e)
theorem low_val {a b c : Int} (h : c ≠ 0) : val r (low a b c) = fr r a b c := by
  obtain ⟨g, h0, ea, eb, ec, hp, _⟩ := low_eq (a := a) (b := b) h
  generalize low a b c = x at *
  have ga : (a : Rat) = (g : Rat) * (x.a : Rat) := by rw [ea, Rat.intCast_mul]
  have gb : (b : Rat) = (g : Rat) * (x.b : Rat) := by rw [eb, Rat.intCast_mul]
  have gc : (c : Rat) = (g : Rat) * (x.c : Rat) := by rw [ec, Rat.intCast_mul]
  have n1 := icast_ne h0
  have n2 := icast_ne (show x.c ≠ 0 by omega)
  exact F.ext (by show (x.a : Rat) / (x.c : Rat) = (a : Rat) / (c : Rat); rw [ga, gc]; grind) (by show (x.b : Rat) / (x.c : Rat) = (b : Rat) / (c : Rat); rw [gb, gc]; grind)
theorem low_nm {a b c : Int} (h : c ≠ 0) : Nm (low a b c) := by
  obtain ⟨g, h0, ea, eb, ec, hp, eg⟩ := low_eq (a := a) (b := b) h
  refine ⟨hp, ?_⟩
  have hp2 := g3_pos (a := (low a b c).a) (b := (low a b c).b) (show (low a b c).c ≠ 0 by omega)
  obtain ⟨d1, d2, d3⟩ := g3_dvd (low a b c).a (low a b c).b (low a b c).c
  generalize low a b c = x at *
  generalize g3 x.a x.b x.c = m at *
  have hm : g * m ∣ g3 a b c := dvd_g3 (by rw [ea]; exact Int.mul_dvd_mul_left _ d1) (by rw [eb]; exact Int.mul_dvd_mul_left _ d2) (by rw [ec]; exact Int.mul_dvd_mul_left _ d3)
  have hg : g3 a b c = g ∨ g3 a b c = -g := by
    rw [eg]
    unfold gs
    split <;> omega
  have hm2 : g * m ∣ g := by
    rcases hg with e | e
    · rw [e] at hm
      exact hm
    · rw [e] at hm
      exact Int.dvd_neg.mp hm
  obtain ⟨k, hk⟩ := hm2
  have e1 : m * k = 1 := by
    have : g * (m * k - 1) = 0 := by grind
    rcases Int.mul_eq_zero.mp this with z | z
    · exact absurd z h0
    · omega
  have : m ∣ 1 := ⟨k, e1.symm⟩
  exact Int.eq_one_of_dvd_one (by omega) this
theorem g3_nat (a b c : Int) : g3 a b c = ((Nat.gcd (Nat.gcd a.natAbs b.natAbs) c.natAbs : Nat) : Int) := rfl
theorem dvd_g3_mul {k a b c m : Int} (h1 : k ∣ a * m) (h2 : k ∣ b * m) (h3 : k ∣ c * m) : k ∣ g3 a b c * m := by
  have t : ∀ {z : Int}, k ∣ z * m → k.natAbs ∣ z.natAbs * m.natAbs := fun {z} h => by
    rw [← Int.natAbs_mul]
    exact Int.natAbs_dvd_natAbs.mpr h
  have h : k.natAbs ∣ Nat.gcd (Nat.gcd a.natAbs b.natAbs) c.natAbs * m.natAbs := by
    rw [← Nat.gcd_mul_right, ← Nat.gcd_mul_right]
    exact Nat.dvd_gcd (Nat.dvd_gcd (t h1) (t h2)) (t h3)
  have h4 : k ∣ (((Nat.gcd (Nat.gcd a.natAbs b.natAbs) c.natAbs * m.natAbs : Nat)) : Int) := Int.natAbs_dvd.mp (Int.natCast_dvd_natCast.mpr h)
  rw [Int.natCast_mul, ← g3_nat] at h4
  rcases Int.natAbs_eq m with e | e
  · rw [← e] at h4
    exact h4
  · have e2 : ((m.natAbs : Nat) : Int) = -m := by omega
    rw [e2, Int.mul_neg] at h4
    exact Int.dvd_neg.mp h4
theorem nm_dvd {x : N3} {A B C : Int} (hx : Nm x) (e1 : x.a * C = A * x.c) (e2 : x.b * C = B * x.c) : x.c ∣ C := by
  have h := dvd_g3_mul (k := x.c) (a := x.a) (b := x.b) (c := x.c) (m := C) ⟨A, by rw [e1, Int.mul_comm]⟩ ⟨B, by rw [e2, Int.mul_comm]⟩ ⟨C, rfl⟩
  rw [hx.2, Int.one_mul] at h
  exact h
theorem val_eq {x : N3} {A B C : Int} (hc : x.c ≠ 0) (hC : C ≠ 0) : val r x = fr r A B C ↔ x.a * C = A * x.c ∧ x.b * C = B * x.c := by
  have n1 := icast_ne hc
  have n2 := icast_ne hC
  constructor
  · intro h
    have h1 : (x.a : Rat) / (x.c : Rat) = (A : Rat) / (C : Rat) := congrArg F.p h
    have h2 : (x.b : Rat) / (x.c : Rat) = (B : Rat) / (C : Rat) := congrArg F.q h
    constructor
    · have : (x.a : Rat) * (C : Rat) = (A : Rat) * (x.c : Rat) := by grind
      exact Rat.intCast_inj.mp (by rw [Rat.intCast_mul, Rat.intCast_mul]; exact this)
    · have : (x.b : Rat) * (C : Rat) = (B : Rat) * (x.c : Rat) := by grind
      exact Rat.intCast_inj.mp (by rw [Rat.intCast_mul, Rat.intCast_mul]; exact this)
  · rintro ⟨h1, h2⟩
    have h1 : (x.a : Rat) * (C : Rat) = (A : Rat) * (x.c : Rat) := by rw [← Rat.intCast_mul, ← Rat.intCast_mul, h1]
    have h2 : (x.b : Rat) * (C : Rat) = (B : Rat) * (x.c : Rat) := by rw [← Rat.intCast_mul, ← Rat.intCast_mul, h2]
    exact F.ext (by show (x.a : Rat) / (x.c : Rat) = (A : Rat) / (C : Rat); grind) (by show (x.b : Rat) / (x.c : Rat) = (B : Rat) / (C : Rat); grind)
theorem Nm.ne {x : N3} (h : Nm x) : x.c ≠ 0 := by have := h.1; omega
theorem nm_inj {x y : N3} (hx : Nm x) (hy : Nm y) (h : val r x = val r y) : x = y := by
  obtain ⟨e1, e2⟩ := (val_eq (r := r) hx.ne hy.ne).mp (show val r x = fr r y.a y.b y.c from h)
  have d1 := nm_dvd hx e1 e2
  have d2 := nm_dvd hy e1.symm e2.symm
  have ec : x.c = y.c := Int.dvd_antisymm (by have := hx.1; omega) (by have := hy.1; omega) d1 d2
  have hp := hx.ne
  cases x
  cases y
  simp only at ec e1 e2 hp
  subst ec
  rw [Int.mul_eq_mul_right_iff hp] at e1 e2
  rw [e1, e2]
theorem val_inj {x y : N3} (hx : Nm x) (hy : Nm y) : val r x = val r y ↔ x = y := ⟨nm_inj hx hy, fun h => by rw [h]⟩
/-- a number is no greater than its fraction's parts -/
theorem nm_small {x : N3} {A B C : Int} (hx : Nm x) (hC : 0 < C) (h : val r x = fr r A B C) : x.a.natAbs ≤ A.natAbs ∧ x.b.natAbs ≤ B.natAbs ∧ x.c ≤ C := by
  obtain ⟨e1, e2⟩ := (val_eq hx.ne (by omega)).mp h
  obtain ⟨k, hk⟩ := nm_dvd hx e1 e2
  have hc := hx.1
  have kp : 0 < k := by
    apply Classical.byContradiction
    intro hn
    have : 0 ≤ x.c * (-k) := Int.mul_nonneg (by omega) (by omega)
    have e : x.c * (-k) = -(x.c * k) := by grind
    omega
  have hz : x.c ≠ 0 := hx.ne
  have eA : A = x.a * k := by
    have : (A - x.a * k) * x.c = 0 := by
      rw [hk] at e1
      grind
    rcases Int.mul_eq_zero.mp this with z | z <;> omega
  have eB : B = x.b * k := by
    have : (B - x.b * k) * x.c = 0 := by
      rw [hk] at e2
      grind
    rcases Int.mul_eq_zero.mp this with z | z <;> omega
  have kn : 1 ≤ k.natAbs := by omega
  refine ⟨?_, ?_, ?_⟩
  · rw [eA, Int.natAbs_mul]
    exact Nat.le_mul_of_pos_right _ kn
  · rw [eB, Int.natAbs_mul]
    exact Nat.le_mul_of_pos_right _ kn
  · rw [hk]
    have := Int.mul_le_mul_of_nonneg_left (show (1 : Int) ≤ k by omega) (show 0 ≤ x.c by omega)
    omega
/-! ### the operations -/
def plusN (x y : N3) : N3 := low (x.a * y.c + y.a * x.c) (x.b * y.c + y.b * x.c) (x.c * y.c)
def negN (x : N3) : N3 := ⟨0 - x.a, 0 - x.b, x.c⟩
def mateN (x : N3) : N3 := ⟨x.a, 0 - x.b, x.c⟩
def timesN (d : Int) (x y : N3) : N3 := low (x.a * y.a + d * x.b * y.b) (x.a * y.b + x.b * y.a) (x.c * y.c)
def contN (d : Int) (x : N3) : N3 := low (x.a * x.c) (0 - x.b * x.c) (x.a * x.a - d * x.b * x.b)
def F.bar (x : F r) : F r := ⟨x.p, -x.q⟩
@[simp] theorem bar_p (x : F r) : x.bar.p = x.p := rfl
@[simp] theorem bar_q (x : F r) : x.bar.q = -x.q := rfl
theorem bar_add (x y : F r) : (x + y).bar = x.bar + y.bar := F.ext (by simp) (by simp; grind)
theorem bar_sub (x y : F r) : (x - y).bar = x.bar - y.bar := F.ext (by simp) (by simp; grind)
theorem bar_mul (x y : F r) : (x * y).bar = x.bar * y.bar := F.ext (by simp; grind) (by simp; grind)
theorem mul_ne {a b : Int} (ha : a ≠ 0) (hb : b ≠ 0) : a * b ≠ 0 := Int.mul_ne_zero ha hb
theorem plus_nm {x y : N3} (hx : x.c ≠ 0) (hy : y.c ≠ 0) : Nm (plusN x y) := low_nm (mul_ne hx hy)
theorem times_nm {d : Int} {x y : N3} (hx : x.c ≠ 0) (hy : y.c ≠ 0) : Nm (timesN d x y) := low_nm (mul_ne hx hy)
theorem plus_val {x y : N3} (hx : x.c ≠ 0) (hy : y.c ≠ 0) : val r (plusN x y) = val r x + val r y := by
  rw [plusN, low_val (mul_ne hx hy)]
  have n1 := icast_ne hx
  have n2 := icast_ne hy
  refine F.ext ?_ ?_
  · show ((x.a * y.c + y.a * x.c : Int) : Rat) / ((x.c * y.c : Int) : Rat) = (x.a : Rat) / (x.c : Rat) + (y.a : Rat) / (y.c : Rat)
    simp only [Rat.intCast_add, Rat.intCast_mul]
    grind
  · show ((x.b * y.c + y.b * x.c : Int) : Rat) / ((x.c * y.c : Int) : Rat) = (x.b : Rat) / (x.c : Rat) + (y.b : Rat) / (y.c : Rat)
    simp only [Rat.intCast_add, Rat.intCast_mul]
    grind
theorem times_val {x y : N3} (hx : x.c ≠ 0) (hy : y.c ≠ 0) : val r (timesN r.d x y) = val r x * val r y := by
  rw [timesN, low_val (mul_ne hx hy)]
  have n1 := icast_ne hx
  have n2 := icast_ne hy
  refine F.ext ?_ ?_
  · show ((x.a * y.a + r.d * x.b * y.b : Int) : Rat) / ((x.c * y.c : Int) : Rat) = (x.a : Rat) / (x.c : Rat) * ((y.a : Rat) / (y.c : Rat)) + (r.d : Rat) * ((x.b : Rat) / (x.c : Rat) * ((y.b : Rat) / (y.c : Rat)))
    simp only [Rat.intCast_add, Rat.intCast_mul]
    grind
  · show ((x.a * y.b + x.b * y.a : Int) : Rat) / ((x.c * y.c : Int) : Rat) = (x.a : Rat) / (x.c : Rat) * ((y.b : Rat) / (y.c : Rat)) + (x.b : Rat) / (x.c : Rat) * ((y.a : Rat) / (y.c : Rat))
    simp only [Rat.intCast_add, Rat.intCast_mul]
    grind
theorem neg_val {x : N3} (hx : x.c ≠ 0) : val r (negN x) = - val r x := by
  have n1 := icast_ne hx
  refine F.ext ?_ ?_
  · show ((0 - x.a : Int) : Rat) / (x.c : Rat) = - ((x.a : Rat) / (x.c : Rat))
    rw [Rat.intCast_sub]
    grind
  · show ((0 - x.b : Int) : Rat) / (x.c : Rat) = - ((x.b : Rat) / (x.c : Rat))
    rw [Rat.intCast_sub]
    grind
theorem mate_val {x : N3} (hx : x.c ≠ 0) : val r (mateN x) = (val r x).bar := by
  have n1 := icast_ne hx
  refine F.ext rfl ?_
  show ((0 - x.b : Int) : Rat) / (x.c : Rat) = - ((x.b : Rat) / (x.c : Rat))
  rw [Rat.intCast_sub]
  grind
theorem g3_neg2 (a b c : Int) : g3 a (0 - b) c = g3 a b c := by rw [g3_nat, g3_nat]; simp
theorem g3_neg1 (a b c : Int) : g3 (0 - a) b c = g3 a b c := by rw [g3_nat, g3_nat]; simp
theorem mate_nm {x : N3} (h : Nm x) : Nm (mateN x) := ⟨h.1, by show g3 x.a (0 - x.b) x.c = 1; rw [g3_neg2]; exact h.2⟩
theorem neg_nm {x : N3} (h : Nm x) : Nm (negN x) := ⟨h.1, by show g3 (0 - x.a) (0 - x.b) x.c = 1; rw [g3_neg2, g3_neg1]; exact h.2⟩
theorem norm_ne {x : N3} (hx : Nm x) (h0 : val r x ≠ 0) : x.a * x.a - r.d * x.b * x.b ≠ 0 := fun e => by
  have n1 := icast_ne hx.ne
  have e2 : ((x.a : Rat)) * (x.a : Rat) = (r.d : Rat) * ((x.b : Rat) * (x.b : Rat)) := by
    have : ((x.a * x.a - r.d * x.b * x.b : Int) : Rat) = ((0 : Int) : Rat) := by rw [e]
    simp only [Rat.intCast_sub, Rat.intCast_mul] at this
    grind
  obtain ⟨z1, z2⟩ := r.irr _ _ e2
  apply h0
  refine F.ext ?_ ?_
  · show (x.a : Rat) / (x.c : Rat) = 0
    rw [z1]
    grind
  · show (x.b : Rat) / (x.c : Rat) = 0
    rw [z2]
    grind
theorem cont_nm {x : N3} (hx : Nm x) (h0 : val r x ≠ 0) : Nm (contN r.d x) := low_nm (norm_ne hx h0)
theorem cont_val {x : N3} (hx : Nm x) (h0 : val r x ≠ 0) : val r (contN r.d x) * val r x = 1 := by
  have hn := norm_ne hx h0
  rw [contN, low_val hn]
  have n1 := icast_ne hx.ne
  have n2 := icast_ne hn
  have e : ((x.a * x.a - r.d * x.b * x.b : Int) : Rat) = (x.a : Rat) * (x.a : Rat) - (r.d : Rat) * (x.b : Rat) * (x.b : Rat) := by
    simp only [Rat.intCast_sub, Rat.intCast_mul]
  refine F.ext ?_ ?_
  · show ((x.a * x.c : Int) : Rat) / ((x.a * x.a - r.d * x.b * x.b : Int) : Rat) * ((x.a : Rat) / (x.c : Rat)) + (r.d : Rat) * (((0 - x.b * x.c : Int) : Rat) / ((x.a * x.a - r.d * x.b * x.b : Int) : Rat) * ((x.b : Rat) / (x.c : Rat))) = 1
    rw [e] at n2 ⊢
    simp only [Rat.intCast_sub, Rat.intCast_mul]
    grind
  · show ((x.a * x.c : Int) : Rat) / ((x.a * x.a - r.d * x.b * x.b : Int) : Rat) * ((x.b : Rat) / (x.c : Rat)) + ((0 - x.b * x.c : Int) : Rat) / ((x.a * x.a - r.d * x.b * x.b : Int) : Rat) * ((x.a : Rat) / (x.c : Rat)) = 0
    rw [e] at n2 ⊢
    simp only [Rat.intCast_sub, Rat.intCast_mul]
    grind
end Mf
namespace Mf
variable {r : Rt}
/-! ### the sign -/
def b2i (b : Bool) : Int := if b = true then 1 else 0
def sq (d : Int) (x : N3) : Int := x.a * (if x.a < 0 then -x.a else x.a) + d * x.b * (if x.b < 0 then -x.b else x.b)
def sgnN (d : Int) (x : N3) : Int := b2i (decide (0 < sq d x)) - b2i (decide (sq d x < 0))
def sg (a : Int) : Int := b2i (decide (0 < a)) - b2i (decide (a < 0))
def lsgnN (d : Int) (x : N3) : Int :=
  if 0 ≤ sg x.a * sg x.b then (if sg x.a ≠ 0 then sg x.a else sg x.b) else (if d * x.b * x.b < x.a * x.a then sg x.a else sg x.b)
def PosZ (d : Int) (a b : Int) : Prop := (d * (b * b) < a * a ∧ 0 < a) ∨ (a * a < d * (b * b) ∧ 0 < b)
theorem rat_lt {a b : Int} : (a : Rat) < (b : Rat) ↔ a < b := Rat.intCast_lt_intCast
theorem pos_val {x : N3} (hc : 0 < x.c) : 0 < val r x ↔ PosZ r.d x.a x.b := by
  rw [pos_iff]
  have hc' : (0 : Rat) < (x.c : Rat) := Rat.intCast_pos.mpr hc
  have hcc : (0 : Rat) < (x.c : Rat) * (x.c : Rat) := Rat.mul_pos hc' hc'
  have ea : ((x.a : Rat) / (x.c : Rat)) * (x.c : Rat) = (x.a : Rat) := by grind
  have eb : ((x.b : Rat) / (x.c : Rat)) * (x.c : Rat) = (x.b : Rat) := by grind
  have key : ∀ u v : Rat, u < v ↔ u * ((x.c : Rat) * (x.c : Rat)) < v * ((x.c : Rat) * (x.c : Rat)) := fun u v => by
    constructor
    · exact fun h => Rat.mul_lt_mul_of_pos_right h hcc
    · intro h
      apply Classical.byContradiction
      intro hn
      have := Rat.mul_le_mul_of_nonneg_right (Rat.not_lt.mp hn) (show (0 : Rat) ≤ (x.c : Rat) * (x.c : Rat) by grind)
      grind
  have key1 : ∀ u : Rat, 0 < u ↔ 0 < u * (x.c : Rat) := fun u => by
    constructor
    · exact fun h => Rat.mul_pos h hc'
    · intro h
      apply Classical.byContradiction
      intro hn
      have := Rat.mul_le_mul_of_nonneg_right (Rat.not_lt.mp hn) (show (0 : Rat) ≤ (x.c : Rat) by grind)
      grind
  have ez : ((x.a : Rat)) * (x.a : Rat) = ((x.a * x.a : Int) : Rat) := by rw [Rat.intCast_mul]
  have ew : (r.d : Rat) * ((x.b : Rat) * (x.b : Rat)) = ((r.d * (x.b * x.b) : Int) : Rat) := by rw [Rat.intCast_mul, Rat.intCast_mul]
  have z0 : (0 : Rat) = ((0 : Int) : Rat) := rfl
  unfold Pos PosZ
  show ((r.d : Rat) * (((x.b : Rat) / (x.c : Rat)) * ((x.b : Rat) / (x.c : Rat))) < ((x.a : Rat) / (x.c : Rat)) * ((x.a : Rat) / (x.c : Rat)) ∧ 0 < (x.a : Rat) / (x.c : Rat)) ∨ (((x.a : Rat) / (x.c : Rat)) * ((x.a : Rat) / (x.c : Rat)) < (r.d : Rat) * (((x.b : Rat) / (x.c : Rat)) * ((x.b : Rat) / (x.c : Rat))) ∧ 0 < (x.b : Rat) / (x.c : Rat)) ↔ _
  generalize (x.a : Rat) / (x.c : Rat) = p at *
  generalize (x.b : Rat) / (x.c : Rat) = q at *
  rw [key ((r.d : Rat) * (q * q)), key (p * p), key1 p, key1 q, ea, eb]
  have e1 : (r.d : Rat) * (q * q) * ((x.c : Rat) * (x.c : Rat)) = ((r.d * (x.b * x.b) : Int) : Rat) := by rw [← ew, ← eb]; grind
  have e2 : p * p * ((x.c : Rat) * (x.c : Rat)) = ((x.a * x.a : Int) : Rat) := by rw [← ez, ← ea]; grind
  rw [e1, e2, z0, rat_lt, rat_lt, rat_lt, rat_lt]
theorem sq_nonneg (a : Int) : 0 ≤ a * a := by
  rcases Int.le_total 0 a with h | h
  · exact Int.mul_nonneg h h
  · have := Int.mul_nonneg (show 0 ≤ -a by omega) (show 0 ≤ -a by omega)
    grind
theorem sq_pos {d : Int} {x : N3} (hd : 0 < d) (h : PosZ d x.a x.b) : 0 < sq d x := by
  unfold sq
  have h1 := sq_nonneg x.a
  have h2 : 0 ≤ d * (x.b * x.b) := Int.mul_nonneg (by omega) (sq_nonneg x.b)
  have e1 : ∀ z : Int, d * x.b * z = d * (x.b * z) := fun z => Int.mul_assoc _ _ _
  rcases h with ⟨h, hp⟩ | ⟨h, hp⟩
  · rw [if_neg (by omega)]
    split
    · have : d * x.b * -x.b = -(d * (x.b * x.b)) := by grind
      omega
    · rw [e1]
      omega
  · rw [if_neg (show ¬ x.b < 0 by omega), e1]
    split
    · have : x.a * -x.a = -(x.a * x.a) := by grind
      omega
    · omega
theorem sq_neg (d : Int) (x : N3) : sq d (negN x) = - sq d x := by
  unfold sq negN
  simp only
  by_cases h1 : x.a < 0 <;> by_cases h2 : x.b < 0 <;> by_cases h3 : 0 - x.a < 0 <;> by_cases h4 : 0 - x.b < 0 <;> simp only [h1, h2, h3, h4, if_true, if_false] <;> grind
theorem val_zero {x : N3} (hc : x.c ≠ 0) : val r x = 0 ↔ x.a = 0 ∧ x.b = 0 := by
  have n1 := icast_ne hc
  constructor
  · intro h
    have h1 : (x.a : Rat) / (x.c : Rat) = 0 := congrArg F.p h
    have h2 : (x.b : Rat) / (x.c : Rat) = 0 := congrArg F.q h
    have e1 : (x.a : Rat) = ((0 : Int) : Rat) := by show (x.a : Rat) = 0; grind
    have e2 : (x.b : Rat) = ((0 : Int) : Rat) := by show (x.b : Rat) = 0; grind
    exact ⟨Rat.intCast_inj.mp e1, Rat.intCast_inj.mp e2⟩
  · rintro ⟨h1, h2⟩
    refine F.ext ?_ ?_
    · show (x.a : Rat) / (x.c : Rat) = 0
      rw [h1]
      show (0 : Rat) / (x.c : Rat) = 0
      grind
    · show (x.b : Rat) / (x.c : Rat) = 0
      rw [h2]
      show (0 : Rat) / (x.c : Rat) = 0
      grind
theorem neg_pos {y : F r} : 0 < -y ↔ y < 0 := by
  constructor <;> intro h <;> grind
/-- the three ways -/
theorem sq_three {x : N3} (hc : 0 < x.c) : (0 < val r x ∧ 0 < sq r.d x) ∨ (val r x = 0 ∧ sq r.d x = 0 ∧ x.a = 0 ∧ x.b = 0) ∨ (val r x < 0 ∧ sq r.d x < 0) := by
  have hp := r.pos
  by_cases h : 0 < val r x
  · exact .inl ⟨h, sq_pos hp ((pos_val hc).mp h)⟩
  · by_cases h0 : val r x = 0
    · obtain ⟨a0, b0⟩ := (val_zero (r := r) (show x.c ≠ 0 by omega)).mp h0
      refine .inr (.inl ⟨h0, ?_, a0, b0⟩)
      unfold sq
      rw [a0, b0]
      simp
    · have hn : val r x < 0 := by grind
      have h2 : 0 < val r (negN x) := by
        rw [neg_val (by omega)]
        exact neg_pos.mpr hn
      have h3 := sq_pos (x := negN x) hp ((pos_val (show 0 < (negN x).c from hc)).mp h2)
      rw [sq_neg] at h3
      exact .inr (.inr ⟨hn, by omega⟩)
theorem sgn_pos {x : N3} (hc : 0 < x.c) : 0 < sgnN r.d x ↔ 0 < val r x := by
  unfold sgnN b2i
  rcases sq_three (r := r) hc with ⟨h1, h2⟩ | ⟨h1, h2, _⟩ | ⟨h1, h2⟩
  · simp [h1, h2, show ¬ sq r.d x < 0 by omega]
  · have z : ¬ (0 : F r) < 0 := by grind
    simp [h1, h2, z]
  · have : ¬ 0 < val r x := by grind
    simp [h2, this, show ¬ 0 < sq r.d x by omega]
theorem sgn_neg {x : N3} (hc : 0 < x.c) : sgnN r.d x < 0 ↔ val r x < 0 := by
  unfold sgnN b2i
  rcases sq_three (r := r) hc with ⟨h1, h2⟩ | ⟨h1, h2, _⟩ | ⟨h1, h2⟩
  · have : ¬ val r x < 0 := by grind
    simp [h2, this, show ¬ sq r.d x < 0 by omega]
  · have z : ¬ (0 : F r) < 0 := by grind
    simp [h1, h2, z]
  · simp [h1, h2, show ¬ 0 < sq r.d x by omega]
theorem sgn_zero {x : N3} (hc : 0 < x.c) : sgnN r.d x = 0 ↔ val r x = 0 := by
  unfold sgnN b2i
  rcases sq_three (r := r) hc with ⟨h1, h2⟩ | ⟨h1, h2, _⟩ | ⟨h1, h2⟩
  · have : ¬ val r x = 0 := by grind
    simp [h2, this, show ¬ sq r.d x < 0 by omega]
  · simp [h1, h2]
  · have : ¬ val r x = 0 := by grind
    simp [h2, this, show ¬ 0 < sq r.d x by omega]
theorem lsgn_eq {x : N3} (hc : 0 < x.c) : lsgnN r.d x = sgnN r.d x := by
  have key : ∀ x : N3, PosZ r.d x.a x.b → lsgnN r.d x = 1 := fun x h => by
    unfold lsgnN sg b2i
    have e1 : r.d * x.b * x.b = r.d * (x.b * x.b) := Int.mul_assoc _ _ _
    rw [e1]
    rcases h with ⟨h, hp⟩ | ⟨h, hp⟩
    · simp only [hp, decide_true, if_true, show ¬ x.a < 0 by omega, decide_false, h]
      simp
    · by_cases ha : 0 < x.a
      · have hn : ¬ x.a < 0 := by omega
        have hb : ¬ x.b < 0 := by omega
        simp [ha, hp, hn, hb]
      · by_cases ha2 : x.a < 0
        · have hb : ¬ x.b < 0 := by omega
          have hh : ¬ r.d * (x.b * x.b) < x.a * x.a := by omega
          simp [ha, ha2, hp, hb, hh]
        · have hb : ¬ x.b < 0 := by omega
          simp [ha, ha2, hp, hb]
  have keyn : ∀ x : N3, lsgnN r.d (negN x) = - lsgnN r.d x := fun x => by
    have e : ∀ a : Int, sg (0 - a) = - sg a := fun a => by
      unfold sg b2i
      by_cases h1 : 0 < a <;> by_cases h2 : a < 0 <;> simp [h1, h2] <;> omega
    unfold lsgnN negN
    simp only [e]
    have e2 : r.d * (0 - x.b) * (0 - x.b) = r.d * x.b * x.b := by grind
    have e3 : (0 - x.a) * (0 - x.a) = x.a * x.a := by grind
    have e4 : -sg x.a * -sg x.b = sg x.a * sg x.b := by grind
    rw [e2, e3, e4]
    have e5 : (-sg x.a ≠ 0) = (sg x.a ≠ 0) := by simp
    simp only [e5]
    split <;> split <;> rfl
  have one : ∀ x : N3, 0 < sq r.d x → sgnN r.d x = 1 := fun x h => by
    unfold sgnN b2i
    simp [h, show ¬ sq r.d x < 0 by omega]
  rcases sq_three (r := r) hc with ⟨h1, h2⟩ | ⟨h1, h2, a0, b0⟩ | ⟨h1, h2⟩
  · rw [key x ((pos_val hc).mp h1), one x h2]
  · unfold lsgnN sgnN sg b2i
    rw [h2, a0, b0]
    simp
  · have h3 : 0 < val r (negN x) := by
      rw [neg_val (by omega)]
      exact neg_pos.mpr h1
    have h4 := key (negN x) ((pos_val (show 0 < (negN x).c from hc)).mp h3)
    rw [keyn] at h4
    have h5 : sgnN r.d x = -1 := by
      unfold sgnN b2i
      simp [h2, show ¬ 0 < sq r.d x by omega]
    omega
/-! ### sizes -/
/-- x is (A + B root d) over C, A and B at most M -/
def Rp (r : Rt) (C : Int) (M : Nat) (x : N3) : Prop := ∃ A B : Int, val r x = fr r A B C ∧ A.natAbs ≤ M ∧ B.natAbs ≤ M
def Sm (n : Nat) (x : N3) : Prop := x.a.natAbs < 2 ^ n ∧ x.b.natAbs < 2 ^ n ∧ 0 < x.c ∧ x.c.natAbs < 2 ^ n
theorem Rp.sm {C : Int} {M n : Nat} {x : N3} (h : Rp r C M x) (hx : Nm x) (hC : 0 < C) (h1 : C < 2 ^ n) (h2 : M < 2 ^ n) : Sm n x := by
  obtain ⟨A, B, e, hA, hB⟩ := h
  obtain ⟨s1, s2, s3⟩ := nm_small hx hC e
  have hc := hx.1
  have h3 : C < ((2 ^ n : Nat) : Int) := by
    rw [Int.natCast_pow]
    exact h1
  exact ⟨by omega, by omega, hc, by omega⟩
theorem Rp.mono {C : Int} {M N : Nat} {x : N3} (h : Rp r C M x) (hm : M ≤ N) : Rp r C N x := by
  obtain ⟨A, B, e, hA, hB⟩ := h
  exact ⟨A, B, e, by omega, by omega⟩
theorem Rp.self {x : N3} {M : Nat} (h1 : x.a.natAbs ≤ M) (h2 : x.b.natAbs ≤ M) : Rp r x.c M x := ⟨x.a, x.b, rfl, h1, h2⟩
theorem fr_scale {A B C k : Int} (hC : C ≠ 0) (hk : k ≠ 0) : fr r A B C = fr r (A * k) (B * k) (C * k) := by
  have n1 := icast_ne hC
  have n2 := icast_ne hk
  refine F.ext ?_ ?_
  · show (A : Rat) / (C : Rat) = ((A * k : Int) : Rat) / ((C * k : Int) : Rat)
    simp only [Rat.intCast_mul]
    grind
  · show (B : Rat) / (C : Rat) = ((B * k : Int) : Rat) / ((C * k : Int) : Rat)
    simp only [Rat.intCast_mul]
    grind
theorem Rp.scale {C k : Int} {M K : Nat} {x : N3} (h : Rp r C M x) (hC : C ≠ 0) (hk : 0 < k) (hK : k.natAbs ≤ K) : Rp r (C * k) (M * K) x := by
  obtain ⟨A, B, e, hA, hB⟩ := h
  refine ⟨A * k, B * k, by rw [e]; exact fr_scale hC (by omega), ?_, ?_⟩
  · rw [Int.natAbs_mul]
    exact Nat.mul_le_mul hA hK
  · rw [Int.natAbs_mul]
    exact Nat.mul_le_mul hB hK
theorem Rp.plus {C : Int} {M N : Nat} {x y : N3} (h : Rp r C M x) (h' : Rp r C N y) (hC : C ≠ 0) (hx : x.c ≠ 0) (hy : y.c ≠ 0) : Rp r C (M + N) (plusN x y) := by
  obtain ⟨A, B, e, hA, hB⟩ := h
  obtain ⟨A', B', e', hA', hB'⟩ := h'
  have n1 := icast_ne hC
  refine ⟨A + A', B + B', ?_, by omega, by omega⟩
  rw [plus_val hx hy, e, e']
  refine F.ext ?_ ?_
  · show (A : Rat) / (C : Rat) + (A' : Rat) / (C : Rat) = ((A + A' : Int) : Rat) / (C : Rat)
    rw [Rat.intCast_add]
    grind
  · show (B : Rat) / (C : Rat) + (B' : Rat) / (C : Rat) = ((B + B' : Int) : Rat) / (C : Rat)
    rw [Rat.intCast_add]
    grind
theorem Rp.neg {C : Int} {M : Nat} {x : N3} (h : Rp r C M x) (hC : C ≠ 0) (hx : x.c ≠ 0) : Rp r C M (negN x) := by
  obtain ⟨A, B, e, hA, hB⟩ := h
  have n1 := icast_ne hC
  refine ⟨-A, -B, ?_, by omega, by omega⟩
  rw [neg_val hx, e]
  refine F.ext ?_ ?_
  · show -((A : Rat) / (C : Rat)) = ((-A : Int) : Rat) / (C : Rat)
    rw [Rat.intCast_neg]
    grind
  · show -((B : Rat) / (C : Rat)) = ((-B : Int) : Rat) / (C : Rat)
    rw [Rat.intCast_neg]
    grind
theorem Rp.mate {C : Int} {M : Nat} {x : N3} (h : Rp r C M x) (hC : C ≠ 0) (hx : x.c ≠ 0) : Rp r C M (mateN x) := by
  obtain ⟨A, B, e, hA, hB⟩ := h
  have n1 := icast_ne hC
  refine ⟨A, -B, ?_, by omega, by omega⟩
  rw [mate_val hx, e]
  refine F.ext rfl ?_
  show -((B : Rat) / (C : Rat)) = ((-B : Int) : Rat) / (C : Rat)
  rw [Rat.intCast_neg]
  grind
theorem Rp.times {C D : Int} {M N : Nat} {x y : N3} (h : Rp r C M x) (h' : Rp r D N y) (hd : r.d ≤ 30) (hC : C ≠ 0) (hD : D ≠ 0) (hx : x.c ≠ 0) (hy : y.c ≠ 0) : Rp r (C * D) (31 * (M * N)) (timesN r.d x y) := by
  obtain ⟨A, B, e, hA, hB⟩ := h
  obtain ⟨A', B', e', hA', hB'⟩ := h'
  have n1 := icast_ne hC
  have n2 := icast_ne hD
  have hp := r.pos
  have b1 : (A * A').natAbs ≤ M * N := by rw [Int.natAbs_mul]; exact Nat.mul_le_mul hA hA'
  have b2 : (B * B').natAbs ≤ M * N := by rw [Int.natAbs_mul]; exact Nat.mul_le_mul hB hB'
  have b3 : (A * B').natAbs ≤ M * N := by rw [Int.natAbs_mul]; exact Nat.mul_le_mul hA hB'
  have b4 : (B * A').natAbs ≤ M * N := by rw [Int.natAbs_mul]; exact Nat.mul_le_mul hB hA'
  have b5 : (r.d * (B * B')).natAbs ≤ 30 * (M * N) := by rw [Int.natAbs_mul]; exact Nat.mul_le_mul (by omega) b2
  refine ⟨A * A' + r.d * (B * B'), A * B' + B * A', ?_, by omega, by omega⟩
  rw [times_val hx hy, e, e']
  refine F.ext ?_ ?_
  · show (A : Rat) / (C : Rat) * ((A' : Rat) / (D : Rat)) + (r.d : Rat) * ((B : Rat) / (C : Rat) * ((B' : Rat) / (D : Rat))) = ((A * A' + r.d * (B * B') : Int) : Rat) / ((C * D : Int) : Rat)
    simp only [Rat.intCast_add, Rat.intCast_mul]
    grind
  · show (A : Rat) / (C : Rat) * ((B' : Rat) / (D : Rat)) + (B : Rat) / (C : Rat) * ((A' : Rat) / (D : Rat)) = ((A * B' + B * A' : Int) : Rat) / ((C * D : Int) : Rat)
    simp only [Rat.intCast_add, Rat.intCast_mul]
    grind
end Mf
namespace Mf
variable {r : Rt}
/-! ### tiles, valuations -/
structure T4 where
  x : N3
  y : N3
  w : N3
  h : N3
deriving DecidableEq
def T4.nm (t : T4) : Prop := Nm t.x ∧ Nm t.y ∧ Nm t.w ∧ Nm t.h
section
variable {R : Type} [Lean.Grind.CommRing R]
def sumL {α : Type} (φ : α → R) : List α → R
  | [] => 0
  | t :: l => φ t + sumL φ l
theorem sumL_app {α : Type} (φ : α → R) : ∀ l m : List α, sumL φ (l ++ m) = sumL φ l + sumL φ m
  | [], m => by
    show sumL φ m = 0 + sumL φ m
    grind
  | t :: l, m => by
    show φ t + sumL φ (l ++ m) = φ t + sumL φ l + sumL φ m
    rw [sumL_app φ l m]
    grind
theorem sumL_perm {α : Type} (φ : α → R) {l m : List α} (h : l.Perm m) : sumL φ l = sumL φ m := by
  induction h with
  | nil => rfl
  | cons x _ ih =>
    show φ x + _ = φ x + _
    rw [ih]
  | swap x y l =>
    show φ y + (φ x + sumL φ l) = φ x + (φ y + sumL φ l)
    grind
  | trans _ _ ih1 ih2 => rw [ih1, ih2]
theorem sumL_congr {α : Type} {φ ψ : α → R} : ∀ {l : List α}, (∀ t ∈ l, φ t = ψ t) → sumL φ l = sumL ψ l
  | [], _ => rfl
  | t :: l, h => by
    show φ t + sumL φ l = ψ t + sumL ψ l
    rw [h t (List.mem_cons_self ..), sumL_congr fun s hs => h s (List.mem_cons_of_mem _ hs)]
theorem sumL_add {α : Type} (φ ψ : α → R) : ∀ l : List α, sumL (fun t => φ t + ψ t) l = sumL φ l + sumL ψ l
  | [] => by
    show (0 : R) = 0 + 0
    grind
  | t :: l => by
    show φ t + ψ t + sumL (fun t => φ t + ψ t) l = φ t + sumL φ l + (ψ t + sumL ψ l)
    rw [sumL_add φ ψ l]
    grind
theorem sumL_mulR {α : Type} (φ : α → R) (k : R) : ∀ l : List α, sumL (fun t => φ t * k) l = sumL φ l * k
  | [] => by
    show (0 : R) = 0 * k
    grind
  | t :: l => by
    show φ t * k + sumL (fun t => φ t * k) l = (φ t + sumL φ l) * k
    rw [sumL_mulR φ k l]
    grind
theorem sumL_mulL {α : Type} (φ : α → R) (k : R) : ∀ l : List α, sumL (fun t => k * φ t) l = k * sumL φ l
  | [] => by
    show (0 : R) = k * 0
    grind
  | t :: l => by
    show k * φ t + sumL (fun t => k * φ t) l = k * (φ t + sumL φ l)
    rw [sumL_mulL φ k l]
    grind
theorem sumL_map {α β : Type} (φ : β → R) (g : α → β) : ∀ l : List α, sumL φ (l.map g) = sumL (fun t => φ (g t)) l
  | [] => rfl
  | t :: l => by
    show φ (g t) + sumL φ (l.map g) = φ (g t) + sumL (fun t => φ (g t)) l
    rw [sumL_map φ g l]
theorem sumL_flat {α β : Type} (φ : β → R) (g : α → List β) : ∀ l : List α, sumL φ (l.flatMap g) = sumL (fun t => sumL φ (g t)) l
  | [] => rfl
  | t :: l => by
    rw [List.flatMap_cons, sumL_app, sumL_flat φ g l]
    rfl
/-- what is added up along a side -/
def Val1 (f : F r → F r → R) : Prop := ∀ x w u : F r, 0 ≤ u → u ≤ w → f x w = f x u + f (x + u) (w - u)
theorem Val1.nought {f : F r → F r → R} (h : Val1 f) (x : F r) : f x 0 = 0 := by
  have e := h x 0 0 (by grind) (by grind)
  rw [show x + (0 : F r) = x by grind, show (0 : F r) - 0 = 0 by grind] at e
  grind
theorem Val1.many {f : F r → F r → R} (h : Val1 f) {a : F r} (ha : 0 ≤ a) (x : F r) : ∀ n : Nat, f x (a * (n : F r)) = sumL (fun i : Nat => f (x + a * (i : F r)) a) (List.range n)
  | 0 => by
    show f x (a * ((0 : Nat) : F r)) = 0
    rw [show a * ((0 : Nat) : F r) = 0 by
      have : ((0 : Nat) : F r) = 0 := rfl
      rw [this]
      grind]
    exact h.nought x
  | n + 1 => by
    have e1 : ((n + 1 : Nat) : F r) = (n : F r) + 1 := Lean.Grind.Semiring.natCast_succ n
    have hn : (0 : F r) ≤ a * (n : F r) := by
      have : (0 : F r) ≤ (n : F r) := by
        have := Lean.Grind.OrderedRing.ofNat_nonneg (R := F r) n
        exact this
      by_cases z : a = 0
      · rw [z]
        grind
      · by_cases z2 : (n : F r) = 0
        · rw [z2]
          grind
        · have := fmul_pos (show 0 < a by grind) (show 0 < (n : F r) by grind)
          grind
    rw [h x (a * ((n + 1 : Nat) : F r)) (a * (n : F r)) hn (by rw [e1]; grind), h.many ha x n, List.range_succ, sumL_app]
    show _ + f (x + a * (n : F r)) (a * ((n + 1 : Nat) : F r) - a * (n : F r)) = _ + (f (x + a * (n : F r)) a + 0)
    rw [e1, show a * ((n : F r) + 1) - a * (n : F r) = a by grind]
    grind
end
def T4.X (r : Rt) (t : T4) : F r := val r t.x
def T4.Y (r : Rt) (t : T4) : F r := val r t.y
def T4.W (r : Rt) (t : T4) : F r := val r t.w
def T4.H (r : Rt) (t : T4) : F r := val r t.h
def fg {R : Type} [Lean.Grind.CommRing R] (f g : F r → F r → R) (t : T4) : R := f (t.X r) (t.W r) * g (t.Y r) (t.H r)
def RpT (r : Rt) (C : Int) (m : Nat) (D : Int) (n : Nat) (t : T4) : Prop := Rp r C (2 ^ m) t.x ∧ Rp r C (2 ^ m) t.w ∧ Rp r D (2 ^ n) t.y ∧ Rp r D (2 ^ n) t.h
def subN (x y : N3) : N3 := plusN x (negN y)
theorem sub_nm {x y : N3} (hx : Nm x) (hy : Nm y) : Nm (subN x y) := plus_nm hx.ne hy.ne
theorem sub_val {x y : N3} (hx : Nm x) (hy : Nm y) : val r (subN x y) = val r x - val r y := by
  show val r (plusN x (negN y)) = _
  rw [plus_val hx.ne (show (negN y).c ≠ 0 from hy.ne), neg_val hy.ne]
  grind
/-- a tile cut: what the parts are -/
structure CutOk (r : Rt) (T : T4) (L : List T4) : Prop where
  nm : ∀ t ∈ L, t.nm
  inn : ∀ t ∈ L, T.X r ≤ t.X r ∧ t.X r + t.W r ≤ T.X r + T.W r ∧ 0 < t.W r ∧ T.Y r ≤ t.Y r ∧ t.Y r + t.H r ≤ T.Y r + T.H r ∧ 0 < t.H r
  vI : ∀ f g : F r → F r → Int, Val1 f → Val1 g → sumL (fg f g) L = fg f g T
  vF : ∀ f g : F r → F r → F r, Val1 f → Val1 g → sumL (fg f g) L = fg f g T
  rp : ∀ (C : Int) (m : Nat) (D : Int) (n : Nat), 0 < C → 0 < D → RpT r C m D n T → ∃ k l : Int, 0 < k ∧ k ≤ 2 ^ 18 ∧ 0 < l ∧ l ≤ 2 ^ 18 ∧ ∀ t ∈ L, RpT r (C * k) (m + 24) (D * l) (n + 24) t
  len : 1 ≤ L.length ∧ L.length ≤ 9
/-- a part of one -/
structure Btw (r : Rt) (z : N3) : Prop where
  nm : Nm z
  pos : 0 < val r z
  lt1 : val r z < 1
  a : z.a.natAbs ≤ 2 ^ 6
  b : z.b.natAbs ≤ 2 ^ 6
  c : z.c ≤ 2 ^ 9
/-- a side and two parts of it -/
structure Part (r : Rt) (w w2 w1 : N3) : Prop where
  n : Nm w
  n2 : Nm w2
  n1 : Nm w1
  p1 : 0 < val r w1
  l1 : val r w1 < val r w2
  l2 : val r w2 < val r w
  rp : ∀ (C : Int) (m : Nat), 0 < C → Rp r C (2 ^ m) w → ∃ k : Int, 0 < k ∧ k ≤ 2 ^ 18 ∧ Rp r (C * k) (2 ^ (m + 23)) w2 ∧ Rp r (C * k) (2 ^ (m + 23)) w1
theorem pow_le {a b : Nat} (h : a ≤ b) : 2 ^ a ≤ 2 ^ b := Nat.pow_le_pow_right (by decide) h
theorem part_of {w z2 z1 : N3} (hd : r.d ≤ 30) (n : Nm w) (hw : 0 < val r w) (h2 : Btw r z2) (h1 : Btw r z1) : Part r w (timesN r.d w z2) (timesN r.d (timesN r.d w z2) z1) := by
  have n2 : Nm (timesN r.d w z2) := times_nm n.ne h2.nm.ne
  have n1 : Nm (timesN r.d (timesN r.d w z2) z1) := times_nm n2.ne h1.nm.ne
  have v2 : val r (timesN r.d w z2) = val r w * val r z2 := times_val n.ne h2.nm.ne
  have v1 : val r (timesN r.d (timesN r.d w z2) z1) = val r w * val r z2 * val r z1 := by rw [times_val n2.ne h1.nm.ne, v2]
  have p2 : 0 < val r w * val r z2 := fmul_pos hw h2.pos
  have p1 : 0 < val r w * val r z2 * val r z1 := fmul_pos p2 h1.pos
  have l2 : 0 < val r w * (1 - val r z2) := fmul_pos hw (by have := h2.lt1; grind)
  have l1 : 0 < val r w * val r z2 * (1 - val r z1) := fmul_pos p2 (by have := h1.lt1; grind)
  refine ⟨n, n2, n1, by rw [v1]; exact p1, by rw [v1, v2]; grind, by rw [v2]; grind, fun C m hC hR => ?_⟩
  have c2 := h2.nm.1
  have c1 := h1.nm.1
  have q2 := Rp.times hR (Rp.self (r := r) h2.a h2.b) hd (by omega) (by omega) n.ne h2.nm.ne
  have hC2 : 0 < C * z2.c := Int.mul_pos hC c2
  have q1 := Rp.times q2 (Rp.self (r := r) h1.a h1.b) hd (by omega) (by omega) n2.ne h1.nm.ne
  have q2' := q2.scale (k := z1.c) (K := 2 ^ 9) (by omega) c1 (by have := h1.c; omega)
  have e : C * z2.c * z1.c = C * (z2.c * z1.c) := Int.mul_assoc _ _ _
  rw [e] at q1 q2'
  refine ⟨z2.c * z1.c, Int.mul_pos c2 c1, ?_, q2'.mono ?_, q1.mono ?_⟩
  · have := Int.mul_le_mul h2.c h1.c (by omega) (by decide)
    exact this
  · have e2 : 2 ^ (m + 23) = 2 ^ m * 2 ^ 23 := Nat.pow_add ..
    rw [e2]
    have : (31 * (2 ^ m * 2 ^ 6) * 2 ^ 9 : Nat) = 2 ^ m * (31 * 2 ^ 6 * 2 ^ 9) := by
      generalize (2 ^ m : Nat) = z
      omega
    rw [this]
    exact Nat.mul_le_mul_left _ (by decide)
  · have e2 : 2 ^ (m + 23) = 2 ^ m * 2 ^ 23 := Nat.pow_add ..
    rw [e2]
    have : (31 * (31 * (2 ^ m * 2 ^ 6) * 2 ^ 6) : Nat) = 2 ^ m * (31 * 2 ^ 6 * (31 * 2 ^ 6)) := by
      generalize (2 ^ m : Nat) = z
      omega
    rw [this]
    exact Nat.mul_le_mul_left _ (by decide)
end Mf
namespace Mf
variable {r : Rt}
def cut0 (t : T4) (w2 : N3) : List T4 := [⟨t.x, t.y, w2, t.h⟩, ⟨plusN t.x w2, t.y, subN t.w w2, t.h⟩]
def cut1 (t : T4) (h2 : N3) : List T4 := [⟨t.x, t.y, t.w, h2⟩, ⟨t.x, plusN t.y h2, t.w, subN t.h h2⟩]
def cut4 (t : T4) (w2 h2 : N3) : List T4 := [⟨t.x, t.y, w2, h2⟩, ⟨plusN t.x w2, t.y, subN t.w w2, h2⟩, ⟨t.x, plusN t.y h2, w2, subN t.h h2⟩, ⟨plusN t.x w2, plusN t.y h2, subN t.w w2, subN t.h h2⟩]
def cut2 (t : T4) (w2 h2 w1 h1 : N3) : List T4 := [⟨t.x, t.y, w2, h1⟩, ⟨plusN t.x w2, t.y, subN t.w w2, h2⟩, ⟨plusN t.x w1, plusN t.y h2, subN t.w w1, subN t.h h2⟩, ⟨t.x, plusN t.y h1, w1, subN t.h h1⟩,
  ⟨plusN t.x w1, plusN t.y h1, subN w2 w1, subN h2 h1⟩]
def cut3 (d : Int) (t : T4) (u v : Nat) : List T4 := (List.range v).flatMap fun (row : Nat) => (List.range u).map fun (one : Nat) =>
  ⟨plusN t.x (timesN d (timesN d t.w ⟨1, 0, u⟩) ⟨one, 0, 1⟩), plusN t.y (timesN d (timesN d t.h ⟨1, 0, v⟩) ⟨row, 0, 1⟩), timesN d t.w ⟨1, 0, u⟩, timesN d t.h ⟨1, 0, v⟩⟩
theorem ax_rp {x w w2 w1 : N3} (P : Part r w w2 w1) (hx : Nm x) {C : Int} {m : Nat} (hC : 0 < C) (h1 : Rp r C (2 ^ m) x) (h2 : Rp r C (2 ^ m) w) :
    ∃ k : Int, 0 < k ∧ k ≤ 2 ^ 18 ∧ ∀ z ∈ [x, w, w2, w1, plusN x w2, plusN x w1, subN w w2, subN w w1, subN w2 w1], Rp r (C * k) (2 ^ (m + 24)) z := by
  obtain ⟨k, k0, k1, r2, r1⟩ := P.rp C m hC h2
  have kK : k.natAbs ≤ 2 ^ 18 := by omega
  have nC : C * k ≠ 0 := by
    have := Int.mul_pos hC k0
    omega
  have e23 : 2 ^ (m + 23) + 2 ^ (m + 23) = 2 ^ (m + 24) := by
    have : 2 ^ (m + 24) = 2 ^ (m + 23) * 2 := Nat.pow_succ ..
    rw [this]
    generalize 2 ^ (m + 23) = z
    omega
  have l18 : 2 ^ m * 2 ^ 18 ≤ 2 ^ (m + 23) := by
    rw [← Nat.pow_add]
    exact pow_le (by omega)
  have sx := (h1.scale (by omega) k0 kK).mono l18
  have sw := (h2.scale (by omega) k0 kK).mono l18
  have up : ∀ {z : N3}, Rp r (C * k) (2 ^ (m + 23)) z → Rp r (C * k) (2 ^ (m + 24)) z := fun h => h.mono (pow_le (by omega))
  have ad : ∀ {y z : N3}, Nm y → Nm z → Rp r (C * k) (2 ^ (m + 23)) y → Rp r (C * k) (2 ^ (m + 23)) z → Rp r (C * k) (2 ^ (m + 24)) (plusN y z) := fun ny nz hy hz => by
    have := hy.plus hz nC ny.ne nz.ne
    rw [e23] at this
    exact this
  refine ⟨k, k0, k1, fun z hz => ?_⟩
  simp only [List.mem_cons, List.not_mem_nil, or_false] at hz
  rcases hz with rfl | rfl | rfl | rfl | rfl | rfl | rfl | rfl | rfl
  · exact up sx
  · exact up sw
  · exact up r2
  · exact up r1
  · exact ad hx P.n2 sx r2
  · exact ad hx P.n1 sx r1
  · exact ad P.n (neg_nm P.n2) sw (r2.neg nC P.n2.ne)
  · exact ad P.n (neg_nm P.n1) sw (r1.neg nC P.n1.ne)
  · exact ad P.n2 (neg_nm P.n1) r2 (r1.neg nC P.n1.ne)
/-- the values of an axis' numbers -/
structure AxV (r : Rt) (x w w2 w1 : N3) : Prop where
  n2 : Nm (plusN x w2)
  n1 : Nm (plusN x w1)
  m2 : Nm (subN w w2)
  m1 : Nm (subN w w1)
  m3 : Nm (subN w2 w1)
  x2 : val r (plusN x w2) = val r x + val r w2
  x1 : val r (plusN x w1) = val r x + val r w1
  r2 : val r (subN w w2) = val r w - val r w2
  r1 : val r (subN w w1) = val r w - val r w1
  r3 : val r (subN w2 w1) = val r w2 - val r w1
theorem ax_val {x w w2 w1 : N3} (P : Part r w w2 w1) (hx : Nm x) : AxV r x w w2 w1 :=
  ⟨plus_nm hx.ne P.n2.ne, plus_nm hx.ne P.n1.ne, sub_nm P.n P.n2, sub_nm P.n P.n1, sub_nm P.n2 P.n1, plus_val hx.ne P.n2.ne, plus_val hx.ne P.n1.ne, sub_val P.n P.n2, sub_val P.n P.n1, sub_val P.n2 P.n1⟩
section
variable {R : Type} [Lean.Grind.CommRing R] {f g : F r → F r → R} {t : T4} {w2 w1 h2 h1 : N3}
theorem Val1.three (hf : Val1 f) {x w u v : F r} (h0 : 0 < v) (h1 : v < u) (h2 : u < w) : f x w = f x v + f (x + v) (u - v) + f (x + u) (w - u) ∧ f x u = f x v + f (x + v) (u - v) ∧ f (x + v) (w - v) = f (x + v) (u - v) + f (x + u) (w - u) := by
  have e1 := hf x w u (by grind) (by grind)
  have e2 := hf x u v (by grind) (by grind)
  have e3 := hf (x + v) (w - v) (u - v) (by grind) (by grind)
  rw [show x + v + (u - v) = x + u by grind, show w - v - (u - v) = w - u by grind] at e3
  exact ⟨by rw [e1, e2], e2, e3⟩
theorem cut0_sum (hf : Val1 f) (P : Part r t.w w2 w1) (hx : Nm t.x) : sumL (fg f g) (cut0 t w2) = fg f g t := by
  have a := ax_val P hx
  have l1 := P.l1
  have l2 := P.l2
  have p1 := P.p1
  simp only [cut0, sumL, fg, T4.X, T4.Y, T4.W, T4.H, a.x2, a.r2]
  rw [hf (val r t.x) (val r t.w) (val r w2) (by grind) (by grind)]
  grind
theorem cut1_sum (hg : Val1 g) (P : Part r t.h h2 h1) (hy : Nm t.y) : sumL (fg f g) (cut1 t h2) = fg f g t := by
  have a := ax_val P hy
  have l1 := P.l1
  have l2 := P.l2
  have p1 := P.p1
  simp only [cut1, sumL, fg, T4.X, T4.Y, T4.W, T4.H, a.x2, a.r2]
  rw [hg (val r t.y) (val r t.h) (val r h2) (by grind) (by grind)]
  grind
theorem cut4_sum (hf : Val1 f) (hg : Val1 g) (P : Part r t.w w2 w1) (hx : Nm t.x) (Q : Part r t.h h2 h1) (hy : Nm t.y) : sumL (fg f g) (cut4 t w2 h2) = fg f g t := by
  have a := ax_val P hx
  have b := ax_val Q hy
  have l1 := P.l1
  have l2 := P.l2
  have p1 := P.p1
  have k1 := Q.l1
  have k2 := Q.l2
  have q1 := Q.p1
  simp only [cut4, sumL, fg, T4.X, T4.Y, T4.W, T4.H, a.x2, a.r2, b.x2, b.r2]
  rw [hf (val r t.x) (val r t.w) (val r w2) (by grind) (by grind), hg (val r t.y) (val r t.h) (val r h2) (by grind) (by grind)]
  grind
theorem cut2_sum (hf : Val1 f) (hg : Val1 g) (P : Part r t.w w2 w1) (hx : Nm t.x) (Q : Part r t.h h2 h1) (hy : Nm t.y) : sumL (fg f g) (cut2 t w2 h2 w1 h1) = fg f g t := by
  have a := ax_val P hx
  have b := ax_val Q hy
  obtain ⟨f1, f2, f3⟩ := hf.three (x := val r t.x) P.p1 P.l1 P.l2
  obtain ⟨g1, g2, g3⟩ := hg.three (x := val r t.y) Q.p1 Q.l1 Q.l2
  simp only [cut2, sumL, fg, T4.X, T4.Y, T4.W, T4.H, a.x2, a.r2, a.x1, a.r1, a.r3, b.x2, b.r2, b.x1, b.r1, b.r3]
  rw [f1, f2, f3, g1, g2, g3]
  generalize f (val r t.x) (val r w1) = A1
  generalize f (val r t.x + val r w1) (val r w2 - val r w1) = A2
  generalize f (val r t.x + val r w2) (val r t.w - val r w2) = A3
  generalize g (val r t.y) (val r h1) = B1
  generalize g (val r t.y + val r h1) (val r h2 - val r h1) = B2
  generalize g (val r t.y + val r h2) (val r t.h - val r h2) = B3
  grind
end
theorem cut0_ok {t : T4} {w2 w1 : N3} (T : t.nm) (hh : 0 < t.H r) (P : Part r t.w w2 w1) : CutOk r t (cut0 t w2) := by
  have a := ax_val P T.1
  have l1 := P.l1
  have l2 := P.l2
  have p1 := P.p1
  refine ⟨fun s hs => ?_, fun s hs => ?_, fun f g hf hg => cut0_sum hf P T.1, fun f g hf hg => cut0_sum hf P T.1, fun C m D n hC hD hR => ?_, by simp [cut0]⟩
  · simp only [cut0, List.mem_cons, List.not_mem_nil, or_false] at hs
    rcases hs with rfl | rfl
    · exact ⟨T.1, T.2.1, P.n2, T.2.2.2⟩
    · exact ⟨a.n2, T.2.1, a.m2, T.2.2.2⟩
  · simp only [cut0, List.mem_cons, List.not_mem_nil, or_false] at hs
    unfold T4.H at hh
    rcases hs with rfl | rfl <;> simp only [T4.X, T4.Y, T4.W, T4.H, a.x2, a.r2] <;> grind
  · obtain ⟨k, k0, k1, q⟩ := ax_rp P T.1 hC hR.1 hR.2.1
    refine ⟨k, 1, k0, k1, by decide, by decide, fun s hs => ?_⟩
    have u : ∀ {z : N3}, Rp r D (2 ^ n) z → Rp r (D * 1) (2 ^ (n + 24)) z := fun h => by
      rw [Int.mul_one]
      exact h.mono (pow_le (by omega))
    simp only [cut0, List.mem_cons, List.not_mem_nil, or_false] at hs
    rcases hs with rfl | rfl
    · exact ⟨q _ (by simp), q _ (by simp), u hR.2.2.1, u hR.2.2.2⟩
    · exact ⟨q _ (by simp), q _ (by simp), u hR.2.2.1, u hR.2.2.2⟩
theorem cut1_ok {t : T4} {h2 h1 : N3} (T : t.nm) (hw : 0 < t.W r) (P : Part r t.h h2 h1) : CutOk r t (cut1 t h2) := by
  have a := ax_val P T.2.1
  have l1 := P.l1
  have l2 := P.l2
  have p1 := P.p1
  refine ⟨fun s hs => ?_, fun s hs => ?_, fun f g hf hg => cut1_sum hg P T.2.1, fun f g hf hg => cut1_sum hg P T.2.1, fun C m D n hC hD hR => ?_, by simp [cut1]⟩
  · simp only [cut1, List.mem_cons, List.not_mem_nil, or_false] at hs
    rcases hs with rfl | rfl
    · exact ⟨T.1, T.2.1, T.2.2.1, P.n2⟩
    · exact ⟨T.1, a.n2, T.2.2.1, a.m2⟩
  · simp only [cut1, List.mem_cons, List.not_mem_nil, or_false] at hs
    unfold T4.W at hw
    rcases hs with rfl | rfl <;> simp only [T4.X, T4.Y, T4.W, T4.H, a.x2, a.r2] <;> grind
  · obtain ⟨k, k0, k1, q⟩ := ax_rp P T.2.1 hD hR.2.2.1 hR.2.2.2
    refine ⟨1, k, by decide, by decide, k0, k1, fun s hs => ?_⟩
    have u : ∀ {z : N3}, Rp r C (2 ^ m) z → Rp r (C * 1) (2 ^ (m + 24)) z := fun h => by
      rw [Int.mul_one]
      exact h.mono (pow_le (by omega))
    simp only [cut1, List.mem_cons, List.not_mem_nil, or_false] at hs
    rcases hs with rfl | rfl
    · exact ⟨u hR.1, u hR.2.1, q _ (by simp), q _ (by simp)⟩
    · exact ⟨u hR.1, u hR.2.1, q _ (by simp), q _ (by simp)⟩
theorem cut4_ok {t : T4} {w2 w1 h2 h1 : N3} (T : t.nm) (P : Part r t.w w2 w1) (Q : Part r t.h h2 h1) : CutOk r t (cut4 t w2 h2) := by
  have a := ax_val P T.1
  have b := ax_val Q T.2.1
  have l1 := P.l1
  have l2 := P.l2
  have p1 := P.p1
  have k1 := Q.l1
  have k2 := Q.l2
  have q1 := Q.p1
  refine ⟨fun s hs => ?_, fun s hs => ?_, fun f g hf hg => cut4_sum hf hg P T.1 Q T.2.1, fun f g hf hg => cut4_sum hf hg P T.1 Q T.2.1, fun C m D n hC hD hR => ?_, by simp [cut4]⟩
  · simp only [cut4, List.mem_cons, List.not_mem_nil, or_false] at hs
    rcases hs with rfl | rfl | rfl | rfl
    · exact ⟨T.1, T.2.1, P.n2, Q.n2⟩
    · exact ⟨a.n2, T.2.1, a.m2, Q.n2⟩
    · exact ⟨T.1, b.n2, P.n2, b.m2⟩
    · exact ⟨a.n2, b.n2, a.m2, b.m2⟩
  · simp only [cut4, List.mem_cons, List.not_mem_nil, or_false] at hs
    rcases hs with rfl | rfl | rfl | rfl <;> simp only [T4.X, T4.Y, T4.W, T4.H, a.x2, a.r2, b.x2, b.r2] <;> grind
  · obtain ⟨k, k0, k1, q⟩ := ax_rp P T.1 hC hR.1 hR.2.1
    obtain ⟨l, l0, l1, q'⟩ := ax_rp Q T.2.1 hD hR.2.2.1 hR.2.2.2
    refine ⟨k, l, k0, k1, l0, l1, fun s hs => ?_⟩
    simp only [cut4, List.mem_cons, List.not_mem_nil, or_false] at hs
    rcases hs with rfl | rfl | rfl | rfl <;> exact ⟨q _ (by simp), q _ (by simp), q' _ (by simp), q' _ (by simp)⟩
theorem cut2_ok {t : T4} {w2 w1 h2 h1 : N3} (T : t.nm) (P : Part r t.w w2 w1) (Q : Part r t.h h2 h1) : CutOk r t (cut2 t w2 h2 w1 h1) := by
  have a := ax_val P T.1
  have b := ax_val Q T.2.1
  have l1 := P.l1
  have l2 := P.l2
  have p1 := P.p1
  have k1 := Q.l1
  have k2 := Q.l2
  have q1 := Q.p1
  refine ⟨fun s hs => ?_, fun s hs => ?_, fun f g hf hg => cut2_sum hf hg P T.1 Q T.2.1, fun f g hf hg => cut2_sum hf hg P T.1 Q T.2.1, fun C m D n hC hD hR => ?_, by simp [cut2]⟩
  · simp only [cut2, List.mem_cons, List.not_mem_nil, or_false] at hs
    rcases hs with rfl | rfl | rfl | rfl | rfl
    · exact ⟨T.1, T.2.1, P.n2, Q.n1⟩
    · exact ⟨a.n2, T.2.1, a.m2, Q.n2⟩
    · exact ⟨a.n1, b.n2, a.m1, b.m2⟩
    · exact ⟨T.1, b.n1, P.n1, b.m1⟩
    · exact ⟨a.n1, b.n1, a.m3, b.m3⟩
  · simp only [cut2, List.mem_cons, List.not_mem_nil, or_false] at hs
    rcases hs with rfl | rfl | rfl | rfl | rfl <;> simp only [T4.X, T4.Y, T4.W, T4.H, a.x2, a.r2, b.x2, b.r2, a.x1, a.r1, a.r3, b.x1, b.r1, b.r3] <;> grind
  · obtain ⟨k, k0, k1, q⟩ := ax_rp P T.1 hC hR.1 hR.2.1
    obtain ⟨l, l0, l1, q'⟩ := ax_rp Q T.2.1 hD hR.2.2.1 hR.2.2.2
    refine ⟨k, l, k0, k1, l0, l1, fun s hs => ?_⟩
    simp only [cut2, List.mem_cons, List.not_mem_nil, or_false] at hs
    rcases hs with rfl | rfl | rfl | rfl | rfl <;> exact ⟨q _ (by simp), q _ (by simp), q' _ (by simp), q' _ (by simp)⟩
end Mf
namespace Mf
variable {r : Rt}
/-! ### the grid -/
theorem nm_one {u : Nat} (hu : 0 < u) : Nm ⟨1, 0, (u : Int)⟩ := by
  refine ⟨by show (0 : Int) < (u : Int); omega, ?_⟩
  show g3 1 0 (u : Int) = 1
  rw [g3_nat]
  simp
theorem nm_nat (i : Nat) : Nm ⟨(i : Int), 0, 1⟩ := by
  refine ⟨by show (0 : Int) < 1; decide, ?_⟩
  show g3 (i : Int) 0 1 = 1
  rw [g3_nat]
  simp
theorem fcast_mul (a : Rat) (i : Nat) (x : F r) : True := trivial
theorem val_nat (i : Nat) : val r ⟨(i : Int), 0, 1⟩ = (i : F r) := by
  refine F.ext ?_ ?_
  · show (((i : Int)) : Rat) / ((1 : Int) : Rat) = ((i : Nat) : Rat)
    show ((i : Nat) : Rat) / 1 = ((i : Nat) : Rat)
    grind
  · show ((0 : Int) : Rat) / ((1 : Int) : Rat) = 0
    show (0 : Rat) / 1 = 0
    grind
theorem val_inv {u : Nat} (hu : 0 < u) : val r ⟨1, 0, (u : Int)⟩ * (u : F r) = 1 := by
  have n1 : ((u : Nat) : Rat) ≠ 0 := icast_ne (show (u : Int) ≠ 0 by omega)
  have key : ∀ z k : Rat, z ≠ 0 → (1 : Rat) / z * z + k * ((0 : Rat) / z * 0) = 1 ∧ (1 : Rat) / z * 0 + (0 : Rat) / z * z = 0 := fun z k h => ⟨by grind, by grind⟩
  exact F.ext (key ((u : Nat) : Rat) r.k n1).1 (key ((u : Nat) : Rat) r.k n1).2
theorem fnat_nn (i : Nat) : (0 : F r) ≤ (i : F r) := by
  have := Lean.Grind.OrderedRing.ofNat_nonneg (R := F r) i
  exact this
theorem fnat_pos {i : Nat} (h : 0 < i) : (0 : F r) < (i : F r) := by
  obtain ⟨j, rfl⟩ : ∃ j, i = j + 1 := ⟨i - 1, by omega⟩
  have e1 : ((j + 1 : Nat) : F r) = (j : F r) + 1 := Lean.Grind.Semiring.natCast_succ j
  rw [e1]
  have := fnat_nn (r := r) j
  have := Lean.Grind.OrderedRing.zero_lt_one (R := F r)
  grind
theorem inv_pos {u : Nat} (hu : 0 < u) : 0 < val r ⟨1, 0, (u : Int)⟩ := by
  rw [pos_val (show (0 : Int) < (u : Int) by omega)]
  refine .inl ⟨?_, ?_⟩
  · show r.d * (0 * 0) < 1 * 1
    omega
  · show (0 : Int) < 1
    decide
/-- an axis of the grid -/
structure Gx (r : Rt) (x w : N3) (u : Nat) : Prop where
  nw : Nm (timesN r.d w ⟨1, 0, u⟩)
  wp : 0 < val r (timesN r.d w ⟨1, 0, u⟩)
  wv : val r (timesN r.d w ⟨1, 0, u⟩) * (u : F r) = val r w
  nx : ∀ i : Nat, Nm (plusN x (timesN r.d (timesN r.d w ⟨1, 0, u⟩) ⟨i, 0, 1⟩))
  xv : ∀ i : Nat, val r (plusN x (timesN r.d (timesN r.d w ⟨1, 0, u⟩) ⟨i, 0, 1⟩)) = val r x + val r (timesN r.d w ⟨1, 0, u⟩) * (i : F r)
  nm : ∀ i : Nat, Nm (timesN r.d (timesN r.d w ⟨1, 0, u⟩) ⟨i, 0, 1⟩)
theorem gx_of {x w : N3} {u : Nat} (hx : Nm x) (hw : Nm w) (hp : 0 < val r w) (hu : 0 < u) : Gx r x w u := by
  have n0 := nm_one hu
  have nw : Nm (timesN r.d w ⟨1, 0, u⟩) := times_nm hw.ne n0.ne
  have e : val r (timesN r.d w ⟨1, 0, u⟩) = val r w * val r ⟨1, 0, u⟩ := times_val hw.ne n0.ne
  have nm : ∀ i : Nat, Nm (timesN r.d (timesN r.d w ⟨1, 0, u⟩) ⟨i, 0, 1⟩) := fun i => times_nm nw.ne (nm_nat i).ne
  refine ⟨nw, by rw [e]; exact fmul_pos hp (inv_pos hu), ?_, fun i => plus_nm hx.ne (nm i).ne, fun i => ?_, nm⟩
  · have := val_inv (r := r) hu
    rw [e]
    grind
  · rw [plus_val hx.ne (nm i).ne, times_val nw.ne (nm_nat i).ne, val_nat]
theorem Gx.within {x w : N3} {u : Nat} (G : Gx r x w u) {i : Nat} (hi : i < u) : val r x ≤ val r x + val r (timesN r.d w ⟨1, 0, u⟩) * (i : F r) ∧ val r x + val r (timesN r.d w ⟨1, 0, u⟩) * (i : F r) + val r (timesN r.d w ⟨1, 0, u⟩) ≤ val r x + val r w := by
  have wp := G.wp
  have wv := G.wv
  obtain ⟨k, rfl⟩ : ∃ k, u = i + 1 + k := ⟨u - (i + 1), by omega⟩
  have e1 : ((i + 1 + k : Nat) : F r) = (i : F r) + 1 + (k : F r) := by
    rw [Lean.Grind.Semiring.natCast_add, Lean.Grind.Semiring.natCast_succ]
  generalize val r (timesN r.d w ⟨1, 0, ((i + 1 + k : Nat) : Int)⟩) = a at *
  rw [e1] at wv
  have nn : ∀ j : Nat, 0 ≤ a * (j : F r) := fun j => by
    by_cases hj : j = 0
    · subst hj
      show 0 ≤ a * ((0 : Nat) : F r)
      rw [show ((0 : Nat) : F r) = 0 from rfl]
      grind
    · have := fmul_pos wp (fnat_pos (r := r) (show 0 < j by omega))
      grind
  have h1 := nn i
  have h2 := nn k
  constructor
  · grind
  · rw [← wv]
    grind
theorem cut3_sum {R : Type} [Lean.Grind.CommRing R] {f g : F r → F r → R} {t : T4} {u v : Nat} (hf : Val1 f) (hg : Val1 g) (G : Gx r t.x t.w u) (K : Gx r t.y t.h v) : sumL (fg f g) (cut3 r.d t u v) = fg f g t := by
  have wp := G.wp
  have kp := K.wp
  unfold cut3
  rw [sumL_flat]
  simp only [sumL_map, fg, T4.X, T4.Y, T4.W, T4.H, G.xv, K.xv]
  simp only [sumL_mulR, sumL_mulL]
  rw [← hf.many (by grind) (val r t.x) u, ← hg.many (by grind) (val r t.y) v, G.wv, K.wv]
theorem gx_rp {x w : N3} {u : Nat} (hd : r.d ≤ 30) (hx : Nm x) (hw : Nm w) (G : Gx r x w u) (hu : 0 < u) (hu3 : u ≤ 3) {C : Int} {m : Nat} (hC : 0 < C) (h1 : Rp r C (2 ^ m) x) (h2 : Rp r C (2 ^ m) w) :
    Rp r (C * (u : Int)) (2 ^ (m + 24)) (timesN r.d w ⟨1, 0, u⟩) ∧ ∀ i : Nat, i < u → Rp r (C * (u : Int)) (2 ^ (m + 24)) (plusN x (timesN r.d (timesN r.d w ⟨1, 0, u⟩) ⟨i, 0, 1⟩)) := by
  have nu : (0 : Int) < (u : Int) := by omega
  have hCu : C * (u : Int) ≠ 0 := by
    have := Int.mul_pos hC nu
    omega
  have n0 := nm_one hu
  have e2 : 2 ^ (m + 24) = 2 ^ m * 2 ^ 24 := Nat.pow_add ..
  have r1 : Rp r (u : Int) 1 ⟨1, 0, (u : Int)⟩ := Rp.self (r := r) (x := ⟨1, 0, (u : Int)⟩) (by show (1 : Int).natAbs ≤ 1; decide) (by show (0 : Int).natAbs ≤ 1; decide)
  have rw_ := Rp.times h2 r1 hd (by omega) (by omega) hw.ne n0.ne
  refine ⟨rw_.mono ?_, fun i hi => ?_⟩
  · rw [e2]
    generalize 2 ^ m = z
    omega
  · have r2 : Rp r 1 2 ⟨(i : Int), 0, 1⟩ := Rp.self (r := r) (x := ⟨(i : Int), 0, 1⟩) (by show ((i : Int)).natAbs ≤ 2; omega) (by show (0 : Int).natAbs ≤ 2; decide)
    have r3 := Rp.times rw_ r2 hd hCu (by decide) G.nw.ne (nm_nat i).ne
    rw [Int.mul_one] at r3
    have r4 := h1.scale (k := (u : Int)) (K := 3) (by omega) nu (by omega)
    refine (r4.plus r3 hCu hx.ne (G.nm i).ne).mono ?_
    rw [e2]
    generalize 2 ^ m = z
    omega
theorem cut3_ok {t : T4} {u v : Nat} (hd : r.d ≤ 30) (T : t.nm) (hw : 0 < t.W r) (hh : 0 < t.H r) (hu : 0 < u) (hv : 0 < v) (hu3 : u ≤ 3) (hv3 : v ≤ 3) : CutOk r t (cut3 r.d t u v) := by
  have G := gx_of (r := r) T.1 T.2.2.1 hw hu
  have K := gx_of (r := r) T.2.1 T.2.2.2 hh hv
  have mem : ∀ s ∈ cut3 r.d t u v, ∃ i j : Nat, i < u ∧ j < v ∧ s = ⟨plusN t.x (timesN r.d (timesN r.d t.w ⟨1, 0, u⟩) ⟨i, 0, 1⟩), plusN t.y (timesN r.d (timesN r.d t.h ⟨1, 0, v⟩) ⟨j, 0, 1⟩), timesN r.d t.w ⟨1, 0, u⟩, timesN r.d t.h ⟨1, 0, v⟩⟩ := fun s hs => by
    unfold cut3 at hs
    rw [List.mem_flatMap] at hs
    obtain ⟨j, hj, hs⟩ := hs
    rw [List.mem_map] at hs
    obtain ⟨i, hi, hs⟩ := hs
    rw [List.mem_range] at hi hj
    exact ⟨i, j, hi, hj, hs.symm⟩
  refine ⟨fun s hs => ?_, fun s hs => ?_, fun f g hf hg => cut3_sum hf hg G K, fun f g hf hg => cut3_sum hf hg G K, fun C m D n hC hD hR => ?_, ?_⟩
  · obtain ⟨i, j, _, _, rfl⟩ := mem s hs
    exact ⟨G.nx i, K.nx j, G.nw, K.nw⟩
  · obtain ⟨i, j, hi, hj, rfl⟩ := mem s hs
    obtain ⟨a1, a2⟩ := G.within hi
    obtain ⟨b1, b2⟩ := K.within hj
    simp only [T4.X, T4.Y, T4.W, T4.H, G.xv, K.xv]
    exact ⟨a1, a2, G.wp, b1, b2, K.wp⟩
  · obtain ⟨a1, a2⟩ := gx_rp hd T.1 T.2.2.1 G hu hu3 hC hR.1 hR.2.1
    obtain ⟨b1, b2⟩ := gx_rp hd T.2.1 T.2.2.2 K hv hv3 hD hR.2.2.1 hR.2.2.2
    refine ⟨u, v, by omega, by omega, by omega, by omega, fun s hs => ?_⟩
    obtain ⟨i, j, hi, hj, rfl⟩ := mem s hs
    exact ⟨a2 i hi, a1, b2 j hj, b1⟩
  · have e : (cut3 r.d t u v).length = v * u := by
      unfold cut3
      rw [List.length_flatMap]
      simp only [List.length_map, List.length_range]
      have : ∀ l : List Nat, (l.map fun _ => u).sum = l.length * u := fun l => by
        induction l with
        | nil => simp
        | cons a l ih =>
          rw [List.map_cons, List.sum_cons, ih, List.length_cons, Nat.add_mul]
          omega
      rw [this, List.length_range]
    rw [e]
    have h1 : 1 * 1 ≤ v * u := Nat.mul_le_mul hv hu
    have h2 : v * u ≤ 3 * 3 := Nat.mul_le_mul hv3 hu3
    omega
end Mf
namespace Mf
variable {r : Rt}
/-! ### layings -/
structure Lay (r : Rt) (W H : N3) (ts : List T4) : Prop where
  nW : Nm W
  nH : Nm H
  pW : 0 < val r W
  pH : 0 < val r H
  nm : ∀ t ∈ ts, t.nm
  inn : ∀ t ∈ ts, 0 ≤ t.X r ∧ t.X r + t.W r ≤ val r W ∧ 0 < t.W r ∧ 0 ≤ t.Y r ∧ t.Y r + t.H r ≤ val r H ∧ 0 < t.H r
  vI : ∀ f g : F r → F r → Int, Val1 f → Val1 g → sumL (fg f g) ts = f 0 (val r W) * g 0 (val r H)
  vF : ∀ f g : F r → F r → F r, Val1 f → Val1 g → sumL (fg f g) ts = f 0 (val r W) * g 0 (val r H)
/-- sizes behind k cuts -/
def Sz (r : Rt) (e m : Nat) (W H : N3) (ts : List T4) : Prop := ∃ C D : Int, 0 < C ∧ C ≤ 2 ^ e ∧ 0 < D ∧ D ≤ 2 ^ e ∧ Rp r C (2 ^ m) W ∧ Rp r D (2 ^ m) H ∧ ∀ t ∈ ts, RpT r C m D m t
def N0 : N3 := ⟨0, 0, 1⟩
theorem nm0 : Nm N0 := ⟨by decide, by decide⟩
theorem val0 : val r N0 = 0 := (val_zero (x := N0) (by decide)).mpr ⟨rfl, rfl⟩
theorem rp0 {C : Int} {M : Nat} (hC : C ≠ 0) : Rp r C M N0 := ⟨0, 0, by
  rw [val0]
  have n1 := icast_ne hC
  refine F.ext ?_ ?_
  · show (0 : Rat) = (0 : Rat) / (C : Rat)
    grind
  · show (0 : Rat) = (0 : Rat) / (C : Rat)
    grind, by simp, by simp⟩
theorem lay_start {W H : N3} (nW : Nm W) (nH : Nm H) (pW : 0 < val r W) (pH : 0 < val r H) : Lay r W H [⟨N0, N0, W, H⟩] := by
  refine ⟨nW, nH, pW, pH, fun t ht => ?_, fun t ht => ?_, fun f g _ _ => ?_, fun f g _ _ => ?_⟩
  · rw [List.mem_singleton.mp ht]
    exact ⟨nm0, nm0, nW, nH⟩
  · rw [List.mem_singleton.mp ht]
    simp only [T4.X, T4.Y, T4.W, T4.H, val0]
    grind
  · simp only [sumL, fg, T4.X, T4.Y, T4.W, T4.H, val0]
    grind
  · simp only [sumL, fg, T4.X, T4.Y, T4.W, T4.H, val0]
    grind
theorem sz_start {W H : N3} (nW : Nm W) (nH : Nm H) (sW : Sm 20 W) (sH : Sm 20 H) : Sz r 20 20 W H [⟨N0, N0, W, H⟩] := by
  obtain ⟨a1, a2, a3, a4⟩ := sW
  obtain ⟨b1, b2, b3, b4⟩ := sH
  have rW : Rp r W.c (2 ^ 20) W := Rp.self (by omega) (by omega)
  have rH : Rp r H.c (2 ^ 20) H := Rp.self (by omega) (by omega)
  refine ⟨W.c, H.c, nW.1, by omega, nH.1, by omega, rW, rH, fun t ht => ?_⟩
  rw [List.mem_singleton.mp ht]
  exact ⟨rp0 nW.ne, rW, rp0 nH.ne, rH⟩
theorem Lay.perm {W H : N3} {ts us : List T4} (L : Lay r W H ts) (p : ts.Perm us) : Lay r W H us :=
  ⟨L.nW, L.nH, L.pW, L.pH, fun t ht => L.nm t (p.mem_iff.mpr ht), fun t ht => L.inn t (p.mem_iff.mpr ht), fun f g hf hg => by rw [← sumL_perm _ p]; exact L.vI f g hf hg, fun f g hf hg => by rw [← sumL_perm _ p]; exact L.vF f g hf hg⟩
theorem Sz.perm {W H : N3} {ts us : List T4} {e m : Nat} (S : Sz r e m W H ts) (p : ts.Perm us) : Sz r e m W H us := by
  obtain ⟨C, D, h1, h2, h3, h4, h5, h6, h7⟩ := S
  exact ⟨C, D, h1, h2, h3, h4, h5, h6, fun t ht => h7 t (p.mem_iff.mpr ht)⟩
theorem erase_perm {α : Type} : ∀ {l : List α} {i : Nat} {a : α}, l[i]? = some a → l.Perm (a :: l.eraseIdx i)
  | [], i, a, h => by simp at h
  | b :: l, 0, a, h => by
    have e : b = a := Option.some.inj h
    rw [e]
    exact .refl _
  | b :: l, i + 1, a, h => by
    have ih := erase_perm (l := l) (i := i) (a := a) h
    exact (ih.cons b).trans (.swap a b _)
theorem lay_cut {W H : N3} {ts L : List T4} {i : Nat} {t : T4} (A : Lay r W H ts) (ht : ts[i]? = some t) (Q : CutOk r t L) : Lay r W H (ts.eraseIdx i ++ L) := by
  have p := erase_perm ht
  have B := A.perm p
  have it := B.inn t (List.mem_cons_self ..)
  refine ⟨A.nW, A.nH, A.pW, A.pH, fun s hs => ?_, fun s hs => ?_, fun f g hf hg => ?_, fun f g hf hg => ?_⟩
  · rcases List.mem_append.mp hs with h | h
    · exact B.nm s (List.mem_cons_of_mem _ h)
    · exact Q.nm s h
  · rcases List.mem_append.mp hs with h | h
    · exact B.inn s (List.mem_cons_of_mem _ h)
    · have := Q.inn s h
      grind
  · have e := B.vI f g hf hg
    rw [sumL_app, Q.vI f g hf hg, ← e]
    show _ = fg f g t + sumL (fg f g) (ts.eraseIdx i)
    grind
  · have e := B.vF f g hf hg
    rw [sumL_app, Q.vF f g hf hg, ← e]
    show _ = fg f g t + sumL (fg f g) (ts.eraseIdx i)
    grind
theorem mul_pow_le {C k : Int} {a b : Nat} (hC : 0 ≤ C) (h1 : C ≤ 2 ^ a) (hk : 0 ≤ k) (h2 : k ≤ 2 ^ b) : C * k ≤ 2 ^ (a + b) := by
  have h := Int.mul_le_mul h1 h2 hk (by omega)
  rw [Int.pow_add]
  exact h
theorem sz_cut {W H : N3} {ts L : List T4} {i : Nat} {t : T4} {e m : Nat} (S : Sz r e m W H ts) (ht : ts[i]? = some t) (Q : CutOk r t L) : Sz r (e + 18) (m + 24) W H (ts.eraseIdx i ++ L) := by
  have p := erase_perm ht
  obtain ⟨C, D, c0, c1, d0, d1, rW, rH, rT⟩ := S.perm p
  obtain ⟨k, l, k0, k1, l0, l1, q⟩ := Q.rp C m D m c0 d0 (rT t (List.mem_cons_self ..))
  have up : ∀ {z : N3} {C k : Int}, 0 < C → 0 < k → k ≤ 2 ^ 18 → Rp r C (2 ^ m) z → Rp r (C * k) (2 ^ (m + 24)) z := fun hC hk0 hk h => by
    refine (h.scale (K := 2 ^ 18) (by omega) hk0 (by omega)).mono ?_
    rw [← Nat.pow_add]
    exact pow_le (by omega)
  refine ⟨C * k, D * l, Int.mul_pos c0 k0, mul_pow_le (by omega) c1 (by omega) k1, Int.mul_pos d0 l0, mul_pow_le (by omega) d1 (by omega) l1, up c0 k0 k1 rW, up d0 l0 l1 rH, fun s hs => ?_⟩
  rcases List.mem_append.mp hs with h | h
  · obtain ⟨a1, a2, a3, a4⟩ := rT s (List.mem_cons_of_mem _ h)
    exact ⟨up c0 k0 k1 a1, up c0 k0 k1 a2, up d0 l0 l1 a3, up d0 l0 l1 a4⟩
  · exact q s h
/-! ### what holds of a laying -/
open Classical in
noncomputable def ind (p x w : F r) : Int := if x ≤ p ∧ p < x + w then 1 else 0
theorem ind_val (p : F r) : Val1 (R := Int) (ind p) := fun x w u h0 h1 => by
  unfold ind
  by_cases a : x ≤ p <;> by_cases b : p < x + w <;> by_cases c : p < x + u
  all_goals
    have e1 : x + u + (w - u) = x + w := by grind
    rw [e1]
  all_goals
    first
    | (have : ¬ x + u ≤ p := by grind
       simp [a, b, c, this]; done)
    | (have : x + u ≤ p := by grind
       simp [a, b, c, this]; done)
    | (exfalso; grind)
theorem ind_nn (p x w : F r) : 0 ≤ ind p x w := by
  unfold ind
  split <;> omega
def Has (px py : F r) (t : T4) : Prop := t.X r ≤ px ∧ px < t.X r + t.W r ∧ t.Y r ≤ py ∧ py < t.Y r + t.H r
theorem ind_has {px py : F r} {t : T4} : fg (ind px) (ind py) t = 1 ∧ Has px py t ∨ fg (ind px) (ind py) t = 0 ∧ ¬ Has px py t := by
  unfold fg ind Has
  by_cases a : t.X r ≤ px ∧ px < t.X r + t.W r
  · by_cases b : t.Y r ≤ py ∧ py < t.Y r + t.H r
    · left
      rw [if_pos a, if_pos b]
      exact ⟨by decide, a.1, a.2, b.1, b.2⟩
    · right
      rw [if_pos a, if_neg b]
      exact ⟨by decide, fun h => b ⟨h.2.2.1, h.2.2.2⟩⟩
  · right
    rw [if_neg a]
    exact ⟨by rw [Int.zero_mul], fun h => a ⟨h.1, h.2.1⟩⟩
theorem sum_nn {px py : F r} : ∀ l : List T4, 0 ≤ sumL (fg (ind px) (ind py)) l
  | [] => by show (0 : Int) ≤ 0; decide
  | t :: l => by
    have := sum_nn (px := px) (py := py) l
    show 0 ≤ fg (ind px) (ind py) t + _
    rcases ind_has (px := px) (py := py) (t := t) with ⟨e, _⟩ | ⟨e, _⟩ <;> rw [e] <;> omega
theorem Lay.cover {W H : N3} {ts : List T4} (L : Lay r W H ts) {px py : F r} (h1 : 0 ≤ px) (h2 : px < val r W) (h3 : 0 ≤ py) (h4 : py < val r H) : ∃ t ∈ ts, Has px py t := by
  have e := L.vI (ind px) (ind py) (ind_val px) (ind_val py)
  have e1 : ind px 0 (val r W) = 1 := by
    unfold ind
    rw [if_pos ⟨h1, by grind⟩]
  have e2 : ind py 0 (val r H) = 1 := by
    unfold ind
    rw [if_pos ⟨h3, by grind⟩]
  rw [e1, e2] at e
  apply Classical.byContradiction
  intro hn
  have z : ∀ l : List T4, (∀ t ∈ l, ¬ Has px py t) → sumL (fg (ind px) (ind py)) l = 0 := fun l => by
    induction l with
    | nil => intro _; rfl
    | cons t l ih =>
      intro h
      show fg (ind px) (ind py) t + _ = 0
      rw [ih fun s hs => h s (List.mem_cons_of_mem _ hs)]
      rcases ind_has (px := px) (py := py) (t := t) with ⟨_, q⟩ | ⟨q, _⟩
      · exact absurd q (h t (List.mem_cons_self ..))
      · rw [q]
        rfl
  rw [z ts fun t ht hh => hn ⟨t, ht, hh⟩] at e
  omega
/-- two tiles share more than sides -/
def Meet (r : Rt) (s t : T4) : Prop := s.X r < t.X r + t.W r ∧ t.X r < s.X r + s.W r ∧ s.Y r < t.Y r + t.H r ∧ t.Y r < s.Y r + s.H r
theorem Lay.apart {W H : N3} {ts : List T4} (L : Lay r W H ts) {i j : Nat} {s t : T4} (hi : ts[i]? = some s) (hj : ts[j]? = some t) (hne : i ≠ j) : ¬ Meet r s t := by
  intro ⟨m1, m2, m3, m4⟩
  have is := L.inn s (List.mem_of_getElem? hi)
  have it := L.inn t (List.mem_of_getElem? hj)
  -- a spot in both
  obtain ⟨px, x1, x2, x3, x4⟩ : ∃ p : F r, s.X r ≤ p ∧ t.X r ≤ p ∧ p < s.X r + s.W r ∧ p < t.X r + t.W r := by
    by_cases h : s.X r ≤ t.X r
    · exact ⟨t.X r, h, by grind, by grind, by grind⟩
    · exact ⟨s.X r, by grind, by grind, by grind, by grind⟩
  obtain ⟨py, y1, y2, y3, y4⟩ : ∃ p : F r, s.Y r ≤ p ∧ t.Y r ≤ p ∧ p < s.Y r + s.H r ∧ p < t.Y r + t.H r := by
    by_cases h : s.Y r ≤ t.Y r
    · exact ⟨t.Y r, h, by grind, by grind, by grind⟩
    · exact ⟨s.Y r, by grind, by grind, by grind, by grind⟩
  have hs : Has px py s := ⟨x1, x3, y1, y3⟩
  have ht : Has px py t := ⟨x2, x4, y2, y4⟩
  have e := L.vI (ind px) (ind py) (ind_val px) (ind_val py)
  have b : ind px 0 (val r W) * ind py 0 (val r H) ≤ 1 := by
    unfold ind
    split <;> split <;> decide
  have p := erase_perm hi
  rw [sumL_perm _ p] at e
  have ht' : t ∈ ts.eraseIdx i := by
    have h1 : (ts.eraseIdx i)[if j < i then j else j - 1]? = some t := by
      rw [List.getElem?_eraseIdx]
      by_cases h : j < i
      · simp only [h, if_true]
        exact hj
      · simp only [h, if_false]
        rw [if_neg (by omega), show j - 1 + 1 = j by omega]
        exact hj
    exact List.mem_of_getElem? h1
  obtain ⟨k, hk⟩ := List.mem_iff_getElem?.mp ht'
  have p2 := erase_perm hk
  have e2 : sumL (fg (ind px) (ind py)) (s :: ts.eraseIdx i) = fg (ind px) (ind py) s + sumL (fg (ind px) (ind py)) (ts.eraseIdx i) := rfl
  have e3 : sumL (fg (ind px) (ind py)) (t :: (ts.eraseIdx i).eraseIdx k) = fg (ind px) (ind py) t + sumL (fg (ind px) (ind py)) ((ts.eraseIdx i).eraseIdx k) := rfl
  rw [e2, sumL_perm _ p2, e3] at e
  have n := sum_nn (px := px) (py := py) ((ts.eraseIdx i).eraseIdx k)
  have v1 : fg (ind px) (ind py) s = 1 := by
    rcases ind_has (px := px) (py := py) (t := s) with ⟨q, _⟩ | ⟨_, q⟩
    · exact q
    · exact absurd hs q
  have v2 : fg (ind px) (ind py) t = 1 := by
    rcases ind_has (px := px) (py := py) (t := t) with ⟨q, _⟩ | ⟨_, q⟩
    · exact q
    · exact absurd ht q
  omega
/-! ### the weighed product -/
def wgV (p q s u w h : F r) : F r := w * (p * h + q * h.bar) + w.bar * (s * h + u * h.bar)
theorem Lay.weigh {W H : N3} {ts : List T4} (L : Lay r W H ts) (p q s u : F r) : sumL (fun t : T4 => wgV p q s u (t.W r) (t.H r)) ts = wgV p q s u (val r W) (val r H) := by
  have e1 := L.vF (fun _ w => w) (fun _ h => p * h + q * h.bar) (fun x w v _ _ => by grind) (fun x w v _ _ => by simp only [bar_sub]; grind)
  have e2 := L.vF (fun _ w => w.bar) (fun _ h => s * h + u * h.bar) (fun x w v _ _ => by simp only [bar_sub]; grind) (fun x w v _ _ => by simp only [bar_sub]; grind)
  have e3 : (fun t : T4 => wgV p q s u (t.W r) (t.H r)) = fun t => fg (fun _ w => w) (fun _ h => p * h + q * h.bar) t + fg (fun _ w => w.bar) (fun _ h => s * h + u * h.bar) t := rfl
  rw [e3, sumL_add, e1, e2]
  rfl
def arV (r : Rt) (t : T4) : F r := t.W r * t.H r
theorem Lay.area {W H : N3} {ts : List T4} (L : Lay r W H ts) : sumL (arV r) ts = val r W * val r H :=
  L.vF (fun _ w => w) (fun _ h => h) (fun x w v _ _ => by grind) (fun x w v _ _ => by grind)
/-! ### what the program looks at -/
structure Cover (r : Rt) (W H : N3) (ts : List T4) : Prop where
  wide : ∀ t ∈ ts, t.X r + t.W r ≤ val r W
  high : ∀ t ∈ ts, t.Y r + t.H r ≤ val r H
  area : sumL (arV r) ts = val r W * val r H
  apart : ∀ (j k : Nat) (s t : T4), j < k → ts[j]? = some s → ts[k]? = some t → ¬ Meet r s t
theorem Lay.toCover {W H : N3} {ts : List T4} (L : Lay r W H ts) : Cover r W H ts :=
  ⟨fun t ht => (L.inn t ht).2.1, fun t ht => (L.inn t ht).2.2.2.2.1, L.area, fun j k s t h hj hk => L.apart hj hk (by omega)⟩
theorem meet_symm {s t : T4} (h : Meet r s t) : Meet r t s := ⟨h.2.1, h.1, h.2.2.2, h.2.2.1⟩
theorem Lay.ar_pos {W H : N3} {ts : List T4} (L : Lay r W H ts) {t : T4} (ht : t ∈ ts) : 0 < arV r t := fmul_pos (L.inn t ht).2.2.1 (L.inn t ht).2.2.2.2.2
/-- a tile left out -/
theorem spoil0 {W H : N3} {ts : List T4} (L : Lay r W H ts) {i : Nat} {t : T4} (ht : ts[i]? = some t) : ¬ Cover r W H (ts.eraseIdx i) := fun c => by
  have e := L.area
  rw [sumL_perm _ (erase_perm ht)] at e
  have e2 : sumL (arV r) (t :: ts.eraseIdx i) = arV r t + sumL (arV r) (ts.eraseIdx i) := rfl
  rw [e2, c.area] at e
  have := L.ar_pos (List.mem_of_getElem? ht)
  grind
/-- .. put in another tile's place -/
theorem set_perm {α : Type} : ∀ {l : List α} {i : Nat} {a : α}, i < l.length → (l.set i a).Perm (a :: l.eraseIdx i)
  | [], i, a, h => by simp at h
  | b :: l, 0, a, h => .refl _
  | b :: l, i + 1, a, h => ((set_perm (l := l) (i := i) (a := a) (Nat.lt_of_succ_lt_succ h)).cons b).trans (.swap a b _)
theorem spoil_set {W H : N3} {ts : List T4} (L : Lay r W H ts) {i : Nat} {t s : T4} (ht : ts[i]? = some t) (hs : arV r t < arV r s) : ¬ Cover r W H (ts.set i s) := fun c => by
  have e := L.area
  have hi := (List.getElem?_eq_some_iff.mp ht).1
  have e3 := c.area
  rw [sumL_perm _ (erase_perm ht)] at e
  rw [sumL_perm _ (set_perm hi)] at e3
  have e2 : sumL (arV r) (t :: ts.eraseIdx i) = arV r t + sumL (arV r) (ts.eraseIdx i) := rfl
  have e4 : sumL (arV r) (s :: ts.eraseIdx i) = arV r s + sumL (arV r) (ts.eraseIdx i) := rfl
  rw [e2] at e
  rw [e4] at e3
  grind
/-- .. twice -/
theorem spoil1 {W H : N3} {ts us : List T4} (L : Lay r W H ts) {t : T4} (ht : t ∈ ts) (p : us.Perm (t :: ts)) : ¬ Cover r W H us := fun c => by
  have e := c.area
  rw [sumL_perm _ p] at e
  have e2 : sumL (arV r) (t :: ts) = arV r t + sumL (arV r) ts := rfl
  rw [e2, L.area] at e
  have := L.ar_pos ht
  grind
/-- another floor -/
theorem spoil_floor {W H W' H' : N3} {ts : List T4} (L : Lay r W H ts) (h : val r W' * val r H' ≠ val r W * val r H) : ¬ Cover r W' H' ts := fun c => h (by rw [← c.area, L.area])
/-- a tile moved to the right -/
theorem spoil3 {W H : N3} {ts : List T4} (L : Lay r W H ts) {i : Nat} {t s : T4} (ht : ts[i]? = some t) {e : F r} (he : 0 < e) (hx : s.X r = t.X r + e) (hy : s.Y r = t.Y r) (hw : s.W r = t.W r) (hh : s.H r = t.H r) : ¬ Cover r W H (ts.set i s) := fun c => by
  have hi := (List.getElem?_eq_some_iff.mp ht).1
  have it := L.inn t (List.mem_of_getElem? ht)
  have hsi : (ts.set i s)[i]? = some s := by rw [List.getElem?_set_self hi]
  have ms : s ∈ ts.set i s := List.mem_of_getElem? hsi
  have cw := c.wide s ms
  obtain ⟨px, x1, x2, x3⟩ : ∃ p : F r, t.X r + t.W r ≤ p ∧ t.X r + e ≤ p ∧ p < t.X r + e + t.W r := by
    by_cases h : t.W r ≤ e
    · exact ⟨t.X r + e, by grind, by grind, by grind⟩
    · exact ⟨t.X r + t.W r, by grind, by grind, by grind⟩
  obtain ⟨u, hu, hh2⟩ := L.cover (px := px) (py := t.Y r) (by grind) (by grind) (by grind) (by grind)
  obtain ⟨j, hj⟩ := List.mem_iff_getElem?.mp hu
  have ne : i ≠ j := fun z => by
    rw [← z, ht] at hj
    have z2 := Option.some.inj hj
    rw [← z2] at hh2
    unfold Has at hh2
    grind
  have hsj : (ts.set i s)[j]? = some u := by rw [List.getElem?_set_ne ne]; exact hj
  have m : Meet r s u := by
    unfold Has at hh2
    unfold Meet
    grind
  rcases Nat.lt_or_gt_of_ne ne with h | h
  · exact c.apart i j s u h hsi hsj m
  · exact c.apart j i u s h hsj hsi (meet_symm m)
end Mf
namespace Mf
variable {r : Rt}
/-! ### a rising row -/
def Rise (r : Rt) (l : List N3) : Prop := ∀ (i j : Nat) (x y : N3), i < j → l[i]? = some x → l[j]? = some y → val r x < val r y
theorem rise_nil : Rise r [] := fun i j x y _ h _ => by simp at h
theorem getElem?_ins {α : Type} {l : List α} {k : Nat} {z : α} (hk : k ≤ l.length) (i : Nat) : (l.take k ++ [z] ++ l.drop k)[i]? = if i < k then l[i]? else if i = k then some z else l[i - 1]? := by
  have h1 : (l.take k).length = k := by rw [List.length_take]; omega
  by_cases a : i < k
  · rw [if_pos a, List.append_assoc, List.getElem?_append_left (by omega), List.getElem?_take, if_pos a]
  · rw [if_neg a, List.append_assoc, List.getElem?_append_right (by omega), h1]
    by_cases b : i = k
    · subst b
      rw [if_pos rfl, Nat.sub_self]
      rfl
    · rw [if_neg b]
      obtain ⟨m, hm⟩ : ∃ m, i - k = m + 1 := ⟨i - k - 1, by omega⟩
      rw [hm]
      show (l.drop k)[m]? = _
      rw [List.getElem?_drop, show k + m = i - 1 by omega]
theorem rise_ins {l : List N3} {k : Nat} {z : N3} (R : Rise r l) (hk : k ≤ l.length) (lo : ∀ i x, i < k → l[i]? = some x → val r x < val r z) (hi : ∀ i x, k ≤ i → l[i]? = some x → val r z < val r x) : Rise r (l.take k ++ [z] ++ l.drop k) := by
  intro i j x y hij hx hy
  rw [getElem?_ins hk] at hx hy
  by_cases a : i < k
  · rw [if_pos a] at hx
    by_cases b : j < k
    · rw [if_pos b] at hy
      exact R i j x y hij hx hy
    · rw [if_neg b] at hy
      by_cases c : j = k
      · rw [if_pos c] at hy
        rw [← Option.some.inj hy]
        exact lo i x a hx
      · rw [if_neg c] at hy
        exact R i (j - 1) x y (by omega) hx hy
  · rw [if_neg a] at hx
    by_cases a2 : i = k
    · rw [if_pos a2] at hx
      rw [if_neg (by omega), if_neg (by omega)] at hy
      rw [← Option.some.inj hx]
      exact hi (j - 1) y (by omega) hy
    · rw [if_neg a2] at hx
      rw [if_neg (by omega), if_neg (by omega)] at hy
      exact R (i - 1) (j - 1) x y (by omega) hx hy
theorem mem_ins {α : Type} {l : List α} {k : Nat} {z w : α} : w ∈ l.take k ++ [z] ++ l.drop k ↔ w = z ∨ w ∈ l := by
  rw [List.append_assoc, List.mem_append, List.mem_append, List.mem_singleton]
  have h : w ∈ l ↔ w ∈ l.take k ∨ w ∈ l.drop k := by
    rw [← List.mem_append, List.take_append_drop]
  rw [h]
  constructor
  · rintro (h | h | h)
    · exact .inr (.inl h)
    · exact .inl h
    · exact .inr (.inr h)
  · rintro (h | h | h)
    · exact .inr (.inl h)
    · exact .inl h
    · exact .inr (.inr h)
theorem Rise.lt_iff {l : List N3} (R : Rise r l) {i j : Nat} {x y : N3} (hx : l[i]? = some x) (hy : l[j]? = some y) : i < j ↔ val r x < val r y := by
  constructor
  · exact fun h => R i j x y h hx hy
  · intro h
    apply Classical.byContradiction
    intro hn
    by_cases e : i = j
    · subst e
      rw [hx] at hy
      rw [Option.some.inj hy] at h
      grind
    · have := R j i y x (by omega) hy hx
      grind
/-! ### areas, weighed products: their sizes -/
theorem sum_le {n M : Nat} (h : n ≤ 100) : n * M ≤ 100 * M := Nat.mul_le_mul_right _ h
/-- sums of numbers over one denominator -/
def foldN (l : List N3) : N3 := l.foldl plusN N0
theorem foldl_app {l : List N3} {z : N3} : foldN (l ++ [z]) = plusN (foldN l) z := by
  unfold foldN
  rw [List.foldl_append]
  rfl
theorem foldN_ok {C : Int} {M : Nat} (hC : C ≠ 0) : ∀ (l : List N3), (∀ z ∈ l, Nm z ∧ Rp r C M z) → Nm (foldN l) ∧ Rp r C (l.length * M) (foldN l) ∧ val r (foldN l) = sumL (val r) l := by
  have key : ∀ (l : List N3) (acc : N3) (A : Nat), Nm acc → Rp r C A acc → (∀ z ∈ l, Nm z ∧ Rp r C M z) → Nm (l.foldl plusN acc) ∧ Rp r C (A + l.length * M) (l.foldl plusN acc) ∧ val r (l.foldl plusN acc) = val r acc + sumL (val r) l := by
    intro l
    induction l with
    | nil =>
      intro acc A h1 h2 _
      refine ⟨h1, by simpa using h2, ?_⟩
      show val r acc = val r acc + 0
      grind
    | cons z l ih =>
      intro acc A h1 h2 h3
      obtain ⟨n, q⟩ := h3 z (List.mem_cons_self ..)
      obtain ⟨a, b, c⟩ := ih (plusN acc z) (A + M) (plus_nm h1.ne n.ne) (h2.plus q hC h1.ne n.ne) fun w hw => h3 w (List.mem_cons_of_mem _ hw)
      refine ⟨a, b.mono ?_, ?_⟩
      · rw [List.length_cons, Nat.add_mul]
        omega
      · show val r (l.foldl plusN (plusN acc z)) = val r acc + (val r z + sumL (val r) l)
        rw [c, plus_val h1.ne n.ne]
        grind
  intro l h
  obtain ⟨a, b, c⟩ := key l N0 0 nm0 (rp0 hC) h
  rw [Nat.zero_add] at b
  refine ⟨a, b, ?_⟩
  show val r (l.foldl plusN N0) = _
  rw [c, val0]
  grind
def areasN (d : Int) (ts : List T4) : List N3 := ts.map fun t => timesN d t.w t.h
/-- what the program's sums of areas ask -/
structure ArOk (r : Rt) (ts : List T4) : Prop where
  nm : ∀ t ∈ ts, Nm (timesN r.d t.w t.h)
  sm : ∀ t ∈ ts, Sm 900 (timesN r.d t.w t.h)
  smf : ∀ i ≤ ts.length, Sm 900 (foldN (areasN r.d (ts.take i)))
  nmf : Nm (foldN (areasN r.d ts))
  v : val r (foldN (areasN r.d ts)) = sumL (arV r) ts
theorem two_lt {a b : Nat} (h : a < b) : (2 : Nat) ^ a < 2 ^ b := Nat.pow_lt_pow_right (by decide) h
theorem itwo_le {C : Int} {a b : Nat} (h : C ≤ 2 ^ a) (hab : a < b) : C < 2 ^ b := by
  have h1 := two_lt hab
  have h2 : ((2 ^ a : Nat) : Int) < ((2 ^ b : Nat) : Int) := by omega
  rw [Int.natCast_pow, Int.natCast_pow] at h2
  exact Int.lt_of_le_of_lt h h2
theorem arOk_of {W H : N3} {ts : List T4} {e m : Nat} (hd : r.d ≤ 30) (S : Sz r e m W H ts) (he : e ≤ 400) (hm : m ≤ 400) (nm : ∀ t ∈ ts, t.nm) (hl : ts.length ≤ 100) : ArOk r ts := by
  obtain ⟨C, D, c0, c1, d0, d1, rW, rH, rT⟩ := S
  have hCD : C * D ≠ 0 := by
    have := Int.mul_pos c0 d0
    omega
  have lCD : C * D < 2 ^ 900 := itwo_le (mul_pow_le (by omega) c1 (by omega) d1) (by omega)
  have pCD := Int.mul_pos c0 d0
  have q : ∀ t ∈ ts, Nm (timesN r.d t.w t.h) ∧ Rp r (C * D) (31 * (2 ^ m * 2 ^ m)) (timesN r.d t.w t.h) := fun t ht => by
    obtain ⟨_, a2, _, a4⟩ := rT t ht
    obtain ⟨_, _, n3, n4⟩ := nm t ht
    exact ⟨times_nm n3.ne n4.ne, a2.times a4 hd (by omega) (by omega) n3.ne n4.ne⟩
  have big : 100 * (31 * (2 ^ m * 2 ^ m)) < 2 ^ 900 := by
    rw [← Nat.pow_add]
    have h1 : (2 : Nat) ^ (m + m) ≤ 2 ^ 800 := pow_le (by omega)
    have h2 : (2 : Nat) ^ 900 = 2 ^ 800 * 2 ^ 100 := by rw [← Nat.pow_add]
    rw [h2]
    have h3 : (100 * 31 : Nat) < 2 ^ 100 := by decide
    have h4 : 0 < (2 : Nat) ^ 800 := Nat.pow_pos (by decide)
    generalize (2 : Nat) ^ 800 = z at *
    generalize (2 : Nat) ^ (m + m) = y at *
    have h5 : 100 * (31 * y) = (100 * 31) * y := by omega
    rw [h5]
    calc (100 * 31) * y ≤ (100 * 31) * z := Nat.mul_le_mul_left _ h1
      _ < 2 ^ 100 * z := Nat.mul_lt_mul_of_pos_right h3 h4
      _ = z * 2 ^ 100 := Nat.mul_comm _ _
  have all : ∀ us : List T4, (∀ t ∈ us, t ∈ ts) → ∀ z ∈ areasN r.d us, Nm z ∧ Rp r (C * D) (31 * (2 ^ m * 2 ^ m)) z := fun us hu z hz => by
    obtain ⟨t, ht, e⟩ := List.mem_map.mp hz
    rw [← e]
    exact q t (hu t ht)
  refine ⟨fun t ht => (q t ht).1, fun t ht => (q t ht).2.sm (q t ht).1 pCD lCD (by omega), fun i hi => ?_, ?_, ?_⟩
  · obtain ⟨a, b, c⟩ := foldN_ok hCD (areasN r.d (ts.take i)) (all (ts.take i) fun t ht => List.mem_of_mem_take ht)
    refine b.sm a pCD lCD (Nat.lt_of_le_of_lt (Nat.mul_le_mul_right _ ?_) big)
    unfold areasN
    rw [List.length_map, List.length_take]
    omega
  · exact (foldN_ok hCD _ (all ts fun t ht => ht)).1
  · rw [(foldN_ok hCD _ (all ts fun t ht => ht)).2.2]
    unfold areasN
    rw [sumL_map]
    refine sumL_congr fun t ht => ?_
    obtain ⟨_, _, n3, n4⟩ := nm t ht
    exact times_val n3.ne n4.ne
theorem Sz.sm {W H : N3} {ts : List T4} {e m : Nat} (S : Sz r e m W H ts) (he : e < 401) (hm : m < 401) (nm : ∀ t ∈ ts, t.nm) (nW : Nm W) (nH : Nm H) : Sm 401 W ∧ Sm 401 H ∧ ∀ t ∈ ts, Sm 401 t.x ∧ Sm 401 t.y ∧ Sm 401 t.w ∧ Sm 401 t.h := by
  obtain ⟨C, D, c0, c1, d0, d1, rW, rH, rT⟩ := S
  have lC := itwo_le c1 he
  have lD := itwo_le d1 he
  have lM := two_lt hm
  refine ⟨rW.sm nW c0 lC lM, rH.sm nH d0 lD lM, fun t ht => ?_⟩
  obtain ⟨a1, a2, a3, a4⟩ := rT t ht
  obtain ⟨n1, n2, n3, n4⟩ := nm t ht
  exact ⟨a1.sm n1 c0 lC lM, a3.sm n2 d0 lD lM, a2.sm n3 c0 lC lM, a4.sm n4 d0 lD lM⟩
end Mf
namespace Mf
variable {r : Rt}
/-! ### the weighed product of numbers -/
def wgN (d : Int) (p q s u w h : N3) : N3 := plusN (timesN d w (plusN (timesN d p h) (timesN d q (mateN h)))) (timesN d (mateN w) (plusN (timesN d s h) (timesN d u (mateN h))))
structure Wt where
  p : N3
  q : N3
  s : N3
  u : N3
def Wt.ok (z : Wt) : Prop := (Nm z.p ∧ Sm 20 z.p) ∧ (Nm z.q ∧ Sm 20 z.q) ∧ (Nm z.s ∧ Sm 20 z.s) ∧ (Nm z.u ∧ Sm 20 z.u)
def wgT (d : Int) (z : Wt) (w h : N3) : N3 := wgN d z.p z.q z.s z.u w h
theorem wg_nm {d : Int} {p q s u w h : N3} (hp : Nm p) (hq : Nm q) (hs : Nm s) (hu : Nm u) (hw : Nm w) (hh : Nm h) : Nm (wgN d p q s u w h) := by
  have a := plus_nm (times_nm (d := d) hp.ne hh.ne).ne (times_nm (d := d) hq.ne (mate_nm hh).ne).ne
  have b := plus_nm (times_nm (d := d) hs.ne hh.ne).ne (times_nm (d := d) hu.ne (mate_nm hh).ne).ne
  exact plus_nm (times_nm hw.ne a.ne).ne (times_nm (mate_nm hw).ne b.ne).ne
theorem wg_val {p q s u w h : N3} (hp : Nm p) (hq : Nm q) (hs : Nm s) (hu : Nm u) (hw : Nm w) (hh : Nm h) : val r (wgN r.d p q s u w h) = wgV (val r p) (val r q) (val r s) (val r u) (val r w) (val r h) := by
  have t1 := times_nm (d := r.d) hp.ne hh.ne
  have t2 := times_nm (d := r.d) hq.ne (mate_nm hh).ne
  have t3 := times_nm (d := r.d) hs.ne hh.ne
  have t4 := times_nm (d := r.d) hu.ne (mate_nm hh).ne
  have a := plus_nm t1.ne t2.ne
  have b := plus_nm t3.ne t4.ne
  unfold wgN wgV
  rw [plus_val (times_nm hw.ne a.ne).ne (times_nm (mate_nm hw).ne b.ne).ne, times_val hw.ne a.ne, times_val (mate_nm hw).ne b.ne, plus_val t1.ne t2.ne, plus_val t3.ne t4.ne, times_val hp.ne hh.ne, times_val hq.ne (mate_nm hh).ne, times_val hs.ne hh.ne, times_val hu.ne (mate_nm hh).ne, mate_val hh.ne, mate_val hw.ne]
theorem rp_cast {C D : Int} {M N : Nat} {x : N3} (h : Rp r C M x) (e : C = D) (hm : M ≤ N) : Rp r D N x := by
  rw [← e]
  exact h.mono hm
theorem wg_rp {z : Wt} (hz : z.ok) (hd : r.d ≤ 30) {w h : N3} (hw : Nm w) (hh : Nm h) {C D : Int} {m n : Nat} (hC : 0 < C) (hD : 0 < D) (rw_ : Rp r C (2 ^ m) w) (rh : Rp r D (2 ^ n) h) :
    Rp r (C * (z.p.c * z.q.c * z.s.c * z.u.c * D)) (2 ^ (m + n + 92)) (wgT r.d z w h) := by
  obtain ⟨⟨np, p1, p2, p3, p4⟩, ⟨nq, q1, q2, q3, q4⟩, ⟨ns, s1, s2, s3, s4⟩, ⟨nu, u1, u2, u3, u4⟩⟩ := hz
  have rp_ : Rp r z.p.c (2 ^ 20) z.p := Rp.self (by omega) (by omega)
  have rq : Rp r z.q.c (2 ^ 20) z.q := Rp.self (by omega) (by omega)
  have rs : Rp r z.s.c (2 ^ 20) z.s := Rp.self (by omega) (by omega)
  have ru : Rp r z.u.c (2 ^ 20) z.u := Rp.self (by omega) (by omega)
  have rh' := rh.mate (by omega) hh.ne
  have rw' := rw_.mate (by omega) hw.ne
  have cn : ∀ {a b c : Int}, 0 < a → a.natAbs < 2 ^ 20 → 0 < b → b.natAbs < 2 ^ 20 → 0 < c → c.natAbs < 2 ^ 20 → 0 < a * b * c ∧ (a * b * c).natAbs ≤ 2 ^ 60 := fun ha ha' hb hb' hc hc' => by
    refine ⟨Int.mul_pos (Int.mul_pos ha hb) hc, ?_⟩
    rw [Int.natAbs_mul, Int.natAbs_mul, show (2 : Nat) ^ 60 = 2 ^ 20 * 2 ^ 20 * 2 ^ 20 by decide]
    exact Nat.mul_le_mul (Nat.mul_le_mul (Nat.le_of_lt ha') (Nat.le_of_lt hb')) (Nat.le_of_lt hc')
  have t1 := times_nm (d := r.d) np.ne hh.ne
  have t2 := times_nm (d := r.d) nq.ne (mate_nm hh).ne
  have t3 := times_nm (d := r.d) ns.ne hh.ne
  have t4 := times_nm (d := r.d) nu.ne (mate_nm hh).ne
  have ne : ∀ {a b : Int}, 0 < a → 0 < b → a * b ≠ 0 := fun ha hb => by
    have := Int.mul_pos ha hb
    omega
  obtain ⟨k1, l1⟩ := cn q3 q4 s3 s4 u3 u4
  obtain ⟨k2, l2⟩ := cn p3 p4 s3 s4 u3 u4
  obtain ⟨k3, l3⟩ := cn p3 p4 q3 q4 u3 u4
  obtain ⟨k4, l4⟩ := cn p3 p4 q3 q4 s3 s4
  have one : 31 * (2 ^ 20 * 2 ^ n) * 2 ^ 60 ≤ 2 ^ (n + 85) := by
    have e : 2 ^ (n + 85) = 2 ^ n * 2 ^ 85 := Nat.pow_add ..
    rw [e]
    generalize (2 : Nat) ^ n = y
    omega
  have v1 := rp_cast ((rp_.times rh hd (by omega) (by omega) np.ne hh.ne).scale (ne p3 hD) k1 l1) (D := z.p.c * z.q.c * z.s.c * z.u.c * D) (by grind) one
  have v2 := rp_cast ((rq.times rh' hd (by omega) (by omega) nq.ne (mate_nm hh).ne).scale (ne q3 hD) k2 l2) (D := z.p.c * z.q.c * z.s.c * z.u.c * D) (by grind) one
  have v3 := rp_cast ((rs.times rh hd (by omega) (by omega) ns.ne hh.ne).scale (ne s3 hD) k3 l3) (D := z.p.c * z.q.c * z.s.c * z.u.c * D) (by grind) one
  have v4 := rp_cast ((ru.times rh' hd (by omega) (by omega) nu.ne (mate_nm hh).ne).scale (ne u3 hD) k4 l4) (D := z.p.c * z.q.c * z.s.c * z.u.c * D) (by grind) one
  have gp : 0 < z.p.c * z.q.c * z.s.c * z.u.c * D := Int.mul_pos (Int.mul_pos k4 u3) hD
  have gz : z.p.c * z.q.c * z.s.c * z.u.c * D ≠ 0 := by omega
  have a := v1.plus v2 gz t1.ne t2.ne
  have b := v3.plus v4 gz t3.ne t4.ne
  have na := plus_nm t1.ne t2.ne
  have nb := plus_nm t3.ne t4.ne
  have A := rw_.times a hd (by omega) gz hw.ne na.ne
  have B := rw'.times b hd (by omega) gz (mate_nm hw).ne nb.ne
  have cg : C * (z.p.c * z.q.c * z.s.c * z.u.c * D) ≠ 0 := by
    have := Int.mul_pos hC gp
    omega
  refine (A.plus B cg (times_nm hw.ne na.ne).ne (times_nm (mate_nm hw).ne nb.ne).ne).mono ?_
  have e1 : 2 ^ (n + 85) = 2 ^ n * 2 ^ 85 := Nat.pow_add ..
  have e2 : 2 ^ (m + n + 92) = 2 ^ m * 2 ^ n * 2 ^ 92 := by rw [Nat.pow_add, Nat.pow_add]
  rw [e1, e2]
  have e3 : 31 * (2 ^ m * (2 ^ n * 2 ^ 85 + 2 ^ n * 2 ^ 85)) + 31 * (2 ^ m * (2 ^ n * 2 ^ 85 + 2 ^ n * 2 ^ 85)) = 2 ^ m * 2 ^ n * (124 * 2 ^ 85) := by
    generalize (2 : Nat) ^ m = x
    generalize (2 : Nat) ^ n = y
    generalize (2 : Nat) ^ 85 = k
    grind
  rw [e3]
  exact Nat.mul_le_mul_left _ (by decide)
/-- a laying's weighed products: sizes, and what they come to -/
structure WgOk (r : Rt) (z : Wt) (W H : N3) (ts : List T4) : Prop where
  nm : ∀ t ∈ ts, Nm (wgT r.d z t.w t.h)
  sm : ∀ t ∈ ts, Sm 900 (wgT r.d z t.w t.h)
  smf : ∀ i ≤ ts.length, Sm 900 (foldN ((ts.map fun t => wgT r.d z t.w t.h).take i))
  nmW : Nm (wgT r.d z W H)
  smW : Sm 900 (wgT r.d z W H)
  eq : foldN (ts.map fun t => wgT r.d z t.w t.h) = wgT r.d z W H
theorem wgOk_of {z : Wt} (hz : z.ok) {W H : N3} {ts : List T4} {e m : Nat} (hd : r.d ≤ 30) (L : Lay r W H ts) (S : Sz r e m W H ts) (he : e ≤ 150) (hm : m ≤ 200) (hl : ts.length ≤ 100) : WgOk r z W H ts := by
  obtain ⟨C, D, c0, c1, d0, d1, rW, rH, rT⟩ := S
  have hz' := hz
  obtain ⟨⟨np, p1, p2, p3, p4⟩, ⟨nq, q1, q2, q3, q4⟩, ⟨ns, s1, s2, s3, s4⟩, ⟨nu, u1, u2, u3, u4⟩⟩ := hz'
  have g0 : 0 < z.p.c * z.q.c * z.s.c * z.u.c * D := Int.mul_pos (Int.mul_pos (Int.mul_pos (Int.mul_pos p3 q3) s3) u3) d0
  have G0 : 0 < C * (z.p.c * z.q.c * z.s.c * z.u.c * D) := Int.mul_pos c0 g0
  have G1 : C * (z.p.c * z.q.c * z.s.c * z.u.c * D) < 2 ^ 900 := by
    have l1 := mul_pow_le (C := z.p.c) (k := z.q.c) (a := 20) (b := 20) (by omega) (by omega) (by omega) (by omega)
    have l2 := mul_pow_le (a := 40) (b := 20) (by have := Int.mul_pos p3 q3; omega) l1 (show 0 ≤ z.s.c by omega) (by omega)
    have l3 := mul_pow_le (a := 60) (b := 20) (by have := Int.mul_pos (Int.mul_pos p3 q3) s3; omega) l2 (show 0 ≤ z.u.c by omega) (by omega)
    have l4 := mul_pow_le (a := 80) (b := e) (by have := Int.mul_pos (Int.mul_pos (Int.mul_pos p3 q3) s3) u3; omega) l3 (show 0 ≤ D by omega) d1
    have l5 := mul_pow_le (a := e) (b := 80 + e) (show 0 ≤ C by omega) c1 (by omega) l4
    exact itwo_le l5 (by omega)
  have M1 : 100 * 2 ^ (m + m + 92) < 2 ^ 900 := by
    have h1 : (2 : Nat) ^ (m + m + 92) ≤ 2 ^ 492 := pow_le (by omega)
    have h2 : (2 : Nat) ^ 492 * 2 ^ 7 = 2 ^ 499 := by rw [← Nat.pow_add]
    have h3 : (2 : Nat) ^ 499 < 2 ^ 900 := two_lt (by decide)
    generalize (2 : Nat) ^ 900 = X at *
    generalize (2 : Nat) ^ 499 = Y at *
    generalize (2 : Nat) ^ 492 = Z at *
    omega
  have M2 : 2 ^ (m + m + 92) < 2 ^ 900 := two_lt (by omega)
  have nmt : ∀ t ∈ ts, Nm (wgT r.d z t.w t.h) := fun t ht => by
    obtain ⟨_, _, n3, n4⟩ := L.nm t ht
    exact wg_nm np nq ns nu n3 n4
  have rpt : ∀ t ∈ ts, Rp r (C * (z.p.c * z.q.c * z.s.c * z.u.c * D)) (2 ^ (m + m + 92)) (wgT r.d z t.w t.h) := fun t ht => by
    obtain ⟨_, _, n3, n4⟩ := L.nm t ht
    obtain ⟨_, a2, _, a4⟩ := rT t ht
    exact wg_rp hz hd n3 n4 c0 d0 a2 a4
  have nmW : Nm (wgT r.d z W H) := wg_nm np nq ns nu L.nW L.nH
  have all : ∀ x ∈ ts.map (fun t => wgT r.d z t.w t.h), Nm x ∧ Rp r (C * (z.p.c * z.q.c * z.s.c * z.u.c * D)) (2 ^ (m + m + 92)) x := fun x hx => by
    obtain ⟨t, ht, e⟩ := List.mem_map.mp hx
    rw [← e]
    exact ⟨nmt t ht, rpt t ht⟩
  have gz : C * (z.p.c * z.q.c * z.s.c * z.u.c * D) ≠ 0 := by omega
  have rpW := wg_rp hz hd L.nW L.nH c0 d0 rW rH
  have key : ∀ {x : N3} {M : Nat}, Rp r (C * (z.p.c * z.q.c * z.s.c * z.u.c * D)) M x → Nm x → M < 2 ^ 900 → Sm 900 x := fun h n hM => Rp.sm (n := 900) h n G0 G1 hM
  clear G0 G1 g0
  generalize C * (z.p.c * z.q.c * z.s.c * z.u.c * D) = CD at *
  generalize (2 : Nat) ^ (m + m + 92) = MM at *
  clear q1 q2 q3 q4 p1 p2 p3 p4 s1 s2 s3 s4 u1 u2 u3 u4
  refine ⟨nmt, fun t ht => key (rpt t ht) (nmt t ht) M2, fun i hi => ?_, nmW, key rpW nmW M2, ?_⟩
  · have all2 : ∀ x ∈ (ts.map fun t => wgT r.d z t.w t.h).take i, Nm x ∧ Rp r CD MM x := fun x hx => all x (List.mem_of_mem_take hx)
    obtain ⟨a, b, _⟩ := foldN_ok gz _ all2
    refine key b a (Nat.lt_of_le_of_lt (Nat.mul_le_mul_right _ ?_) M1)
    rw [List.length_take, List.length_map]
    omega
  · have all3 : ∀ x ∈ ts.map (fun t => wgT r.d z t.w t.h), Nm x ∧ Rp r CD MM x := fun x hx => all x hx
    obtain ⟨a, _, c⟩ := foldN_ok gz _ all3
    refine nm_inj (r := r) a nmW ?_
    rw [c, sumL_map]
    show _ = val r (wgN r.d z.p z.q z.s z.u W H)
    rw [wg_val np nq ns nu L.nW L.nH, ← L.weigh (val r z.p) (val r z.q) (val r z.s) (val r z.u)]
    refine sumL_congr fun t ht => ?_
    obtain ⟨_, _, n3, n4⟩ := L.nm t ht
    exact wg_val np nq ns nu n3 n4
end Mf
namespace Mf
/-! ### roots -/
theorem irr_nat {d n : Int} (hn : 0 ≤ n) (h1 : n * n < d) (h2 : d < (n + 1) * (n + 1)) : ∀ (b : Nat) (a : Int), a * a = d * ((b : Int) * (b : Int)) → b = 0 := by
  intro b
  induction b using Nat.strongRecOn with
  | ind b ih =>
    intro a0 e0
    apply Classical.byContradiction
    intro hb
    have hb1 : (1 : Int) ≤ (b : Int) := by omega
    -- a from nought on
    obtain ⟨a, ha, e⟩ : ∃ a : Int, 0 ≤ a ∧ a * a = d * ((b : Int) * (b : Int)) := by
      rcases Int.le_total 0 a0 with h | h
      · exact ⟨a0, h, e0⟩
      · exact ⟨-a0, by omega, by rw [← e0]; grind⟩
    have bb : (1 : Int) * 1 ≤ (b : Int) * (b : Int) := Int.mul_le_mul hb1 hb1 (by decide) (by omega)
    have up : a < (n + 1) * (b : Int) := by
      apply Classical.byContradiction
      intro hc
      have hc : (n + 1) * (b : Int) ≤ a := by omega
      have h3 : 0 ≤ (n + 1) * (b : Int) := Int.mul_nonneg (by omega) (by omega)
      have h4 := Int.mul_le_mul hc hc h3 ha
      have h5 : (n + 1) * (b : Int) * ((n + 1) * (b : Int)) = ((n + 1) * (n + 1)) * ((b : Int) * (b : Int)) := by grind
      have h6 := Int.mul_lt_mul_of_pos_right h2 (show 0 < (b : Int) * (b : Int) by omega)
      omega
    have lo : n * (b : Int) < a := by
      apply Classical.byContradiction
      intro hc
      have hc : a ≤ n * (b : Int) := by omega
      have h4 := Int.mul_le_mul hc hc ha (Int.mul_nonneg hn (by omega))
      have h5 : n * (b : Int) * (n * (b : Int)) = (n * n) * ((b : Int) * (b : Int)) := by grind
      have h6 := Int.mul_lt_mul_of_pos_right h1 (show 0 < (b : Int) * (b : Int) by omega)
      omega
    have up2 : a - n * (b : Int) < (b : Int) := by
      have : (n + 1) * (b : Int) = n * (b : Int) + (b : Int) := by grind
      omega
    obtain ⟨b', hb'⟩ : ∃ b' : Nat, a - n * (b : Int) = (b' : Int) := ⟨(a - n * (b : Int)).toNat, by omega⟩
    have z := ih b' (by omega) (d * (b : Int) - n * a) (by
      rw [← hb']
      have : (d * (b : Int) - n * a) * (d * (b : Int) - n * a) - d * ((a - n * (b : Int)) * (a - n * (b : Int))) = (d - n * n) * (d * ((b : Int) * (b : Int)) - a * a) := by grind
      rw [e] at this
      have z : (d - n * n) * (d * ((b : Int) * (b : Int)) - d * ((b : Int) * (b : Int))) = 0 := by grind
      omega)
    omega
theorem irr_rat {d n : Int} (hn : 0 ≤ n) (h1 : n * n < d) (h2 : d < (n + 1) * (n + 1)) (p q : Rat) (e : p * p = (d : Rat) * (q * q)) : p = 0 ∧ q = 0 := by
  have hpd : ((p.den : Int) : Rat) ≠ 0 := icast_ne (by have := p.den_nz; omega)
  have hqd : ((q.den : Int) : Rat) ≠ 0 := icast_ne (by have := q.den_nz; omega)
  have ep : p * ((p.den : Int) : Rat) = (p.num : Rat) := by
    have : (p.num : Rat) / ((p.den : Int) : Rat) = p := by rw [← Rat.divInt_eq_div]; exact Rat.num_divInt_den p
    grind
  have eq : q * ((q.den : Int) : Rat) = (q.num : Rat) := by
    have : (q.num : Rat) / ((q.den : Int) : Rat) = q := by rw [← Rat.divInt_eq_div]; exact Rat.num_divInt_den q
    grind
  have key : (p.num * (q.den : Int)) * (p.num * (q.den : Int)) = d * ((q.num * (p.den : Int)) * (q.num * (p.den : Int))) := by
    apply Rat.intCast_inj.mp
    simp only [Rat.intCast_mul]
    rw [← ep, ← eq]
    grind
  have k2 : ((q.num * (p.den : Int)).natAbs : Int) * ((q.num * (p.den : Int)).natAbs : Int) = (q.num * (p.den : Int)) * (q.num * (p.den : Int)) := by
    rcases Int.natAbs_eq (q.num * (p.den : Int)) with h | h
    · rw [← h]
    · generalize (q.num * (p.den : Int)) = x at *
      have : ((x.natAbs : Nat) : Int) = -x := by omega
      rw [this]
      grind
  have z := irr_nat hn h1 h2 (q.num * (p.den : Int)).natAbs (p.num * (q.den : Int)) (by rw [key, k2])
  have z1 : q.num * (p.den : Int) = 0 := by omega
  have zq : q.num = 0 := by
    rcases Int.mul_eq_zero.mp z1 with h | h
    · exact h
    · have := p.den_nz
      omega
  have q0 : q = 0 := Rat.num_eq_zero.mp zq
  refine ⟨?_, q0⟩
  rw [q0] at e
  have : p * p = 0 := by grind
  rcases Rat.mul_eq_zero.mp this with h | h <;> exact h
theorem rt_of {d n : Int} (hn : 0 ≤ n) (h1 : n * n < d) (h2 : d < (n + 1) * (n + 1)) : ∃ r : Rt, r.d = d :=
  ⟨⟨d, by have := sq_nonneg n; omega, irr_rat hn h1 h2⟩, rfl⟩
def roots : List Int := [2, 3, 5, 6, 7, 8, 10, 11, 12, 13, 14, 15, 17, 18, 19, 20, 21, 22, 23, 24, 26, 27, 28, 29, 30]
theorem root_ok {d : Int} (h : d ∈ roots) : ∃ r : Rt, r.d = d ∧ r.d ≤ 30 := by
  have key : ∃ n : Int, 0 ≤ n ∧ n * n < d ∧ d < (n + 1) * (n + 1) ∧ d ≤ 30 := by
    simp only [roots, List.mem_cons, List.not_mem_nil, or_false] at h
    rcases h with rfl | rfl | rfl | rfl | rfl | rfl | rfl | rfl | rfl | rfl | rfl | rfl | rfl | rfl | rfl | rfl | rfl | rfl | rfl | rfl | rfl | rfl | rfl | rfl | rfl
    all_goals first
      | exact ⟨1, by decide⟩
      | exact ⟨2, by decide⟩
      | exact ⟨3, by decide⟩
      | exact ⟨4, by decide⟩
      | exact ⟨5, by decide⟩
  obtain ⟨n, a, b, c, e⟩ := key
  obtain ⟨r, hr⟩ := rt_of a b c
  exact ⟨r, hr, by omega⟩
/-! ### what lowest terms keep -/
theorem low_le {a b c : Int} (hc : c ≠ 0) : (low a b c).a.natAbs ≤ a.natAbs ∧ (low a b c).b.natAbs ≤ b.natAbs ∧ (low a b c).c.natAbs ≤ c.natAbs ∧ 0 < (low a b c).c := by
  obtain ⟨g, g0, ea, eb, ec, hp, _⟩ := low_eq (a := a) (b := b) hc
  have sz : ∀ {u z : Int}, u = g * z → z.natAbs ≤ u.natAbs := fun {u z} e => by
    rw [e, Int.natAbs_mul]
    exact Nat.le_mul_of_pos_left _ (by omega)
  exact ⟨sz ea, sz eb, sz ec, hp⟩
variable {r : Rt}
/-- a part of one, from a number above nought of few figures -/
theorem btw_of {z : N3} (hd : r.d ≤ 30) (hn : Nm z) (ha : z.a.natAbs ≤ 9) (hb : z.b.natAbs ≤ 3) (hc : z.c ≤ 4) (hp : 0 < val r z) :
    Nm (plusN ⟨1, 0, 1⟩ z) ∧ Sm 5 (plusN ⟨1, 0, 1⟩ z) ∧ (plusN ⟨1, 0, 1⟩ z).a * (plusN ⟨1, 0, 1⟩ z).a - r.d * (plusN ⟨1, 0, 1⟩ z).b * (plusN ⟨1, 0, 1⟩ z).b ≠ 0 ∧ Btw r (contN r.d (plusN ⟨1, 0, 1⟩ z)) := by
  have c1 : (⟨1, 0, 1⟩ : N3).c ≠ 0 := by decide
  have hn1 : Nm (plusN ⟨1, 0, 1⟩ z) := plus_nm c1 hn.ne
  have v1 : val r (⟨1, 0, 1⟩ : N3) = 1 := by
    have := val_nat (r := r) 1
    exact this
  have hv : val r (plusN ⟨1, 0, 1⟩ z) = 1 + val r z := by rw [plus_val c1 hn.ne, v1]
  have zc := hn.1
  have e0 : plusN ⟨1, 0, 1⟩ z = low (1 * z.c + z.a * 1) (0 * z.c + z.b * 1) (1 * z.c) := rfl
  obtain ⟨l1, l2, l3, l4⟩ := low_le (a := 1 * z.c + z.a * 1) (b := 0 * z.c + z.b * 1) (c := 1 * z.c) (by omega)
  rw [← e0] at l1 l2 l3 l4
  have a13 : (plusN ⟨1, 0, 1⟩ z).a.natAbs ≤ 13 := by omega
  have b3 : (plusN ⟨1, 0, 1⟩ z).b.natAbs ≤ 3 := by omega
  have c4 : (plusN ⟨1, 0, 1⟩ z).c.natAbs ≤ 4 := by omega
  have one := Lean.Grind.OrderedRing.zero_lt_one (R := F r)
  have hpos : 0 < val r (plusN ⟨1, 0, 1⟩ z) := by rw [hv]; grind
  have hne : val r (plusN ⟨1, 0, 1⟩ z) ≠ 0 := fun e => by rw [e] at hpos; grind
  have nn := norm_ne hn1 hne
  generalize plusN ⟨1, 0, 1⟩ z = y at *
  refine ⟨hn1, ⟨by omega, by omega, l4, by omega⟩, nn, ?_⟩
  have cn := cont_nm hn1 hne
  have cv := cont_val hn1 hne
  have rp := r.pos
  obtain ⟨m1, m2, m3, m4⟩ := low_le (a := y.a * y.c) (b := 0 - y.b * y.c) (c := y.a * y.a - r.d * y.b * y.b) nn
  have e1 : contN r.d y = low (y.a * y.c) (0 - y.b * y.c) (y.a * y.a - r.d * y.b * y.b) := rfl
  rw [← e1] at m1 m2 m3 m4
  have k1 : (y.a * y.c).natAbs ≤ 13 * 4 := by rw [Int.natAbs_mul]; exact Nat.mul_le_mul a13 c4
  have k2 : (y.b * y.c).natAbs ≤ 3 * 4 := by rw [Int.natAbs_mul]; exact Nat.mul_le_mul b3 c4
  have k3 : (y.a * y.a).natAbs ≤ 13 * 13 := by rw [Int.natAbs_mul]; exact Nat.mul_le_mul a13 a13
  have k4 : (r.d * y.b * y.b).natAbs ≤ 30 * 3 * 3 := by rw [Int.natAbs_mul, Int.natAbs_mul]; exact Nat.mul_le_mul (Nat.mul_le_mul (by omega) b3) b3
  generalize contN r.d y = q at *
  have qp : 0 < val r q := by
    apply Classical.byContradiction
    intro hq
    by_cases h0 : val r q = 0
    · rw [h0] at cv
      grind
    · have h1 : 0 < - val r q := by grind
      have h2 := fmul_pos h1 hpos
      grind
  refine ⟨cn, qp, ?_, by omega, by omega, by omega⟩
  -- below one: q times (1 + z) is 1
  have h3 := fmul_pos qp hp
  have e : val r q * val r y = 1 := by first | exact cv | (rw [Lean.Grind.CommSemiring.mul_comm]; exact cv)
  rw [hv] at e
  clear m1 m2 m3 m4 k1 k2 k3 k4 e1 cv l1 l2 l3 l4 e0 hne hpos
  have e2 : val r q + val r q * val r z = 1 := by grind
  grind
end Mf
namespace Mf
variable {r : Rt}
/-! ### layings spoilt: sizes -/
theorem Sz.sub {W H : N3} {ts us : List T4} {e m : Nat} (S : Sz r e m W H ts) (h : ∀ t ∈ us, t ∈ ts) : Sz r e m W H us := by
  obtain ⟨C, D, h1, h2, h3, h4, h5, h6, h7⟩ := S
  exact ⟨C, D, h1, h2, h3, h4, h5, h6, fun t ht => h7 t (h t ht)⟩
theorem nm_frac {c : Int} (hc : 0 < c) : Nm ⟨1, 0, c⟩ := by
  obtain ⟨u, rfl⟩ : ∃ u : Nat, c = (u : Int) := ⟨c.toNat, by omega⟩
  exact nm_one (by omega)
theorem frac_pos {c : Int} (hc : 0 < c) : 0 < val r ⟨1, 0, c⟩ := by
  obtain ⟨u, rfl⟩ : ∃ u : Nat, c = (u : Int) := ⟨c.toNat, by omega⟩
  exact inv_pos (by omega)
theorem rp_c {C c : Int} {e m : Nat} {x : N3} (hC : 0 < C) (hCe : C ≤ 2 ^ e) (hc : 0 < c) (hc2 : c ≤ 1024) (hx : Nm x) (h : Rp r C (2 ^ m) x) : Rp r (C * c) (2 ^ (m + e + 11)) x ∧ Rp r (C * c) (2 ^ (m + e + 11)) (plusN x ⟨1, 0, c⟩) := by
  have h1 : Rp r (C * c) (2 ^ m * 2 ^ 10) x := h.scale (by omega) hc (by omega)
  have h2 : Rp r (c * C) (1 * 2 ^ e) ⟨1, 0, c⟩ := (Rp.self (x := ⟨1, 0, c⟩) (M := 1) (by show (1 : Int).natAbs ≤ 1; decide) (by show (0 : Int).natAbs ≤ 1; decide)).scale (by show c ≠ 0; omega) hC (by
    have : ((C.natAbs : Nat) : Int) ≤ ((2 ^ e : Nat) : Int) := by
      rw [Int.natCast_pow]
      have e2 : ((C.natAbs : Nat) : Int) = C := by omega
      rw [e2]
      exact hCe
    omega)
  rw [Int.mul_comm c C] at h2
  have hcc : C * c ≠ 0 := by
    have := Int.mul_pos hC hc
    omega
  have b : 2 ^ m * 2 ^ 10 + 1 * 2 ^ e ≤ 2 ^ (m + e + 11) := by
    rw [show m + e + 11 = m + (e + 11) by omega, Nat.pow_add 2 m, Nat.pow_add 2 e]
    have a1 : 1 ≤ 2 ^ m := Nat.one_le_two_pow
    have a2 : 1 ≤ 2 ^ e := Nat.one_le_two_pow
    have a3 : 2 ^ m ≤ 2 ^ m * 2 ^ e := Nat.le_mul_of_pos_right _ a2
    have a4 : 2 ^ e ≤ 2 ^ m * 2 ^ e := Nat.le_mul_of_pos_left _ a1
    rw [← Nat.mul_assoc]
    generalize 2 ^ m * 2 ^ e = z at *
    omega
  refine ⟨h1.mono (by omega), (h1.plus h2 hcc hx.ne (by show c ≠ 0; omega)).mono b⟩
theorem sz_more {W W' H : N3} {ts us : List T4} {e m : Nat} {c : Int} (S : Sz r e m W H ts) (hc : 0 < c) (hc2 : c ≤ 1024) (nW : Nm W) (nm : ∀ t ∈ ts, t.nm) (nH : Nm H) (hW : W' = W ∨ W' = plusN W ⟨1, 0, c⟩)
    (hu : ∀ s ∈ us, ∃ t ∈ ts, (s.x = t.x ∨ s.x = plusN t.x ⟨1, 0, c⟩) ∧ (s.w = t.w ∨ s.w = plusN t.w ⟨1, 0, c⟩) ∧ s.y = t.y ∧ s.h = t.h) : Sz r (e + 10) (m + e + 11) W' H us := by
  obtain ⟨C, D, c0, c1, d0, d1, rW, rH, rT⟩ := S
  have up : ∀ {z : N3}, Rp r D (2 ^ m) z → Rp r D (2 ^ (m + e + 11)) z := fun h => h.mono (Nat.pow_le_pow_right (by decide) (by omega))
  have l1 : C * c ≤ 2 ^ (e + 10) := mul_pow_le (by omega) c1 (by omega) (by omega)
  have l2 : D ≤ 2 ^ (e + 10) := by
    have := mul_pow_le (C := D) (k := 1) (a := e) (b := 10) (by omega) d1 (by omega) (by omega)
    omega
  refine ⟨C * c, D, Int.mul_pos c0 hc, l1, d0, l2, ?_, up rH, fun s hs => ?_⟩
  · have q := rp_c c0 c1 hc hc2 nW rW
    rcases hW with rfl | rfl
    · exact q.1
    · exact q.2
  · obtain ⟨t, ht, hx, hw, hy, hh⟩ := hu s hs
    obtain ⟨r1, r2, r3, r4⟩ := rT t ht
    obtain ⟨n1, n2, n3, n4⟩ := nm t ht
    have q1 := rp_c c0 c1 hc hc2 n1 r1
    have q2 := rp_c c0 c1 hc hc2 n3 r2
    refine ⟨?_, ?_, ?_, ?_⟩
    · rcases hx with e | e <;> rw [e]
      · exact q1.1
      · exact q1.2
    · rcases hw with e | e <;> rw [e]
      · exact q2.1
      · exact q2.2
    · rw [hy]
      exact up r3
    · rw [hh]
      exact up r4
theorem sz_half {W H : N3} {ts : List T4} {e m : Nat} (hd : r.d ≤ 30) (S : Sz r e m W H ts) (nH : Nm H) : Sz r (e + 1) (m + 5) W (timesN r.d H ⟨1, 0, 2⟩) ts := by
  obtain ⟨C, D, c0, c1, d0, d1, rW, rH, rT⟩ := S
  have up : ∀ {C : Int} {z : N3}, Rp r C (2 ^ m) z → Rp r C (2 ^ (m + 5)) z := fun h => h.mono (Nat.pow_le_pow_right (by decide) (by omega))
  have p5 : 2 ^ (m + 5) = 2 ^ m * 32 := by rw [Nat.pow_add]
  have up2 : ∀ {z : N3}, Rp r D (2 ^ m) z → Rp r (D * 2) (2 ^ (m + 5)) z := fun h => (h.scale (K := 2) (by omega) (by decide) (by decide)).mono (by rw [p5]; generalize 2 ^ m = z; omega)
  have l1 : C ≤ 2 ^ (e + 1) := by
    have := mul_pow_le (C := C) (k := 1) (a := e) (b := 1) (by omega) c1 (by omega) (by omega)
    omega
  have l2 : D * 2 ≤ 2 ^ (e + 1) := mul_pow_le (by omega) d1 (by omega) (by omega)
  refine ⟨C, D * 2, c0, l1, by omega, l2, up rW, ?_, fun t ht => ?_⟩
  · have h2 : Rp r 2 1 ⟨1, 0, 2⟩ := Rp.self (x := ⟨1, 0, 2⟩) (M := 1) (by show (1 : Int).natAbs ≤ 1; decide) (by show (0 : Int).natAbs ≤ 1; decide)
    refine (rH.times h2 hd (by omega) (by decide) nH.ne (by decide)).mono ?_
    rw [p5]
    generalize 2 ^ m = z
    omega
  · obtain ⟨r1, r2, r3, r4⟩ := rT t ht
    exact ⟨up r1, up r2, up2 r3, up2 r4⟩
theorem wide_ne {W H : N3} {c : Int} (hc : 0 < c) (nW : Nm W) (pH : 0 < val r H) : val r (plusN W ⟨1, 0, c⟩) * val r H ≠ val r W * val r H := by
  rw [plus_val nW.ne (nm_frac hc).ne]
  have h1 := fmul_pos (frac_pos (r := r) hc) pH
  intro e
  have e2 : (val r W + val r ⟨1, 0, c⟩) * val r H = val r W * val r H + val r ⟨1, 0, c⟩ * val r H := by grind
  rw [e2] at e
  generalize val r ⟨1, 0, c⟩ * val r H = z at *
  generalize val r W * val r H = y at *
  grind
theorem half_val {H : N3} (nH : Nm H) : val r (timesN r.d H ⟨1, 0, 2⟩) * 2 = val r H := by
  rw [times_val nH.ne (nm_frac (c := 2) (by decide)).ne]
  have h2 : val r ⟨1, 0, 2⟩ * ((2 : Nat) : F r) = 1 := val_inv (u := 2) (by decide)
  have h3 : ((2 : Nat) : F r) = 2 := rfl
  rw [h3] at h2
  grind
theorem half_ne {W H : N3} (nH : Nm H) (pW : 0 < val r W) (pH : 0 < val r H) : val r W * val r (timesN r.d H ⟨1, 0, 2⟩) ≠ val r W * val r H := by
  have h := half_val (r := r) nH
  intro e
  have p := fmul_pos pW pH
  have e2 : val r W * val r H = val r W * val r (timesN r.d H ⟨1, 0, 2⟩) * 2 := by rw [← h]; grind
  rw [e] at e2
  generalize val r W * val r H = y at *
  grind
theorem half_pos {H : N3} (nH : Nm H) (pH : 0 < val r H) : 0 < val r (timesN r.d H ⟨1, 0, 2⟩) := by
  have h := half_val (r := r) nH
  apply Classical.byContradiction
  intro c
  rw [← h] at pH
  grind
theorem set_as {α : Type} {l : List α} {k : Nat} {a : α} (h : k < l.length) : l.take k ++ [a] ++ l.drop (k + 1) = l.set k a := by
  rw [List.set_eq_take_append_cons_drop, if_pos h, List.append_assoc]
  rfl
theorem dup_perm {α : Type} {l : List α} {k : Nat} {a : α} (h : l[k]? = some a) : (l.take (k + 1) ++ l.drop k).Perm (a :: l) := by
  have e : l.take (k + 1) = l.take k ++ [a] := by rw [List.take_add_one, h]; rfl
  rw [e, List.append_assoc]
  refine List.perm_middle.trans ?_
  have e2 : l.take k ++ ([] ++ l.drop k) = l := by rw [List.nil_append, List.take_append_drop]
  show (a :: (l.take k ++ ([] ++ l.drop k))).Perm (a :: l)
  rw [e2]
end Mf
namespace MfW
open PySem PySem.Spec PyProof.Rows L2
/-! ### the text -/
def top (i : Nat) : Stmt := PySem.Challenge.pw_matefloors_k16_whole_sums_kept.main.body.getD i (.Pass ⟨0, 0, 0, 0⟩)
/-- the def at the i-th place, as it stands behind the top -/
def Df (K : PySem.W.Frag) (mg : Str → Option Value) (x : Str) (i : Nat) : Prop := ∃ f fd, FunD K x x (defArgs (top i)) (defBody (top i)) (defScope (top i)) [] [] f fd ∧ mg x = some (.ref f)
/-- the names that are free in the module: built-ins; its constants -/
structure Txt (K : PySem.W.Frag) (mg : Str → Option Value) : Prop where
  isi : mg "isinstance" = none
  int : mg "int" = none
  bool : mg "bool" = none
  tuple : mg "tuple" = none
  len : mg "len" = none
  all : mg "all" = none
  any : mg "any" = none
  abs : mg "abs" = none
  range : mg "range" = none
  enumerate : mg "enumerate" = none
  list : mg "list" = none
  max : mg "max" = none
  min : mg "min" = none
  verr : mg "ValueError" = none
  most : ∃ t, mg "MOST_TILES" = some (.int 60 t)
  nought : ∃ a, mg "NOUGHT" = some (.ref a) ∧ ∃ (o : Obj) (its : Array Value) (n : Nat), K.lookup a = some o ∧ o.cls = .type "tuple" ∧ o.data = .seq its n ∧ its.size ≤ sizeLine ∧ Vals [.int 0, .int 0, .int 1] its.toList
section
variable {P : Program} {w : World} {K : PySem.W.Frag} {mg : Str → Option Value} {base : Heap}
/-- a def of the module by its body -/
theorem mk_cal {x : Str} {i : Nat} {N ps : List Str} {k : Nat} {sp : Sp} (D : Df K mg x i) (S : FnScope N ps (defScope (top i))) (len : ∀ vs H Q E, sp vs H Q E → vs.length = ps.length)
    (hb : ∀ (kV doc pm : Value) (an : Option Addr) (cdv ct : Value) (us : List Value), us.length = ps.length → bindArgs (PySem.W.fnOf x x (defArgs (top i)) (defBody (top i)) (defScope (top i)) .none kV doc pm an cdv ct) ⟨us, []⟩ = pure (ps.zip us))
    (hbody : ∀ (cdv : Value) (A : Around) (outer : List Env) (s : Shared) (f : Addr) (H : Hp) (vs : List V) (Q : VK) (E : XK), Room k (A.deeper (envOfC x (defScope (top i)) s.heap.objs.size f cdv)) → sp vs H Q E →
      ∃ t, PSs (cxOf C8.CX0 P w K mg base N x (defScope (top i)) f cdv A outer s H E).nox (defBody (top i)) t ∧ t { nx := fun _ H' => Q .non H', rt := Q } (start N vs) H) : C8.Cal P w K mg base (k + 1) x sp [] := by
  obtain ⟨f, fd, F, hm⟩ := D
  refine ⟨f, fd, ps, [], F.ok S len fun cdv A outer s H vs Q E hr h => ?_, hm, F.kp, F.bindsN hb, .nil⟩
  obtain ⟨t, h1, h2⟩ := hbody cdv A outer s f H vs Q E hr h
  exact ⟨t, h1.nox, h2⟩
end
/-! ### numbers in the heap -/
def n3v (x : Mf.N3) : List V := [.int x.a, .int x.b, .int x.c]
/-- a tuple that stands for good: tracked, or of the written part -/
def TupAt (K : PySem.W.Frag) (H : Hp) (p : Addr) (xs : List V) : Prop := H p = some (.tup xs) ∨ ∃ (o : Obj) (its : Array Value) (n : Nat), K.lookup p = some o ∧ o.cls = .type "tuple" ∧ o.data = .seq its n ∧ its.size ≤ sizeLine ∧ Vals xs its.toList
theorem TupAt.sq {K : PySem.W.Frag} {H : Hp} {p : Addr} {xs : List V} (h : TupAt K H p xs) : SqT K H p xs := by
  rcases h with h | h
  · exact .inl (.inl h)
  · exact .inr h
def Nu (K : PySem.W.Frag) (H : Hp) (v : V) (x : Mf.N3) : Prop := ∃ p, v = .ref p ∧ TupAt K H p (n3v x)
def NuH (H : Hp) (v : V) (x : Mf.N3) : Prop := ∃ p, v = .ref p ∧ H p = some (.tup (n3v x))
theorem NuH.nu {K : PySem.W.Frag} {H : Hp} {v : V} {x : Mf.N3} (h : NuH H v x) : Nu K H v x := by
  obtain ⟨p, e, h⟩ := h
  exact ⟨p, e, .inl h⟩
/-- tuples stay -/
def TL (H H' : Hp) : Prop := ∀ b xs, H b = some (.tup xs) → H' b = some (.tup xs)
theorem TL.refl (H : Hp) : TL H H := fun _ _ h => h
theorem TL.trans {H H1 H2 : Hp} (a : TL H H1) (b : TL H1 H2) : TL H H2 := fun c o h => b c o (a c o h)
theorem TL.of {H H' : Hp} (h : Same H H') : TL H H' := fun b xs e => h b _ e
theorem same_new {H : Hp} {p : Addr} {o : HO} (h : H p = none) : Same H (upd H p o) := fun b x e => by
  rw [upd_ne (ne_of_none e h)]
  exact e
theorem TL.new {H : Hp} {p : Addr} {o : HO} (h : H p = none) : TL H (upd H p o) := .of (same_new h)
theorem TL.put {H : Hp} {p : Addr} {xs : List V} {o : HO} (h : H p = some (.lst xs)) : TL H (upd H p o) := fun b ys e => by
  rw [upd_ne (ne_of e h (by intro z; cases z))]
  exact e
theorem TL.tup {K : PySem.W.Frag} {H H' : Hp} {p : Addr} {xs : List V} (t : TL H H') (h : TupAt K H p xs) : TupAt K H' p xs := by
  rcases h with h | h
  · exact .inl (t _ _ h)
  · exact .inr h
theorem TL.nu {K : PySem.W.Frag} {H H' : Hp} {v : V} {x : Mf.N3} (t : TL H H') (h : Nu K H v x) : Nu K H' v x := by
  obtain ⟨p, e, h⟩ := h
  exact ⟨p, e, t.tup h⟩
theorem TL.nuH {H H' : Hp} {v : V} {x : Mf.N3} (t : TL H H') (h : NuH H v x) : NuH H' v x := by
  obtain ⟨p, e, h⟩ := h
  exact ⟨p, e, t _ _ h⟩
end MfW
namespace MfW
open PySem PySem.Spec PyProof.Rows L2
section
variable {P : Program} {w : World} {K : PySem.W.Frag} {mg : Str → Option Value} {base : Heap}
abbrev sh (r : String) := r
/-! ### shared -/
abbrev N_shared : List Str := ["one", "other"]
theorem sc_shared : FnScope N_shared ["one", "other"] (defScope (top 18)) := ⟨rfl, rfl, rfl, by decide +kernel, rfl, by decide +kernel, by decide +kernel⟩

def spShared : Sp := fun vs H Q _ => ∃ a b : Int, vs = [.int a, .int b] ∧ Q (.int ((Int.gcd a b : Nat) : Int)) H
theorem gcd_step {x y : Int} (hx : 0 ≤ x) (hy : 0 < y) : Int.gcd y (x % y) = Int.gcd x y := by
  have h1 : Nat.gcd y.natAbs (x.natAbs % y.natAbs) = Nat.gcd y.natAbs x.natAbs := by
    rw [Nat.gcd_comm, ← Nat.gcd_rec]
  have e : (x % y).natAbs = x.natAbs % y.natAbs := by
    have : x % y = ((x.natAbs % y.natAbs : Nat) : Int) := by
      rw [Int.natCast_emod]
      rw [Int.natAbs_of_nonneg hx, Int.natAbs_of_nonneg (by omega)]
    omega
  show Nat.gcd y.natAbs (x % y).natAbs = Nat.gcd x.natAbs y.natAbs
  rw [e, h1, Nat.gcd_comm]
theorem abs_if (a : Int) : (if a < 0 then -a else a) = ((a.natAbs : Nat) : Int) := by
  split <;> omega
theorem ok_shared (T : Txt K mg) (D : Df K mg "shared" 18) : C8.Cal P w K mg base 1 "shared" spShared [] := by
  refine mk_cal D sc_shared (fun vs H Q E h => ?_) (fun _ _ _ _ _ _ us hl => match us, hl with | [_, _], _ => rfl) (fun cdv A outer s f H vs Q E hr h => ?_)
  · obtain ⟨a, b, rfl, _⟩ := h
    rfl
  · obtain ⟨a, b, rfl, q⟩ := h
    refine ⟨_, (pss_cons (ps_par (i := 0) (j := 1) (by rfl) sc_shared.nd rfl rfl (by decide) rfl rfl (pa_cons (pe_callB call_abs (by rfl) T.abs (by decide +kernel) (pa_cons (pv 0) pa_nil)) (pa_cons (pe_callB call_abs (by rfl) T.abs (by decide +kernel) (pa_cons (pv 1) pa_nil)) pa_nil)) (by rfl))
      (pss_cons (ps_while PassesOwn.never (pt_cmpR op_gt (pv 1) pe_int (nomark _)) (pss_one (ps_par (i := 0) (j := 1) (by rfl) sc_shared.nd rfl rfl (by decide) rfl rfl (pa_cons (pv 1) (pa_cons (pe_op op_mod (pv 0) (pv 1)) pa_nil)) (by rfl))))
      (pss_one (ps_ret (pv 0))))), ?_⟩
    refine ⟨_, rfl, _, rfl, _, rfl, _, rfl, _, _, rfl, ?_⟩
    refine while_by (fun σ H' => ∃ x y : Int, σ = [some (.int x), some (.int y)] ∧ 0 ≤ x ∧ 0 ≤ y ∧ Int.gcd x y = Int.gcd a b ∧ H' = H) (fun σ _ => match σ with | [_, some (.int y)] => y.toNat | _ => 0) ?_ ?_ ?_
    · refine ⟨_, _, rfl, by split <;> omega, by split <;> omega, ?_, rfl⟩
      rw [abs_if, abs_if]
      simp
      rfl
    · rintro σ H' ⟨x, y, rfl, hx, hy, e, rfl⟩
      refine ⟨_, rfl, _, _, rfl, rfl, _, rfl, ?_⟩
      refine ite2 (fun c => ?_) (fun c => ?_)
      · have hy0 : 0 < y := of_decide_eq_true c
        refine ⟨_, rfl, _, rfl, _, rfl, _, _, rfl, rfl, hy0, _, _, rfl, ⟨y, x % y, rfl, hy, Int.emod_nonneg _ (by omega), ?_, rfl⟩, ?_⟩
        · rw [gcd_step hx hy0, e]
        · show (x % y).toNat < y.toNat
          have := Int.emod_lt_of_pos x hy0
          omega
      · have hy0 : y = 0 := by
          have : ¬ 0 < y := fun z => c (decide_eq_true z)
          omega
        subst hy0
        refine ⟨_, rfl, ?_⟩
        have e2 : x = ((Int.gcd a b : Nat) : Int) := by
          rw [← e]
          simp
          omega
        rw [e2]
        exact q
    · rintro σ H' Q1 Q2 hq ⟨v, e, i, j, e1, e2, k, e3, z⟩
      exact ⟨v, e, i, j, e1, e2, k, e3, hq _ _ z⟩
/-! ### lowest -/
abbrev N_lowest : List Str := ["a", "b", "c", "common"]
theorem sc_lowest : FnScope N_lowest ["a", "b", "c"] (defScope (top 20)) := ⟨rfl, rfl, rfl, by decide +kernel, rfl, by decide +kernel, by decide +kernel⟩

def spLow : Sp := fun vs H Q _ => ∃ a b c : Int, vs = [.int a, .int b, .int c] ∧ 0 < c ∧ c.natAbs < 2 ^ 8000 ∧ ∀ H' v, Same H H' → NuH H' v (Mf.low a b c) → Q v H'
theorem g3_lt {a b c : Int} {n : Nat} (hc : 0 < c) (h : c.natAbs < 2 ^ n) : (Mf.g3 a b c).natAbs < 2 ^ n := by
  have h1 := (Mf.g3_dvd a b c).2.2
  have h2 := Mf.g3_pos (a := a) (b := b) (c := c) (by omega)
  have h3 := Int.le_of_dvd hc h1
  omega
theorem gs_pos {a b c : Int} (hc : 0 < c) : Mf.gs a b c = Mf.g3 a b c := by
  unfold Mf.gs
  rw [if_neg (by omega)]
theorem ok_lowest (T : Txt K mg) (D : Df K mg "lowest" 20) (c_shared : C8.Cal P w K mg base 1 "shared" spShared []) : C8.Cal P w K mg base 2 "lowest" spLow [] := by
  refine mk_cal D sc_lowest (fun vs H Q E h => ?_) (fun _ _ _ _ _ _ us hl => match us, hl with | [_, _, _], _ => rfl) (fun cdv A outer s f H vs Q E hr h => ?_)
  · obtain ⟨a, b, c, rfl, _⟩ := h
    rfl
  · obtain ⟨a, b, c, rfl, hc, hb, q⟩ := h
    refine ⟨_, (pss_cons (ps_set (i := 3) sc_lowest.nd rfl (Or.inl rfl) (C8.pe_c c_shared hr (by decide) (by rfl) (pa_cons (C8.pe_c c_shared hr (by decide) (by rfl) (pa_cons (pv 0) (pa_cons (pv 1) pa_nil))) (pa_cons (pv 2) pa_nil))))
      (pss_cons (ps_if (pt_cmpR op_lt (pv 2) pe_int (nomark _)) (pss_one (ps_set (i := 3) sc_lowest.nd rfl (Or.inl rfl) (pe_op op_sub pe_int (pv 3)))) pss_nil)
      (pss_one (ps_ret (pe_tup (pa_cons (pe_op op_fdivW (pv 0) (pv 3)) (pa_cons (pe_op op_fdivW (pv 1) (pv 3)) (pa_cons (pe_op op_fdivW (pv 2) (pv 3)) pa_nil)))))))), ?_⟩
    refine ⟨_, rfl, _, rfl, a, b, rfl, _, rfl, _, c, rfl, ?_⟩
    refine ⟨_, rfl, _, _, rfl, rfl, _, rfl, ?_⟩
    refine ite2 (fun z => absurd (of_decide_eq_true z) (by omega)) (fun _ => ?_)
    have hp := Mf.g3_pos (a := a) (b := b) (c := c) (by omega)
    have hw : CDivW a (Mf.g3 a b c) := wide_div hp (g3_lt hc hb) (by decide) (by decide)
    have hw2 : CDivW b (Mf.g3 a b c) := wide_div hp (g3_lt hc hb) (by decide) (by decide)
    have hw3 : CDivW c (Mf.g3 a b c) := wide_div hp (g3_lt hc hb) (by decide) (by decide)
    refine ⟨_, rfl, _, rfl, _, _, rfl, rfl, hw, _, rfl, _, rfl, _, _, rfl, rfl, hw2, _, rfl, _, rfl, _, _, rfl, rfl, hw3, by show 3 ≤ sizeLine; decide, fun p np => ?_⟩
    refine q _ _ (same_new np) ⟨p, rfl, ?_⟩
    rw [upd_same]
    unfold n3v Mf.low
    rw [gs_pos hc]
    rfl
/-! ### numbers: what a def is told and tells -/
/-- a number made in a new heap -/
abbrev Told (H : Hp) (x : Mf.N3) (Q : VK) : Prop := ∀ H' v, Same H H' → NuH H' v x → Q v H'
theorem at0 (x : Mf.N3) : atI (n3v x) 0 = some (.int x.a) := atI_nat (j := 0) rfl
theorem at1 (x : Mf.N3) : atI (n3v x) 1 = some (.int x.b) := atI_nat (j := 1) rfl
theorem at2 (x : Mf.N3) : atI (n3v x) 2 = some (.int x.c) := atI_nat (j := 2) rfl
theorem sm_mul {a b : Int} {n : Nat} (ha : a.natAbs < 2 ^ n) (hb : b.natAbs < 2 ^ n) (h0 : 0 < n) (h : n ≤ 100000) : CMulW a b := wide_mul ha hb h0 h0 (by omega)
/-! ### plus -/
abbrev N_plus : List Str := ["x", "y"]
theorem sc_plus : FnScope N_plus ["x", "y"] (defScope (top 22)) := ⟨rfl, rfl, rfl, by decide +kernel, rfl, by decide +kernel, by decide +kernel⟩

def spPlus (K : PySem.W.Frag) : Sp := fun vs H Q _ => ∃ v1 v2 x y, vs = [v1, v2] ∧ Nu K H v1 x ∧ Nu K H v2 y ∧ Mf.Sm 2000 x ∧ Mf.Sm 2000 y ∧ Told H (Mf.plusN x y) Q
theorem mulc_lt {a b : Int} (ha : a.natAbs < 2 ^ 2000) (hb : b.natAbs < 2 ^ 2000) : (a * b).natAbs < 2 ^ 8000 := Nat.lt_of_lt_of_le (wide_lt ha hb) (Nat.pow_le_pow_right (by decide) (by decide))
theorem ok_plus (T : Txt K mg) (D : Df K mg "plus" 22) (c_lowest : C8.Cal P w K mg base 2 "lowest" spLow []) : C8.Cal P w K mg base 3 "plus" (spPlus K) [] := by
  refine mk_cal D sc_plus (fun vs H Q E h => ?_) (fun _ _ _ _ _ _ us hl => match us, hl with | [_, _], _ => rfl) (fun cdv A outer s f H vs Q E hr h => ?_)
  · obtain ⟨v1, v2, x, y, rfl, _⟩ := h
    rfl
  · obtain ⟨_, _, x, y, rfl, ⟨p1, rfl, h1⟩, ⟨p2, rfl, h2⟩, ⟨a1, b1, c1, d1⟩, ⟨a2, b2, c2, d2⟩, q⟩ := h
    refine ⟨_, (pss_one (ps_ret (C8.pe_c c_lowest hr (by decide) (by rfl) (pa_cons (pe_op op_add (pe_op op_mulW (pe_ix ix_tup (pv 0) pe_int (fun _ _ => rfl)) (pe_ix ix_tup (pv 1) pe_int (fun _ _ => rfl))) (pe_op op_mulW (pe_ix ix_tup (pv 1) pe_int (fun _ _ => rfl)) (pe_ix ix_tup (pv 0) pe_int (fun _ _ => rfl)))) (pa_cons (pe_op op_add (pe_op op_mulW (pe_ix ix_tup (pv 0) pe_int (fun _ _ => rfl)) (pe_ix ix_tup (pv 1) pe_int (fun _ _ => rfl))) (pe_op op_mulW (pe_ix ix_tup (pv 1) pe_int (fun _ _ => rfl)) (pe_ix ix_tup (pv 0) pe_int (fun _ _ => rfl)))) (pa_cons (pe_op op_mulW (pe_ix ix_tup (pv 0) pe_int (fun _ _ => rfl)) (pe_ix ix_tup (pv 1) pe_int (fun _ _ => rfl))) pa_nil)))))), ?_⟩
    have m : ∀ {a b : Int}, a.natAbs < 2 ^ 2000 → b.natAbs < 2 ^ 2000 → CMulW a b := fun ha hb => sm_mul ha hb (by decide) (by decide)
    refine ⟨_, rfl, p1, _, 0, _, rfl, rfl, h1.sq, at0 x, _, rfl, p2, _, 2, _, rfl, rfl, h2.sq, at2 y, _, _, rfl, rfl, m a1 d2,
      _, rfl, p2, _, 0, _, rfl, rfl, h2.sq, at0 y, _, rfl, p1, _, 2, _, rfl, rfl, h1.sq, at2 x, _, _, rfl, rfl, m a2 d1, _, _, rfl, rfl, ?_⟩
    refine ⟨_, rfl, p1, _, 1, _, rfl, rfl, h1.sq, at1 x, _, rfl, p2, _, 2, _, rfl, rfl, h2.sq, at2 y, _, _, rfl, rfl, m b1 d2,
      _, rfl, p2, _, 1, _, rfl, rfl, h2.sq, at1 y, _, rfl, p1, _, 2, _, rfl, rfl, h1.sq, at2 x, _, _, rfl, rfl, m b2 d1, _, _, rfl, rfl, ?_⟩
    refine ⟨_, rfl, p1, _, 2, _, rfl, rfl, h1.sq, at2 x, _, rfl, p2, _, 2, _, rfl, rfl, h2.sq, at2 y, _, _, rfl, rfl, m d1 d2, ?_⟩
    exact ⟨_, _, _, rfl, Int.mul_pos c1 c2, mulc_lt d1 d2, q⟩
/-! ### times -/
abbrev N_times : List Str := ["d", "x", "y"]
theorem sc_times : FnScope N_times ["d", "x", "y"] (defScope (top 25)) := ⟨rfl, rfl, rfl, by decide +kernel, rfl, by decide +kernel, by decide +kernel⟩

def spTimes (K : PySem.W.Frag) : Sp := fun vs H Q _ => ∃ d v1 v2 x y, vs = [.int d, v1, v2] ∧ Nu K H v1 x ∧ Nu K H v2 y ∧ d.natAbs < 2 ^ 5 ∧ Mf.Sm 2000 x ∧ Mf.Sm 2000 y ∧ Told H (Mf.timesN d x y) Q
theorem ok_times (T : Txt K mg) (D : Df K mg "times" 25) (c_lowest : C8.Cal P w K mg base 2 "lowest" spLow []) : C8.Cal P w K mg base 3 "times" (spTimes K) [] := by
  refine mk_cal D sc_times (fun vs H Q E h => ?_) (fun _ _ _ _ _ _ us hl => match us, hl with | [_, _, _], _ => rfl) (fun cdv A outer s f H vs Q E hr h => ?_)
  · obtain ⟨d, v1, v2, x, y, rfl, _⟩ := h
    rfl
  · obtain ⟨d, _, _, x, y, rfl, ⟨p1, rfl, h1⟩, ⟨p2, rfl, h2⟩, hd, ⟨a1, b1, c1, d1⟩, ⟨a2, b2, c2, d2⟩, q⟩ := h
    refine ⟨_, (pss_one (ps_ret (C8.pe_c c_lowest hr (by decide) (by rfl) (pa_cons (pe_op op_add (pe_op op_mulW (pe_ix ix_tup (pv 1) pe_int (fun _ _ => rfl)) (pe_ix ix_tup (pv 2) pe_int (fun _ _ => rfl))) (pe_op op_mulW (pe_op op_mulW (pv 0) (pe_ix ix_tup (pv 1) pe_int (fun _ _ => rfl))) (pe_ix ix_tup (pv 2) pe_int (fun _ _ => rfl)))) (pa_cons (pe_op op_add (pe_op op_mulW (pe_ix ix_tup (pv 1) pe_int (fun _ _ => rfl)) (pe_ix ix_tup (pv 2) pe_int (fun _ _ => rfl))) (pe_op op_mulW (pe_ix ix_tup (pv 1) pe_int (fun _ _ => rfl)) (pe_ix ix_tup (pv 2) pe_int (fun _ _ => rfl)))) (pa_cons (pe_op op_mulW (pe_ix ix_tup (pv 1) pe_int (fun _ _ => rfl)) (pe_ix ix_tup (pv 2) pe_int (fun _ _ => rfl))) pa_nil)))))), ?_⟩
    have m : ∀ {a b : Int}, a.natAbs < 2 ^ 2000 → b.natAbs < 2 ^ 2000 → CMulW a b := fun ha hb => sm_mul ha hb (by decide) (by decide)
    have md : CMulW d x.b := wide_mul hd b1 (by decide) (by decide) (by decide)
    have me : CMulW (d * x.b) y.b := wide_mul (wide_lt hd b1) b2 (by decide) (by decide) (by decide)
    refine ⟨_, rfl, p1, _, 0, _, rfl, rfl, h1.sq, at0 x, _, rfl, p2, _, 0, _, rfl, rfl, h2.sq, at0 y, _, _, rfl, rfl, m a1 a2,
      _, rfl, _, rfl, p1, _, 1, _, rfl, rfl, h1.sq, at1 x, _, _, rfl, rfl, md, _, rfl, p2, _, 1, _, rfl, rfl, h2.sq, at1 y, _, _, rfl, rfl, me, _, _, rfl, rfl, ?_⟩
    refine ⟨_, rfl, p1, _, 0, _, rfl, rfl, h1.sq, at0 x, _, rfl, p2, _, 1, _, rfl, rfl, h2.sq, at1 y, _, _, rfl, rfl, m a1 b2,
      _, rfl, p1, _, 1, _, rfl, rfl, h1.sq, at1 x, _, rfl, p2, _, 0, _, rfl, rfl, h2.sq, at0 y, _, _, rfl, rfl, m b1 a2, _, _, rfl, rfl, ?_⟩
    refine ⟨_, rfl, p1, _, 2, _, rfl, rfl, h1.sq, at2 x, _, rfl, p2, _, 2, _, rfl, rfl, h2.sq, at2 y, _, _, rfl, rfl, m d1 d2, ?_⟩
    exact ⟨_, _, _, rfl, Int.mul_pos c1 c2, mulc_lt d1 d2, q⟩
end
end MfW
namespace MfW
open PySem PySem.Spec PyProof.Rows L2
/-! ### comprehensions whose turns change nothing that stood -/
/-- the list so far: as many items as turns, each as it should be -/
def Made (Y : Nat → V → Hp → Prop) (D : Addr) (n : Nat) (H : Hp) : Prop := ∃ acc, H D = some (.lst acc) ∧ acc.length = n ∧ ∀ j v, acc[j]? = some v → Y j v H
theorem made_more {Y : Nat → V → Hp → Prop} (hY : ∀ i v H H', TL H H' → Y i v H → Y i v H') {D : Addr} {n : Nat} {H H4 : Hp} {y : V} {acc : List V} (h1 : H D = some (.lst acc)) (h2 : acc.length = n) (h3 : ∀ j v, acc[j]? = some v → Y j v H) (s : Same H H4) (hy : Y n y H4) :
    Made Y D (n + 1) (upd H4 D (.lst (acc ++ [y]))) := by
  have t : TL H4 (upd H4 D (.lst (acc ++ [y]))) := .put (s _ _ h1)
  refine ⟨_, upd_same, by rw [List.length_append, List.length_singleton, h2], fun j v e => ?_⟩
  by_cases hj : j < acc.length
  · rw [List.getElem?_append_left hj] at e
    exact hY _ _ _ _ t (hY _ _ _ _ (.of s) (h3 j v e))
  · have hj2 : j = n := by
      have := (List.getElem?_eq_some_iff.mp e).1
      rw [List.length_append, List.length_singleton] at this
      omega
    subst hj2
    rw [List.getElem?_append_right (by omega), h2, Nat.sub_self] at e
    cases e
    exact hY _ _ _ _ t hy
theorem same_put {H1 H H4 : Hp} {D : Addr} {o : HO} (s1 : Same H1 H) (s : Same H H4) (hD : H1 D = none) : Same H1 (upd H4 D o) := fun b x e => by
  rw [upd_ne (ne_of_none e hD)]
  exact s _ _ (s1 _ _ e)
theorem made_nil {Y : Nat → V → Hp → Prop} {D : Addr} {H1 : Hp} : Made Y D 0 (upd H1 D (.lst [])) := ⟨[], upd_same, rfl, fun j v e => by simp at e⟩
/-- over a tuple -/
theorem lc_tupM {K : PySem.W.Frag} {a : Addr} {xs : List V} {g : TG} {te : TE} {vs : List Nat} {σ : L2.St} {H1 : Hp} {D : Addr} {Qd : Hp → Prop} (Y : Nat → V → Hp → Prop) (hY : ∀ i v H H', TL H H' → Y i v H → Y i v H') (hD : H1 D = none) (ha : TupAt K H1 a xs) (hn : xs.length < sizeLine)
    (hs : ∀ (i : Nat) (x : V) (H : Hp) (N : V → Hp → Prop), xs[i]? = some x → Same H1 H → (∀ y H4, Same H H4 → Y i y H4 → N y H4) → g x (wipe σ vs) H fun σ2 H2 => wipe σ2 vs = wipe σ vs ∧ te σ2 H2 N)
    (hd : ∀ H, Same H1 H → Made Y D xs.length H → Qd H) :
    ∃ W : Nat → Nat → Hp → Prop, (∃ m, W 0 m (upd H1 D (.lst []))) ∧ ∀ i m H, W i m H →
      ((Itt K a).stop i H ∧ Qd H) ∨ ((Itt K a).go i H ∧ ∃ Nx : Hp → Prop, (∀ H', Nx H' → ∃ m', m' < m ∧ W (i + 1) m' H') ∧ ∀ x H', (Itt K a).yld i H x H' → g x (wipe σ vs) H' fun σ2 H2 => wipe σ2 vs = wipe σ vs ∧ tYes σ2 H2 fun b H3 =>
        if b = true then te σ2 H3 fun y H4 => ∃ acc, H4 D = some (.lst acc) ∧ acc.length < sizeLine ∧ Nx (upd H4 D (.lst (acc ++ [y]))) else Nx H3) := by
  refine lc_tup (xs := xs) (fun i H => i ≤ xs.length ∧ Same H1 H ∧ Made Y D i H) ⟨Nat.zero_le _, same_new hD, made_nil⟩ (fun i H _ ⟨_, s, _⟩ => (TL.tup (.of s) ha).sq) (fun i x H hx ⟨hi, s, acc, h1, h2, h3⟩ => ?_) fun H ⟨_, s, m⟩ => hd H s m
  have hlt := (List.getElem?_eq_some_iff.mp hx).1
  have q := hs i x H (fun y H4 => ∃ acc, H4 D = some (.lst acc) ∧ acc.length < sizeLine ∧ (i + 1 ≤ xs.length ∧ Same H1 (upd H4 D (.lst (acc ++ [y]))) ∧ Made Y D (i + 1) (upd H4 D (.lst (acc ++ [y]))))) hx s fun y H4 s4 hy =>
    ⟨acc, s4 _ _ h1, by omega, hlt, same_put s s4 hD, made_more hY h1 h2 h3 s4 hy⟩
  simpa only [tYes, if_true] using q
/-- over a list that stands -/
theorem lc_listM {K : PySem.W.Frag} {a : Addr} {xs : List V} {g : TG} {te : TE} {vs : List Nat} {σ : L2.St} {H1 : Hp} {D : Addr} {Qd : Hp → Prop} (Y : Nat → V → Hp → Prop) (hY : ∀ i v H H', TL H H' → Y i v H → Y i v H') (hD : H1 D = none) (ha : H1 a = some (.lst xs)) (hn : xs.length < sizeLine)
    (hs : ∀ (i : Nat) (x : V) (H : Hp) (N : V → Hp → Prop), xs[i]? = some x → Same H1 H → (∀ y H4, Same H H4 → Y i y H4 → N y H4) → g x (wipe σ vs) H fun σ2 H2 => wipe σ2 vs = wipe σ vs ∧ te σ2 H2 N)
    (hd : ∀ H, Same H1 H → Made Y D xs.length H → Qd H) :
    ∃ W : Nat → Nat → Hp → Prop, (∃ m, W 0 m (upd H1 D (.lst []))) ∧ ∀ i m H, W i m H →
      ((Itl K a).stop i H ∧ Qd H) ∨ ((Itl K a).go i H ∧ ∃ Nx : Hp → Prop, (∀ H', Nx H' → ∃ m', m' < m ∧ W (i + 1) m' H') ∧ ∀ x H', (Itl K a).yld i H x H' → g x (wipe σ vs) H' fun σ2 H2 => wipe σ2 vs = wipe σ vs ∧ tYes σ2 H2 fun b H3 =>
        if b = true then te σ2 H3 fun y H4 => ∃ acc, H4 D = some (.lst acc) ∧ acc.length < sizeLine ∧ Nx (upd H4 D (.lst (acc ++ [y]))) else Nx H3) := by
  refine lc_list (xs := xs) (fun i H => i ≤ xs.length ∧ Same H1 H ∧ Made Y D i H) ⟨Nat.zero_le _, same_new hD, made_nil⟩ (fun i H _ ⟨_, s, _⟩ => SqL.of (s _ _ ha)) (fun i x H hx ⟨hi, s, acc, h1, h2, h3⟩ => ?_) fun H ⟨_, s, m⟩ => hd H s m
  have hlt := (List.getElem?_eq_some_iff.mp hx).1
  have q := hs i x H (fun y H4 => ∃ acc, H4 D = some (.lst acc) ∧ acc.length < sizeLine ∧ (i + 1 ≤ xs.length ∧ Same H1 (upd H4 D (.lst (acc ++ [y]))) ∧ Made Y D (i + 1) (upd H4 D (.lst (acc ++ [y]))))) hx s fun y H4 s4 hy =>
    ⟨acc, s4 _ _ h1, by omega, hlt, same_put s s4 hD, made_more hY h1 h2 h3 s4 hy⟩
  simpa only [tYes, if_true] using q
/-- a list of truths, by what each is -/
theorem made_bools {b : Nat → Bool} {D : Addr} {n : Nat} {H : Hp} (h : Made (fun i v _ => v = .bl (b i)) D n H) : H D = some (.lst (((List.range n).map b).map V.bl)) := by
  obtain ⟨acc, h1, h2, h3⟩ := h
  rw [h1]
  refine congrArg (fun l => some (HO.lst l)) (List.ext_getElem? fun j => ?_)
  by_cases hj : j < n
  · have e : acc[j]? = some acc[j] := List.getElem?_eq_getElem (by omega)
    have e2 : acc[j] = .bl (b j) := h3 j _ e
    rw [e, e2, List.getElem?_map, List.getElem?_map, List.getElem?_range hj]
    rfl
  · rw [List.getElem?_eq_none (by omega), List.getElem?_eq_none (by rw [List.length_map, List.length_map, List.length_range]; omega)]
section
variable {P : Program} {w : World} {K : PySem.W.Frag} {mg : Str → Option Value} {base : Heap}
/-! ### mate, contrary_sign, less -/
abbrev N_mate : List Str := ["x", "a", "b", "c"]
theorem sc_mate : FnScope N_mate ["x"] (defScope (top 21)) := ⟨rfl, rfl, rfl, by decide +kernel, rfl, by decide +kernel, by decide +kernel⟩

def spMate (K : PySem.W.Frag) : Sp := fun vs H Q _ => ∃ v x, vs = [v] ∧ Nu K H v x ∧ Told H (Mf.mateN x) Q
theorem ok_mate (D : Df K mg "mate" 21) : C8.Cal P w K mg base 1 "mate" (spMate K) [] := by
  refine mk_cal D sc_mate (fun vs H Q E h => ?_) (fun _ _ _ _ _ _ us hl => match us, hl with | [_], _ => rfl) (fun cdv A outer s f H vs Q E hr h => ?_)
  · obtain ⟨v, x, rfl, _⟩ := h
    rfl
  · obtain ⟨_, x, rfl, ⟨p, rfl, h1⟩, q⟩ := h
    refine ⟨_, (pss_cons (ps_asg (pv 0) (pg_tup rfl (pgs_cons (pg_name (i := 1) sc_mate.nd rfl (Or.inl rfl)) (pgs_cons (pg_name (i := 2) sc_mate.nd rfl (Or.inl rfl)) (pgs_cons (pg_name (i := 3) sc_mate.nd rfl (Or.inl rfl)) pgs_nil)))))
      (pss_one (ps_ret (pe_tup (pa_cons (pv 1) (pa_cons (pe_op op_sub pe_int (pv 2)) (pa_cons (pv 3) pa_nil))))))), ?_⟩
    refine ⟨_, rfl, p, _, rfl, h1.sq, rfl, _, _, rfl, _, _, rfl, _, _, rfl, rfl, ?_⟩
    refine ⟨_, rfl, _, rfl, _, _, rfl, rfl, _, rfl, by show 3 ≤ sizeLine; decide, fun p np => ?_⟩
    exact q _ _ (same_new np) ⟨p, rfl, upd_same⟩
abbrev N_contrary_sign : List Str := ["x"]
theorem sc_contrary_sign : FnScope N_contrary_sign ["x"] (defScope (top 23)) := ⟨rfl, rfl, rfl, by decide +kernel, rfl, by decide +kernel, by decide +kernel⟩

def spNeg (K : PySem.W.Frag) : Sp := fun vs H Q _ => ∃ v x, vs = [v] ∧ Nu K H v x ∧ Told H (Mf.negN x) Q
theorem ok_contrary (D : Df K mg "contrary_sign" 23) : C8.Cal P w K mg base 1 "contrary_sign" (spNeg K) [] := by
  refine mk_cal D sc_contrary_sign (fun vs H Q E h => ?_) (fun _ _ _ _ _ _ us hl => match us, hl with | [_], _ => rfl) (fun cdv A outer s f H vs Q E hr h => ?_)
  · obtain ⟨v, x, rfl, _⟩ := h
    rfl
  · obtain ⟨_, x, rfl, ⟨p, rfl, h1⟩, q⟩ := h
    refine ⟨_, (pss_one (ps_ret (pe_tup (pa_cons (pe_op op_sub pe_int (pe_ix ix_tup (pv 0) pe_int (fun _ _ => rfl))) (pa_cons (pe_op op_sub pe_int (pe_ix ix_tup (pv 0) pe_int (fun _ _ => rfl))) (pa_cons (pe_ix ix_tup (pv 0) pe_int (fun _ _ => rfl)) pa_nil)))))), ?_⟩
    refine ⟨_, rfl, p, _, 0, _, rfl, rfl, h1.sq, at0 x, _, _, rfl, rfl, _, rfl, p, _, 1, _, rfl, rfl, h1.sq, at1 x, _, _, rfl, rfl, _, rfl, p, _, 2, _, rfl, rfl, h1.sq, at2 x, by show 3 ≤ sizeLine; decide, fun p np => ?_⟩
    exact q _ _ (same_new np) ⟨p, rfl, upd_same⟩
theorem sm_neg {n : Nat} {x : Mf.N3} (h : Mf.Sm n x) : Mf.Sm n (Mf.negN x) := by
  obtain ⟨a, b, c, d⟩ := h
  refine ⟨?_, ?_, c, d⟩
  · show (0 - x.a).natAbs < _
    rw [Int.zero_sub, Int.natAbs_neg]
    exact a
  · show (0 - x.b).natAbs < _
    rw [Int.zero_sub, Int.natAbs_neg]
    exact b
abbrev N_less : List Str := ["x", "y"]
theorem sc_less : FnScope N_less ["x", "y"] (defScope (top 24)) := ⟨rfl, rfl, rfl, by decide +kernel, rfl, by decide +kernel, by decide +kernel⟩

def spLess (K : PySem.W.Frag) : Sp := fun vs H Q _ => ∃ v1 v2 x y, vs = [v1, v2] ∧ Nu K H v1 x ∧ Nu K H v2 y ∧ Mf.Sm 2000 x ∧ Mf.Sm 2000 y ∧ Told H (Mf.subN x y) Q
theorem ok_less (D : Df K mg "less" 24) (c_plus : C8.Cal P w K mg base 3 "plus" (spPlus K) []) (c_contrary_sign : C8.Cal P w K mg base 1 "contrary_sign" (spNeg K) []) : C8.Cal P w K mg base 4 "less" (spLess K) [] := by
  refine mk_cal D sc_less (fun vs H Q E h => ?_) (fun _ _ _ _ _ _ us hl => match us, hl with | [_, _], _ => rfl) (fun cdv A outer s f H vs Q E hr h => ?_)
  · obtain ⟨v1, v2, x, y, rfl, _⟩ := h
    rfl
  · obtain ⟨v1, v2, x, y, rfl, h1, h2, s1, s2, q⟩ := h
    refine ⟨_, (pss_one (ps_ret (C8.pe_c c_plus hr (by decide) (by rfl) (pa_cons (pv 0) (pa_cons (C8.pe_c c_contrary_sign hr (by decide) (by rfl) (pa_cons (pv 1) pa_nil)) pa_nil))))), ?_⟩
    refine ⟨_, rfl, _, rfl, v2, y, rfl, h2, fun H1 v e1 n1 => ?_⟩
    exact ⟨v1, v, x, _, rfl, TL.nu (.of e1) h1, n1.nu, s1, sm_neg s2, fun H2 u e2 n2 => q _ _ (e1.trans e2) n2⟩
/-! ### sign_of, is_above -/
abbrev N_sign_of : List Str := ["d", "x", "a", "b", "c", "first", "second", "both"]
theorem sc_sign_of : FnScope N_sign_of ["d", "x"] (defScope (top 26)) := ⟨rfl, rfl, rfl, by decide +kernel, rfl, by decide +kernel, by decide +kernel⟩

def spSign (K : PySem.W.Frag) : Sp := fun vs H Q _ => ∃ d v x, vs = [.int d, v] ∧ Nu K H v x ∧ d.natAbs < 2 ^ 5 ∧ Mf.Sm 2000 x ∧ Q (.int (Mf.sgnN d x)) H
theorem natAbs_if (a : Int) : (if a < 0 then -a else a).natAbs = a.natAbs := by
  split <;> omega
theorem ok_sign (T : Txt K mg) (D : Df K mg "sign_of" 26) : C8.Cal P w K mg base 1 "sign_of" (spSign K) [] := by
  refine mk_cal D sc_sign_of (fun vs H Q E h => ?_) (fun _ _ _ _ _ _ us hl => match us, hl with | [_, _], _ => rfl) (fun cdv A outer s f H vs Q E hr h => ?_)
  · obtain ⟨d, v, x, rfl, _⟩ := h
    rfl
  · obtain ⟨d, _, x, rfl, ⟨p, rfl, h1⟩, hd, ⟨a1, b1, c1, d1⟩, q⟩ := h
    refine ⟨_, (pss_cons (ps_asg (pv 1) (pg_tup rfl (pgs_cons (pg_name (i := 2) sc_sign_of.nd rfl (Or.inl rfl)) (pgs_cons (pg_name (i := 3) sc_sign_of.nd rfl (Or.inl rfl)) (pgs_cons (pg_name (i := 4) sc_sign_of.nd rfl (Or.inl rfl)) pgs_nil)))))
      (pss_cons (ps_par (i := 5) (j := 6) (by rfl) sc_sign_of.nd rfl rfl (by decide) rfl rfl (pa_cons (pe_op op_mulW (pv 2) (pe_callB call_abs (by rfl) T.abs (by decide +kernel) (pa_cons (pv 2) pa_nil))) (pa_cons (pe_op op_mulW (pe_op op_mulW (pv 0) (pv 3)) (pe_callB call_abs (by rfl) T.abs (by decide +kernel) (pa_cons (pv 3) pa_nil))) pa_nil)) (by rfl))
      (pss_cons (ps_set (i := 7) sc_sign_of.nd rfl (Or.inl rfl) (pe_op op_add (pv 5) (pv 6)))
      (pss_one (ps_ret (pe_op op_sub (pe_callTy call_int1 (by rfl) T.int (by decide +kernel) (pa_cons (pe_cmpR op_gt (pv 7) pe_int (nomark _)) pa_nil)) (pe_callTy call_int1 (by rfl) T.int (by decide +kernel) (pa_cons (pe_cmpR op_lt (pv 7) pe_int (nomark _)) pa_nil)))))))), ?_⟩
    have m1 : CMulW x.a (if x.a < 0 then -x.a else x.a) := sm_mul a1 (by rw [natAbs_if]; exact a1) (by decide) (by decide)
    have m2 : CMulW d x.b := wide_mul hd b1 (by decide) (by decide) (by decide)
    have m3 : CMulW (d * x.b) (if x.b < 0 then -x.b else x.b) := wide_mul (wide_lt hd b1) (by rw [natAbs_if]; exact b1) (by decide) (by decide) (by decide)
    refine ⟨_, rfl, p, _, rfl, h1.sq, rfl, _, _, rfl, _, _, rfl, _, _, rfl, rfl, ?_⟩
    refine ⟨_, rfl, _, rfl, _, rfl, _, _, rfl, rfl, m1, _, rfl, _, rfl, _, _, rfl, rfl, m2, _, rfl, _, rfl, _, _, rfl, rfl, m3, _, _, rfl, ?_⟩
    refine ⟨_, rfl, _, rfl, _, _, rfl, rfl, ?_⟩
    refine ⟨_, rfl, _, _, rfl, rfl, .inr ⟨_, rfl, _, rfl, _, _, rfl, rfl, .inr ⟨_, rfl, _, _, rfl, rfl, ?_⟩⟩⟩
    exact q
/-- whether one is above another one -/
noncomputable def abv {r : Mf.Rt} (x y : Mf.F r) : Bool := @decide (y < x) (Classical.propDecidable _)
theorem abv_iff {r : Mf.Rt} {x y : Mf.F r} : abv x y = true ↔ y < x := by
  unfold abv
  exact @decide_eq_true_iff _ (Classical.propDecidable _)
abbrev N_is_above : List Str := ["d", "x", "y"]
theorem sc_is_above : FnScope N_is_above ["d", "x", "y"] (defScope (top 27)) := ⟨rfl, rfl, rfl, by decide +kernel, rfl, by decide +kernel, by decide +kernel⟩

theorem plus_sm {n : Nat} {x y : Mf.N3} (hx : Mf.Sm n x) (hy : Mf.Sm n y) (hm : n + n + 1 ≤ 2000) : Mf.Sm 2000 (Mf.plusN x y) := by
  obtain ⟨a1, b1, c1, d1⟩ := hx
  obtain ⟨a2, b2, c2, d2⟩ := hy
  have hc : x.c * y.c ≠ 0 := Mf.mul_ne (by omega) (by omega)
  obtain ⟨g, g0, ea, eb, ec, hp, _⟩ := Mf.low_eq (a := x.a * y.c + y.a * x.c) (b := x.b * y.c + y.b * x.c) hc
  have sz : ∀ {u z : Int}, u = g * z → z.natAbs ≤ u.natAbs := fun {u z} e => by
    rw [e, Int.natAbs_mul]
    exact Nat.le_mul_of_pos_left _ (by omega)
  have e2 : 2 ^ (n + n + 1) = 2 ^ (n + n) * 2 := Nat.pow_succ ..
  have lp : (2 : Nat) ^ (n + n + 1) ≤ 2 ^ 2000 := Nat.pow_le_pow_right (by decide) hm
  have q1 := sz ea
  have q2 := sz eb
  have q3 := sz ec
  have t1 : (x.a * y.c).natAbs < 2 ^ (n + n) := wide_lt a1 d2
  have t2 : (y.a * x.c).natAbs < 2 ^ (n + n) := wide_lt a2 d1
  have t3 : (x.b * y.c).natAbs < 2 ^ (n + n) := wide_lt b1 d2
  have t4 : (y.b * x.c).natAbs < 2 ^ (n + n) := wide_lt b2 d1
  have t5 : (x.c * y.c).natAbs < 2 ^ (n + n) := wide_lt d1 d2
  have k : ∀ {u z : Nat}, u ≤ z → z < 2 ^ (n + n) + 2 ^ (n + n) → u < 2 ^ 2000 := fun h1 h2 => by
    refine Nat.lt_of_lt_of_le ?_ lp
    rw [e2]
    generalize (2 : Nat) ^ (n + n) = B0 at *
    omega
  exact ⟨k q1 (by omega), k q2 (by omega), hp, k q3 (by omega)⟩
theorem sm_mono {n m : Nat} {x : Mf.N3} (h : Mf.Sm n x) (hm : n ≤ m) : Mf.Sm m x := by
  obtain ⟨a, b, c, d⟩ := h
  have lp : (2 : Nat) ^ n ≤ 2 ^ m := Nat.pow_le_pow_right (by decide) hm
  exact ⟨by omega, by omega, c, by omega⟩
structure RtOk (r : Mf.Rt) : Prop where
  le : r.d ≤ 30
theorem RtOk.d5 {r : Mf.Rt} (h : RtOk r) : r.d.natAbs < 2 ^ 5 := by
  have := h.le
  have := r.pos
  omega
def spAbove (K : PySem.W.Frag) : Sp := fun vs H Q _ => ∃ (r : Mf.Rt) (v1 v2 : V) (x y : Mf.N3), vs = [.int r.d, v1, v2] ∧ RtOk r ∧ Nu K H v1 x ∧ Nu K H v2 y ∧ Mf.Nm x ∧ Mf.Nm y ∧ Mf.Sm 900 x ∧ Mf.Sm 900 y ∧ ∀ H', Same H H' → Q (.bl (abv (Mf.val r x) (Mf.val r y))) H'
theorem sgn_abv {r : Mf.Rt} {x y : Mf.N3} (hx : Mf.Nm x) (hy : Mf.Nm y) : decide (0 < Mf.sgnN r.d (Mf.subN x y)) = abv (Mf.val r x) (Mf.val r y) := by
  rw [Bool.eq_iff_iff, decide_eq_true_iff, abv_iff, Mf.sgn_pos (Mf.sub_nm hx hy).1, Mf.sub_val hx hy]
  constructor <;> intro h <;> grind
theorem ok_above (D : Df K mg "is_above" 27) (c_sign_of : C8.Cal P w K mg base 1 "sign_of" (spSign K) []) (c_less : C8.Cal P w K mg base 4 "less" (spLess K) []) : C8.Cal P w K mg base 5 "is_above" (spAbove K) [] := by
  refine mk_cal D sc_is_above (fun vs H Q E h => ?_) (fun _ _ _ _ _ _ us hl => match us, hl with | [_, _, _], _ => rfl) (fun cdv A outer s f H vs Q E hr h => ?_)
  · obtain ⟨r, v1, v2, x, y, rfl, _⟩ := h
    rfl
  · obtain ⟨r, v1, v2, x, y, rfl, hr5, h1, h2, n1, n2, s1, s2, q⟩ := h
    refine ⟨_, (pss_one (ps_ret (pe_cmpR op_gt (C8.pe_c c_sign_of hr (by decide) (by rfl) (pa_cons (pv 0) (pa_cons (C8.pe_c c_less hr (by decide) (by rfl) (pa_cons (pv 1) (pa_cons (pv 2) pa_nil))) pa_nil))) pe_int (nomark _)))), ?_⟩
    refine ⟨_, rfl, _, rfl, _, rfl, v1, v2, x, y, rfl, h1, h2, sm_mono s1 (by decide), sm_mono s2 (by decide), fun H1 v e1 nv => ?_⟩
    refine ⟨_, v, _, rfl, nv.nu, hr5.d5, plus_sm s1 (sm_neg s2) (by decide), _, _, rfl, rfl, ?_⟩
    show Q (.bl (decide (0 < Mf.sgnN r.d (Mf.subN x y)))) H1
    rw [sgn_abv n1 n2]
    exact q _ e1
end
end MfW
namespace MfW
open PySem PySem.Spec PyProof.Rows L2
theorem ifT {c : Bool} {A B : Prop} (h : c = true) (x : A) : if c = true then A else B := by
  rw [if_pos h]
  exact x
theorem ifF {c : Bool} {A B : Prop} (h : c = false) (x : B) : if c = true then A else B := by
  rw [if_neg (by rw [h]; exact Bool.false_ne_true)]
  exact x
theorem ifB {c : Bool} {A B : Prop} (h1 : c = true → A) (h2 : c = false → B) : if c = true then A else B := by
  cases c with
  | true => exact ifT rfl (h1 rfl)
  | false => exact ifF rfl (h2 rfl)
section
variable {P : Program} {w : World} {K : PySem.W.Frag} {mg : Str → Option Value} {base : Heap}
abbrev N_is_whole : List Str := ["thing"]
theorem sc_is_whole : FnScope N_is_whole ["thing"] (defScope (top 17)) := ⟨rfl, rfl, rfl, by decide +kernel, rfl, by decide +kernel, by decide +kernel⟩

def spWhole : Sp := fun vs H Q _ => ∃ i : Int, vs = [.int i] ∧ Q (.bl true) H
theorem ok_whole (T : Txt K mg) (D : Df K mg "is_whole" 17) : C8.Cal P w K mg base 1 "is_whole" spWhole [] := by
  refine mk_cal D sc_is_whole (fun vs H Q E h => ?_) (fun _ _ _ _ _ _ us hl => match us, hl with | [_], _ => rfl) (fun cdv A outer s f H vs Q E hr h => ?_)
  · obtain ⟨i, rfl, _⟩ := h
    rfl
  · obtain ⟨i, rfl, q⟩ := h
    refine ⟨_, (pss_one (ps_ret (pe_and (pe_callB call_isi (by rfl) T.isi (by decide +kernel) (pa_cons (pv 0) (pa_cons (pe_bltn (v := .ty "int") (by rfl) T.int (by decide +kernel) rfl) pa_nil))) (pe_one (pe_not (pe_callB call_isi (by rfl) T.isi (by decide +kernel) (pa_cons (pv 0) (pa_cons (pe_bltn (v := .ty "bool") (by rfl) T.bool (by decide +kernel) rfl) pa_nil)))))))), ?_⟩
    refine ⟨_, rfl, _, _, .type "int", .type "int", true, rfl, .ty _, .base (.int i), kit_ty (by decide +kernel), _, rfl, iteT ?_⟩
    exact ⟨_, rfl, _, _, .type "int", .type "bool", false, rfl, .ty _, .base (.int i), kit_ty (by decide +kernel), _, rfl, q⟩
abbrev N_is_number : List Str := ["thing", "part", "a", "b", "c"]
theorem sc_is_number : FnScope N_is_number ["thing"] (defScope (top 19)) := ⟨rfl, rfl, rfl, by decide +kernel, rfl, by decide +kernel, by decide +kernel⟩

def spNumber : Sp := fun vs H Q _ => ∃ v x, vs = [v] ∧ NuH H v x ∧ Mf.Nm x ∧ ∀ H', Same H H' → Q (.bl true) H'
theorem ok_number (T : Txt K mg) (D : Df K mg "is_number" 19) (c_is_whole : C8.Cal P w K mg base 1 "is_whole" spWhole []) (c_shared : C8.Cal P w K mg base 1 "shared" spShared []) : C8.Cal P w K mg base 2 "is_number" spNumber [] := by
  refine mk_cal D sc_is_number (fun vs H Q E h => ?_) (fun _ _ _ _ _ _ us hl => match us, hl with | [_], _ => rfl) (fun cdv A outer s f H vs Q E hr h => ?_)
  · obtain ⟨v, x, rfl, _⟩ := h
    rfl
  · obtain ⟨_, x, rfl, ⟨p, rfl, h1⟩, hn, q⟩ := h
    refine ⟨_, (pss_cons (ps_if (PW.pt (pw_or (pt_not (pt_val (pe_callB call_isi (by rfl) T.isi (by decide +kernel) (pa_cons (pv 0) (pa_cons (pe_bltn (v := .ty "tuple") (by rfl) T.tuple (by decide +kernel) rfl) pa_nil))))) (pw_or (pt_cmpR op_ne (pe_callB call_len (by rfl) T.len (by decide +kernel) (pa_cons (pv 0) pa_nil)) pe_int (nomark _)) (pw_or1 (pt_not (pt_val (pe_callB (cr_all rfl) (by rfl) T.all (by decide +kernel) (pa_cons (pe_lc (own := [("part", 1)]) rfl sc_is_number.nd (pi_tup (pv 0)) (blkOk_by (own := [("part", 1)]) (N := N_is_number) (sc := defScope (top 19)) (by decide +kernel)) (fun _ _ _ _ _ => (pg_name (i := 1) sc_is_number.nd rfl (Or.inl rfl))) (fun _ _ _ _ _ => pts_nil) (fun _ _ _ _ _ => (C8.pe_c c_is_whole hr (by decide) (by rfl) (pa_cons (pv 1) pa_nil)))) pa_nil)))))))) (pss_one (ps_ret pe_bl)) pss_nil)
      (pss_cons (ps_asg (pv 0) (pg_tup rfl (pgs_cons (pg_name (i := 2) sc_is_number.nd rfl (Or.inl rfl)) (pgs_cons (pg_name (i := 3) sc_is_number.nd rfl (Or.inl rfl)) (pgs_cons (pg_name (i := 4) sc_is_number.nd rfl (Or.inl rfl)) pgs_nil)))))
      (pss_one (ps_ret (pe_and (pe_cmpR op_ge (pv 4) pe_int (nomark _)) (pe_one (pe_cmpR op_eq (C8.pe_c c_shared hr (by decide) (by rfl) (pa_cons (C8.pe_c c_shared hr (by decide) (by rfl) (pa_cons (pv 2) (pa_cons (pv 3) pa_nil))) (pa_cons (pv 4) pa_nil))) pe_int (nomark _)))))))), ?_⟩
    refine ⟨_, rfl, _, _, .type "tuple", .type "tuple", true, rfl, .ty _, .base (.tup h1), kit_ty (by decide +kernel), _, rfl, iteF ?_⟩
    refine ⟨_, rfl, _, 3, rfl, .inr ⟨_, SqT.of h1, rfl⟩, rfl, _, rfl, iteNS rfl ?_⟩
    refine ⟨_, rfl, p, rfl, ⟨_, SqT.of h1⟩, fun D hD => ?_⟩
    refine lc_tupM (xs := n3v x) (fun i v _ => v = .bl ((fun _ => true) i)) (fun i v H H' _ h => h) hD (.inl h1) (by show 3 < sizeLine; decide) (fun i y H2 N hy s2 k => ?_) (fun H2 s2 m => ?_)
    · refine ⟨rfl, ?_⟩
      have : ∃ z, y = .int z := by
        match i, hy with
        | 0, e => exact ⟨_, (Option.some.inj e).symm⟩
        | 1, e => exact ⟨_, (Option.some.inj e).symm⟩
        | 2, e => exact ⟨_, (Option.some.inj e).symm⟩
      obtain ⟨z, rfl⟩ := this
      exact ⟨_, rfl, z, rfl, k _ _ (Same.refl _) rfl⟩
    · refine ⟨D, _, rfl, SqL.of (made_bools m), _, rfl, iteF ?_⟩
      have h2 := s2 _ _ h1
      refine ⟨_, rfl, p, _, rfl, SqT.of h2, rfl, _, _, rfl, _, _, rfl, _, _, rfl, rfl, ?_⟩
      refine ⟨_, rfl, _, _, rfl, rfl, _, rfl, ifT (decide_eq_true (by have := hn.1; omega)) ?_⟩
      refine ⟨_, rfl, _, rfl, _, _, rfl, _, rfl, _, _, rfl, rfl, ?_⟩
      have e : ((Int.gcd ((Int.gcd x.a x.b : Nat) : Int) x.c : Nat) : Int) = 1 := hn.2
      rw [e, decide_eq_true rfl]
      exact q _ s2
abbrev N_is_above_nought : List Str := ["d", "thing"]
theorem sc_is_above_nought : FnScope N_is_above_nought ["d", "thing"] (defScope (top 28)) := ⟨rfl, rfl, rfl, by decide +kernel, rfl, by decide +kernel, by decide +kernel⟩

def spAboveN : Sp := fun vs H Q _ => ∃ (r : Mf.Rt) (v : V) (x : Mf.N3), vs = [.int r.d, v] ∧ RtOk r ∧ NuH H v x ∧ Mf.Nm x ∧ Mf.Sm 2000 x ∧ ∀ H', Same H H' → Q (.bl (abv (Mf.val r x) 0)) H'
theorem sgn_gt {r : Mf.Rt} {x : Mf.N3} (hx : Mf.Nm x) : decide (0 < Mf.sgnN r.d x) = abv (Mf.val r x) 0 := by
  rw [Bool.eq_iff_iff, decide_eq_true_iff, abv_iff, Mf.sgn_pos hx.1]
theorem sgn_lt {r : Mf.Rt} {x : Mf.N3} (hx : Mf.Nm x) : decide (Mf.sgnN r.d x < 0) = abv 0 (Mf.val r x) := by
  rw [Bool.eq_iff_iff, decide_eq_true_iff, abv_iff, Mf.sgn_neg hx.1]
theorem ok_aboveN (D : Df K mg "is_above_nought" 28) (c_is_number : C8.Cal P w K mg base 2 "is_number" spNumber []) (c_sign_of : C8.Cal P w K mg base 1 "sign_of" (spSign K) []) : C8.Cal P w K mg base 3 "is_above_nought" spAboveN [] := by
  refine mk_cal D sc_is_above_nought (fun vs H Q E h => ?_) (fun _ _ _ _ _ _ us hl => match us, hl with | [_, _], _ => rfl) (fun cdv A outer s f H vs Q E hr h => ?_)
  · obtain ⟨r, v, x, rfl, _⟩ := h
    rfl
  · obtain ⟨r, v, x, rfl, hd, h1, hn, hs, q⟩ := h
    refine ⟨_, (pss_one (ps_ret (pe_and (C8.pe_c c_is_number hr (by decide) (by rfl) (pa_cons (pv 1) pa_nil)) (pe_one (pe_cmpR op_gt (C8.pe_c c_sign_of hr (by decide) (by rfl) (pa_cons (pv 0) (pa_cons (pv 1) pa_nil))) pe_int (nomark _)))))), ?_⟩
    refine ⟨_, rfl, v, x, rfl, h1, hn, fun H1 e1 => ⟨_, rfl, iteT ?_⟩⟩
    refine ⟨_, rfl, _, rfl, _, v, x, rfl, (TL.nuH (.of e1) h1).nu, hd.d5, hs, _, _, rfl, rfl, ?_⟩
    show Q (.bl (decide (0 < Mf.sgnN r.d x))) H1
    rw [sgn_gt hn]
    exact q _ e1
/-! ### is_tile -/
/-- what is no tile at a look -/
inductive Odd (H : Hp) : V → Prop where
  | non : Odd H .non
  | bl (b : Bool) : Odd H (.bl b)
  | int (i : Int) : Odd H (.int i)
  | str (x : Str) : Odd H (.str x)
  | lst {a : Addr} {xs : List V} (e : H a = some (.lst xs)) : Odd H (.ref a)
  | tup {a : Addr} {xs : List V} (e : H a = some (.tup xs)) (n : xs.length ≠ 4) : Odd H (.ref a)
theorem Odd.same {H H' : Hp} {v : V} (h : Odd H v) (s : Same H H') : Odd H' v := by
  cases h with
  | non => exact .non
  | bl b => exact .bl b
  | int i => exact .int i
  | str x => exact .str x
  | lst e => exact .lst (s _ _ e)
  | tup e n => exact .tup (s _ _ e) n
def t4v (v1 v2 v3 v4 : V) : List V := [v1, v2, v3, v4]
/-- a tile in the heap -/
def TileAt (H : Hp) (v : V) (t : Mf.T4) : Prop := ∃ p v1 v2 v3 v4, v = .ref p ∧ H p = some (.tup (t4v v1 v2 v3 v4)) ∧ NuH H v1 t.x ∧ NuH H v2 t.y ∧ NuH H v3 t.w ∧ NuH H v4 t.h
theorem TL.tile {H H' : Hp} {v : V} {t : Mf.T4} (l : TL H H') (h : TileAt H v t) : TileAt H' v t := by
  obtain ⟨p, v1, v2, v3, v4, e, h0, h1, h2, h3, h4⟩ := h
  exact ⟨p, v1, v2, v3, v4, e, l _ _ h0, l.nuH h1, l.nuH h2, l.nuH h3, l.nuH h4⟩
def SmT (n : Nat) (t : Mf.T4) : Prop := Mf.Sm n t.x ∧ Mf.Sm n t.y ∧ Mf.Sm n t.w ∧ Mf.Sm n t.h
noncomputable def tileB (r : Mf.Rt) (t : Mf.T4) : Bool := (!abv 0 (t.X r) && !abv 0 (t.Y r)) && (abv (t.W r) 0 && abv (t.H r) 0)
abbrev N_is_tile : List Str := ["d", "thing", "one", "x", "y", "width", "height"]
theorem sc_is_tile : FnScope N_is_tile ["d", "thing"] (defScope (top 32)) := ⟨rfl, rfl, rfl, by decide +kernel, rfl, by decide +kernel, by decide +kernel⟩

def spTile : Sp := fun vs H Q _ => ∃ (r : Mf.Rt) (v : V), vs = [.int r.d, v] ∧ RtOk r ∧ ((Odd H v ∧ Q (.bl false) H) ∨ ∃ t, TileAt H v t ∧ t.nm ∧ SmT 2000 t ∧ ∀ H', Same H H' → Q (.bl (tileB r t)) H')
theorem ok_tile (T : Txt K mg) (D : Df K mg "is_tile" 32) (c_is_number : C8.Cal P w K mg base 2 "is_number" spNumber []) (c_sign_of : C8.Cal P w K mg base 1 "sign_of" (spSign K) []) : C8.Cal P w K mg base 3 "is_tile" spTile [] := by
  refine mk_cal D sc_is_tile (fun vs H Q E h => ?_) (fun _ _ _ _ _ _ us hl => match us, hl with | [_, _], _ => rfl) (fun cdv A outer s f H vs Q E hr h => ?_)
  · obtain ⟨r, v, rfl, _⟩ := h
    rfl
  · obtain ⟨r, v, rfl, hd, h⟩ := h
    refine ⟨_, (pss_cons (ps_if (PW.pt (pw_or (pt_not (pt_val (pe_callB call_isi (by rfl) T.isi (by decide +kernel) (pa_cons (pv 1) (pa_cons (pe_bltn (v := .ty "tuple") (by rfl) T.tuple (by decide +kernel) rfl) pa_nil))))) (pw_or (pt_cmpR op_ne (pe_callB call_len (by rfl) T.len (by decide +kernel) (pa_cons (pv 1) pa_nil)) pe_int (nomark _)) (pw_or1 (pt_not (pt_val (pe_callB (cr_all rfl) (by rfl) T.all (by decide +kernel) (pa_cons (pe_lc (own := [("one", 2)]) rfl sc_is_tile.nd (pi_tup (pv 1)) (blkOk_by (own := [("one", 2)]) (N := N_is_tile) (sc := defScope (top 32)) (by decide +kernel)) (fun _ _ _ _ _ => (pg_name (i := 2) sc_is_tile.nd rfl (Or.inl rfl))) (fun _ _ _ _ _ => pts_nil) (fun _ _ _ _ _ => (C8.pe_c c_is_number hr (by decide) (by rfl) (pa_cons (pv 2) pa_nil)))) pa_nil)))))))) (pss_one (ps_ret pe_bl)) pss_nil)
      (pss_cons (ps_asg (pv 1) (pg_tup rfl (pgs_cons (pg_name (i := 3) sc_is_tile.nd rfl (Or.inl rfl)) (pgs_cons (pg_name (i := 4) sc_is_tile.nd rfl (Or.inl rfl)) (pgs_cons (pg_name (i := 5) sc_is_tile.nd rfl (Or.inl rfl)) (pgs_cons (pg_name (i := 6) sc_is_tile.nd rfl (Or.inl rfl)) pgs_nil))))))
      (pss_cons (ps_if (PW.pt (pw_or (pt_cmpR op_lt (C8.pe_c c_sign_of hr (by decide) (by rfl) (pa_cons (pv 0) (pa_cons (pv 3) pa_nil))) pe_int (nomark _)) (pw_or1 (pt_cmpR op_lt (C8.pe_c c_sign_of hr (by decide) (by rfl) (pa_cons (pv 0) (pa_cons (pv 4) pa_nil))) pe_int (nomark _))))) (pss_one (ps_ret pe_bl)) pss_nil)
      (pss_one (ps_ret (pe_and (pe_cmpR op_gt (C8.pe_c c_sign_of hr (by decide) (by rfl) (pa_cons (pv 0) (pa_cons (pv 5) pa_nil))) pe_int (nomark _)) (pe_one (pe_cmpR op_gt (C8.pe_c c_sign_of hr (by decide) (by rfl) (pa_cons (pv 0) (pa_cons (pv 6) pa_nil))) pe_int (nomark _))))))))), ?_⟩
    rcases h with ⟨ho, q⟩ | ⟨t, ⟨p, v1, v2, v3, v4, rfl, h0, h1, h2, h3, h4⟩, ⟨n1, n2, n3, n4⟩, ⟨s1, s2, s3, s4⟩, q⟩
    · cases ho with
      | non => exact ⟨_, rfl, _, _, .type "NoneType", .type "tuple", false, rfl, .ty _, .base .non, kit_ty (by decide +kernel), _, rfl, iteT (iteT q)⟩
      | bl b => exact ⟨_, rfl, _, _, .type "bool", .type "tuple", false, rfl, .ty _, .base (.bl b), kit_ty (by decide +kernel), _, rfl, iteT (iteT q)⟩
      | int i => exact ⟨_, rfl, _, _, .type "int", .type "tuple", false, rfl, .ty _, .base (.int i), kit_ty (by decide +kernel), _, rfl, iteT (iteT q)⟩
      | str x => exact ⟨_, rfl, _, _, .type "str", .type "tuple", false, rfl, .ty _, .base (.str x), kit_ty (by decide +kernel), _, rfl, iteT (iteT q)⟩
      | lst e => exact ⟨_, rfl, _, _, .type "list", .type "tuple", false, rfl, .ty _, .base (.lst e), kit_ty (by decide +kernel), _, rfl, iteT (iteT q)⟩
      | @tup a xs e n =>
        refine ⟨_, rfl, _, _, .type "tuple", .type "tuple", true, rfl, .ty _, .base (.tup e), kit_ty (by decide +kernel), _, rfl, iteF ?_⟩
        refine ⟨_, rfl, _, xs.length, rfl, .inr ⟨_, SqT.of e, rfl⟩, rfl, _, rfl, ifT ?_ (iteT q)⟩
        have : ¬ V.int ((xs.length : Nat) : Int) = V.int 4 := fun z => n (by injection z with z; omega)
        rw [decide_eq_false this]
        rfl
    · refine ⟨_, rfl, _, _, .type "tuple", .type "tuple", true, rfl, .ty _, .base (.tup h0), kit_ty (by decide +kernel), _, rfl, iteF ?_⟩
      refine ⟨_, rfl, _, 4, rfl, .inr ⟨_, SqT.of h0, rfl⟩, rfl, _, rfl, iteNS rfl ?_⟩
      refine ⟨_, rfl, p, rfl, ⟨_, SqT.of h0⟩, fun D hD => ?_⟩
      refine lc_tupM (xs := t4v v1 v2 v3 v4) (fun i v _ => v = .bl ((fun _ => true) i)) (fun i v H H' _ h => h) hD (.inl h0) (by show 4 < sizeLine; decide) (fun i y H2 N hy sm k => ?_) (fun H2 sm m => ?_)
      · refine ⟨rfl, ?_⟩
        have : ∃ z, NuH H2 y z ∧ Mf.Nm z := by
          match i, hy with
          | 0, e => exact ⟨_, by rw [← Option.some.inj e]; exact TL.nuH (.of sm) h1, n1⟩
          | 1, e => exact ⟨_, by rw [← Option.some.inj e]; exact TL.nuH (.of sm) h2, n2⟩
          | 2, e => exact ⟨_, by rw [← Option.some.inj e]; exact TL.nuH (.of sm) h3, n3⟩
          | 3, e => exact ⟨_, by rw [← Option.some.inj e]; exact TL.nuH (.of sm) h4, n4⟩
        obtain ⟨z, hz, nz⟩ := this
        exact ⟨_, rfl, y, z, rfl, hz, nz, fun H3 e3 => k _ _ e3 rfl⟩
      · refine ⟨D, _, rfl, SqL.of (made_bools m), _, rfl, iteF ?_⟩
        have l2 : TL H H2 := .of sm
        refine ⟨_, rfl, p, _, rfl, SqT.of (sm _ _ h0), rfl, _, _, rfl, _, _, rfl, _, _, rfl, _, _, rfl, rfl, ?_⟩
        refine ⟨_, rfl, _, rfl, _, v1, t.x, rfl, (l2.nuH h1).nu, hd.d5, s1, _, _, rfl, rfl, _, rfl, ?_⟩
        rw [sgn_lt n1]
        have eb : tileB r t = ((!abv 0 (Mf.val r t.x) && !abv 0 (Mf.val r t.y)) && (abv (Mf.val r t.w) 0 && abv (Mf.val r t.h) 0)) := rfl
        refine ifB (fun c1 => iteT ?_) (fun c1 => ?_)
        · have : tileB r t = false := by rw [eb, c1]; rfl
          rw [this] at q
          exact q _ sm
        · refine ⟨_, rfl, _, rfl, _, v2, t.y, rfl, (l2.nuH h2).nu, hd.d5, s2, _, _, rfl, rfl, _, rfl, ?_⟩
          rw [sgn_lt n2]
          refine ifB (fun c2 => ?_) (fun c2 => ?_)
          · have : tileB r t = false := by rw [eb, c2, Bool.not_true, Bool.and_false, Bool.false_and]
            rw [this] at q
            exact q _ sm
          · refine ⟨_, rfl, _, rfl, _, v3, t.w, rfl, (l2.nuH h3).nu, hd.d5, s3, _, _, rfl, rfl, _, rfl, ?_⟩
            rw [sgn_gt n3]
            refine ifB (fun c3 => ?_) (fun c3 => ?_)
            · refine ⟨_, rfl, _, rfl, _, v4, t.h, rfl, (l2.nuH h4).nu, hd.d5, s4, _, _, rfl, rfl, ?_⟩
              show Q (.bl (decide (0 < Mf.sgnN r.d t.h))) H2
              rw [sgn_gt n4]
              have : tileB r t = abv (Mf.val r t.h) 0 := by rw [eb, c1, c2, c3]; rfl
              rw [this] at q
              exact q _ sm
            · have : tileB r t = false := by rw [eb, c3, Bool.false_and, Bool.and_false]
              rw [this] at q
              exact q _ sm
end
end MfW
namespace MfW
open PySem PySem.Spec PyProof.Rows L2
/-! ### rows of things in the heap -/
def Els {α : Type} (R : Hp → V → α → Prop) (H : Hp) (vs : List V) (xs : List α) : Prop := vs.length = xs.length ∧ ∀ (i : Nat) (v : V), vs[i]? = some v → ∃ x, xs[i]? = some x ∧ R H v x
theorem Els.mono {α : Type} {R : Hp → V → α → Prop} {H H' : Hp} {vs : List V} {xs : List α} (h : Els R H vs xs) (m : ∀ v x, R H v x → R H' v x) : Els R H' vs xs :=
  ⟨h.1, fun i v e => let ⟨x, e2, q⟩ := h.2 i v e; ⟨x, e2, m v x q⟩⟩
theorem Els.at {α : Type} {R : Hp → V → α → Prop} {H : Hp} {vs : List V} {xs : List α} (h : Els R H vs xs) {i : Nat} {x : α} (e : xs[i]? = some x) : ∃ v, vs[i]? = some v ∧ R H v x := by
  have hi := (List.getElem?_eq_some_iff.mp e).1
  have e1 : vs[i]? = some (vs[i]'(by rw [h.1]; exact hi)) := List.getElem?_eq_getElem _
  obtain ⟨y, e2, q⟩ := h.2 i _ e1
  rw [e] at e2
  rw [← Option.some.inj e2] at q
  exact ⟨_, e1, q⟩
theorem Els.nil {α : Type} {R : Hp → V → α → Prop} {H : Hp} : Els R H [] ([] : List α) := ⟨rfl, fun i v e => by simp at e⟩
theorem Els.ins {α : Type} {R : Hp → V → α → Prop} {H : Hp} {vs : List V} {xs : List α} (h : Els R H vs xs) {k : Nat} (hk : k ≤ xs.length) {v : V} {x : α} (q : R H v x) : Els R H (vs.take k ++ [v] ++ vs.drop k) (xs.take k ++ [x] ++ xs.drop k) := by
  have hk2 : k ≤ vs.length := by rw [h.1]; exact hk
  refine ⟨?_, fun i u e => ?_⟩
  · simp only [List.length_append, List.length_take, List.length_drop, List.length_singleton, h.1]
  · rw [Mf.getElem?_ins hk2] at e
    rw [Mf.getElem?_ins hk]
    by_cases a : i < k
    · rw [if_pos a] at e ⊢
      exact h.2 i u e
    · rw [if_neg a] at e ⊢
      by_cases b : i = k
      · rw [if_pos b] at e ⊢
        rw [← Option.some.inj e]
        exact ⟨x, rfl, q⟩
      · rw [if_neg b] at e ⊢
        exact h.2 (i - 1) u e
/-- a number as data -/
def d3 (x : Mf.N3) : PyData := .tuple [.int x.a, .int x.b, .int x.c]
theorem Nu.dp {K : PySem.W.Frag} {H : Hp} {v : V} {x : Mf.N3} (h : Nu K H v x) : Dp K H v (d3 x) := by
  obtain ⟨p, rfl, h⟩ := h
  exact .tup h.sq (.cons (.int _) (.cons (.int _) (.cons (.int _) .nil)))
theorem d3_shaped (x : Mf.N3) : SeqAt.shaped (d3 x) = true := by rfl
theorem d3_eqv (x y : Mf.N3) : PyData.eqv (d3 x) (d3 y) = decide (x = y) := by
  have e : PyData.eqv (d3 x) (d3 y) = ((x.a == y.a) && ((x.b == y.b) && ((x.c == y.c) && true))) := by
    simp only [d3, PyData.eqv, PyData.eqvAll]
  rw [e, Bool.eq_iff_iff]
  cases x
  cases y
  simp
section
variable {P : Program} {w : World} {K : PySem.W.Frag} {mg : Str → Option Value} {base : Heap}
/-! ### ordered -/
abbrev N_ordered : List Str := ["d", "row", "found", "one", "low", "high", "middle"]
theorem sc_ordered : FnScope N_ordered ["d", "row"] (defScope (top 31)) := ⟨rfl, rfl, rfl, by decide +kernel, rfl, by decide +kernel, by decide +kernel⟩

def spOrdered : Sp := fun vs H Q _ => ∃ (r : Mf.Rt) (p : Addr) (us : List V) (xs : List Mf.N3), vs = [.int r.d, .ref p] ∧ RtOk r ∧ H p = some (.lst us) ∧ Els NuH H us xs ∧ (∀ x ∈ xs, Mf.Nm x ∧ Mf.Sm 900 x) ∧ xs.length ≤ 1000 ∧
  ∀ H' D fs os, Same H H' → H D = none → H' D = some (.lst fs) → Els NuH H' fs os → Mf.Rise r os → (∀ z, z ∈ os ↔ z ∈ xs) → os.length ≤ xs.length → Q (.ref D) H'
theorem ok_ordered (T : Txt K mg) (D : Df K mg "ordered" 31) (c_is_above : C8.Cal P w K mg base 5 "is_above" (spAbove K) []) : C8.Cal P w K mg base 6 "ordered" spOrdered [] := by
  refine mk_cal D sc_ordered (fun vs H Q E h => ?_) (fun _ _ _ _ _ _ us hl => match us, hl with | [_, _], _ => rfl) (fun cdv A outer s f H vs Q E hr h => ?_)
  · obtain ⟨r, p, us, xs, rfl, _⟩ := h
    rfl
  · obtain ⟨r, p, us, xs, rfl, hd, hp, hE, hx, hlen, q⟩ := h
    refine ⟨_, (pss_cons (ps_set (i := 2) sc_ordered.nd rfl (Or.inl rfl) (pe_lst pa_nil))
      (pss_cons (ps_for PassesOwn.never rfl (pi_list (pv 1)) (pg_name (i := 3) sc_ordered.nd rfl (Or.inl rfl))
      (pss_cons (ps_par (i := 4) (j := 5) (by rfl) sc_ordered.nd rfl rfl (by decide) rfl rfl (pa_cons pe_int (pa_cons (pe_callB call_len (by rfl) T.len (by decide +kernel) (pa_cons (pv 2) pa_nil)) pa_nil)) (by rfl))
      (pss_cons (ps_while PassesOwn.never (pt_cmpR op_lt (pv 4) (pv 5) (nomark _)) (pss_cons (ps_set (i := 6) sc_ordered.nd rfl (Or.inl rfl) (pe_op op_fdiv (pe_op op_add (pv 4) (pv 5)) pe_int))
      (pss_one (ps_if (pt_val (C8.pe_c c_is_above hr (by decide) (by rfl) (pa_cons (pv 0) (pa_cons (pv 3) (pa_cons (pe_ix ix_list (pv 2) (pv 6) (fun _ _ => rfl)) pa_nil))))) (pss_one (ps_set (i := 4) sc_ordered.nd rfl (Or.inl rfl) (pe_op op_add (pv 6) pe_int))) (pss_one (ps_set (i := 5) sc_ordered.nd rfl (Or.inl rfl) (pv 6)))))))
      (pss_one (ps_if (PW.pt (pw_or (pt_cmpR op_eq (pv 4) (pe_callB call_len (by rfl) T.len (by decide +kernel) (pa_cons (pv 2) pa_nil)) (nomark _)) (pw_or1 (pt_cmpR (op_neD hr.units) (pe_ix ix_list (pv 2) (pv 4) (fun _ _ => rfl)) (pv 3) (nomark _))))) (pss_one (ps_expr (pe_bm PySem.F.plainAttrs_list PySem.F.slot_list_insert PySem.F.type_list_insert mt_insert (pv 2) (pa_cons (pv 4) (pa_cons (pv 3) pa_nil))))) pss_nil)))))
      (pss_one (ps_ret (pv 2))))), ?_⟩
    refine ⟨Nat.zero_le _, fun D hD => ?_⟩
    have npD : p ≠ D := ne_of_none hp hD
    have hs0 := same_new (o := .lst []) hD
    refine ⟨_, rfl, p, rfl, ⟨_, SqL.of (hs0 _ _ hp)⟩, for_list (K := K) (a := p) (xs := us) (fun i σ H' => ∃ fs os v3 v4 v5 v6, σ = [some (.int r.d), some (.ref p), some (.ref D), v3, v4, v5, v6] ∧ Same H H' ∧ H' D = some (.lst fs) ∧ Els NuH H' fs os ∧ Mf.Rise r os ∧ (∀ z, z ∈ os ↔ z ∈ xs.take i) ∧ os.length ≤ i)
      ⟨[], [], none, none, none, none, rfl, hs0, upd_same, .nil, Mf.rise_nil, fun z => by simp, Nat.le_refl _⟩ (fun i σ H' _ ⟨_, _, _, _, _, _, _, s1, _⟩ => SqL.of (s1 _ _ hp)) ?_ ?_⟩
    · rintro i one σ H' hi ⟨fs, os, v3, v4, v5, v6, rfl, s1, hF, hO, hR, hM, hl⟩
      obtain ⟨x, ex, nx⟩ := hE.2 i one hi
      have nx1 : NuH H' one x := TL.nuH (.of s1) nx
      obtain ⟨nmx, smx⟩ := hx x (List.mem_of_getElem? ex)
      have hos : ∀ z ∈ os, Mf.Nm z ∧ Mf.Sm 900 z := fun z hz => hx z (List.mem_of_mem_take ((hM z).mp hz))
      have hi1 : i < xs.length := (List.getElem?_eq_some_iff.mp ex).1
      refine ⟨_, rfl, _, fs.length, rfl, .inl ⟨_, SqL.of hF, rfl⟩, _, _, rfl, ?_⟩
      refine while_by (fun σ H2 => ∃ (low high : Nat) (v6 : Option V), σ = [some (.int r.d), some (.ref p), some (.ref D), some one, some (.int low), some (.int high), v6] ∧ Same H' H2 ∧ low ≤ high ∧ high ≤ os.length ∧
          (∀ (j : Nat) z, j < low → os[j]? = some z → Mf.val r z < Mf.val r x) ∧ (∀ (j : Nat) z, high ≤ j → os[j]? = some z → ¬ Mf.val r z < Mf.val r x))
        (fun σ _ => match σ with | [_, _, _, _, some (.int low), some (.int high), _] => (high - low).toNat | _ => 0) ?_ ?_ ?_
      · refine ⟨0, fs.length, v6, rfl, Same.refl _, Nat.zero_le _, by rw [hO.1]; exact Nat.le_refl _, fun j z h => absurd h (Nat.not_lt_zero _), fun j z h e => ?_⟩
        have := (List.getElem?_eq_some_iff.mp e).1
        rw [hO.1] at h
        omega
      · rintro σ H2 ⟨low, high, v6, rfl, s2, hlh, hhl, hlo, hhi⟩
        have hF2 := s2 _ _ hF
        have hO2 : Els NuH H2 fs os := hO.mono fun v z h => TL.nuH (.of s2) h
        have nx2 : NuH H2 one x := TL.nuH (.of s2) nx1
        refine ⟨_, rfl, _, rfl, _, _, rfl, rfl, _, rfl, ?_⟩
        refine ifB (fun c => ?_) (fun c => ?_)
        · have hlt : (low : Int) < (high : Int) := of_decide_eq_true c
          have em : ((low : Int) + (high : Int)) / 2 = (((low + high) / 2 : Nat) : Int) := by omega
          have hm1 : (low + high) / 2 < high := by omega
          have hm0 : low ≤ (low + high) / 2 := by omega
          obtain ⟨z, ez⟩ : ∃ z, os[(low + high) / 2]? = some z := ⟨_, List.getElem?_eq_getElem (by omega)⟩
          obtain ⟨v, ev, nz⟩ := hO2.at ez
          obtain ⟨nmz, smz⟩ := hos z (List.mem_of_getElem? ez)
          refine ⟨_, rfl, _, rfl, _, _, rfl, rfl, _, _, rfl, rfl, ⟨by decide, by decide⟩, ?_⟩
          refine ⟨_, rfl, _, rfl, _, rfl, _, rfl, D, fs, _, v, rfl, rfl, SqL.of hF2, L2.at_of em ev, r, one, v, x, z, rfl, hd, nx2.nu, nz.nu, nmx, nmz, smx, smz, fun H3 s3 => ⟨_, rfl, ?_⟩⟩
          refine ifB (fun c2 => ?_) (fun c2 => ?_)
          · have lt2 := abv_iff.mp c2
            refine ⟨_, rfl, _, _, rfl, rfl, ?_⟩
            refine ⟨⟨(low + high) / 2 + 1, high, _, by rw [show (((low + high) / 2 + 1 : Nat) : Int) = ((low : Int) + (high : Int)) / 2 + 1 by omega]; rfl, s2.trans s3, by omega, hhl, fun j y hj e => ?_, hhi⟩, ?_⟩
            · by_cases hj2 : j = (low + high) / 2
              · subst hj2
                rw [ez] at e
                rw [← Option.some.inj e]
                exact lt2
              · have := hR j ((low + high) / 2) y z (by omega) e ez
                grind
            · show ((high : Int) - (((low : Int) + (high : Int)) / 2 + 1)).toNat < ((high : Int) - (low : Int)).toNat
              omega
          · have nlt : ¬ Mf.val r z < Mf.val r x := fun h => by
              rw [abv_iff.mpr h] at c2
              cases c2
            refine ⟨_, rfl, ?_⟩
            refine ⟨⟨low, (low + high) / 2, _, by rw [← em]; rfl, s2.trans s3, hm0, by omega, hlo, fun j y hj e => ?_⟩, ?_⟩
            · by_cases hj2 : j = (low + high) / 2
              · subst hj2
                rw [ez] at e
                rw [← Option.some.inj e]
                exact nlt
              · have := hR ((low + high) / 2) j z y (by omega) ez e
                grind
            · show (((low : Int) + (high : Int)) / 2 - (low : Int)).toNat < ((high : Int) - (low : Int)).toNat
              omega
        · have hge : low = high := by
            have : ¬ (low : Int) < (high : Int) := fun h => by
              rw [decide_eq_true h] at c
              cases c
            omega
          subst hge
          have s12 := s1.trans s2
          have tk : xs.take (i + 1) = xs.take i ++ [x] := by rw [List.take_add_one, ex]; rfl
          refine ⟨_, rfl, _, rfl, _, fs.length, rfl, .inl ⟨_, SqL.of hF2, rfl⟩, rfl, _, rfl, ?_⟩
          have insert_ok : (∀ j z, low ≤ j → os[j]? = some z → Mf.val r x < Mf.val r z) →
              ∃ fs' os' u3 u4 u5 u6, ([some (.int r.d), some (.ref p), some (.ref D), some one, some (.int low), some (.int low), v6] : L2.St) = [some (.int r.d), some (.ref p), some (.ref D), u3, u4, u5, u6] ∧ Same H (upd H2 D (.lst (fs.take low ++ [one] ++ fs.drop low))) ∧ (upd H2 D (.lst (fs.take low ++ [one] ++ fs.drop low))) D = some (.lst fs') ∧ Els NuH (upd H2 D (.lst (fs.take low ++ [one] ++ fs.drop low))) fs' os' ∧ Mf.Rise r os' ∧ (∀ z, z ∈ os' ↔ z ∈ xs.take (i + 1)) ∧ os'.length ≤ i + 1 := fun hgt => by
            have t3 : TL H2 (upd H2 D (.lst (fs.take low ++ [one] ++ fs.drop low))) := .put hF2
            refine ⟨_, os.take low ++ [x] ++ os.drop low, _, _, _, _, rfl, same_put s1 s2 hD, upd_same, (hO2.ins (by omega) nx2).mono fun v z h => t3.nuH h, Mf.rise_ins hR (by omega) (fun j z hj e => hlo j z hj e) hgt, fun z => ?_, ?_⟩
            · rw [Mf.mem_ins, tk, List.mem_append, List.mem_singleton, hM z]
              constructor
              · rintro (h | h)
                · exact .inr h
                · exact .inl h
              · rintro (h | h)
                · exact .inr h
                · exact .inl h
            · simp only [List.length_append, List.length_take, List.length_drop, List.length_singleton]
              omega
          refine ifB (fun c => iteT ?_) (fun c => ?_)
          · have el : (low : Int) = ((fs.length : Nat) : Int) := V.int.inj (of_decide_eq_true c)
            refine ⟨_, rfl, .inl ⟨rfl, _, SqL.of hF2⟩, _, rfl, _, rfl, D, fs, _, one, rfl, rfl, hF2, by have := hO.1; have h2 : sizeLine = 16777216 := sizeLine_eq; omega, by omega, by have := hO.1; omega, ?_⟩
            exact insert_ok fun j z hj e => by
              have := (List.getElem?_eq_some_iff.mp e).1
              have := hO.1
              omega
          · have nl : low < os.length := by
              have : ¬ (low : Int) = ((fs.length : Nat) : Int) := fun h => by
                rw [h, decide_eq_true rfl] at c
                cases c
              have := hO.1
              omega
            obtain ⟨z, ez⟩ : ∃ z, os[low]? = some z := ⟨_, List.getElem?_eq_getElem nl⟩
            obtain ⟨v, ev, nz⟩ := hO2.at ez
            obtain ⟨nmz, smz⟩ := hos z (List.mem_of_getElem? ez)
            refine ⟨_, rfl, _, rfl, D, fs, _, v, rfl, rfl, SqL.of hF2, atI_nat ev, _, rfl, _, _, nz.nu.dp, nx2.nu.dp, d3_shaped _, d3_shaped _, _, rfl, ?_⟩
            rw [d3_eqv]
            by_cases hzx : z = x
            · rw [decide_eq_true hzx]
              refine iteF ?_
              refine ⟨fs, os, _, _, _, _, rfl, s12, hF2, hO2, hR, fun y => ?_, by omega⟩
              rw [tk, List.mem_append, List.mem_singleton, ← hM y]
              constructor
              · exact .inl
              · rintro (h | h)
                · exact h
                · rw [h, ← hzx]
                  exact List.mem_of_getElem? ez
            · rw [decide_eq_false hzx]
              refine iteT ?_
              refine ⟨_, rfl, .inl ⟨rfl, _, SqL.of hF2⟩, _, rfl, _, rfl, D, fs, _, one, rfl, rfl, hF2, by have := hO.1; have h2 : sizeLine = 16777216 := sizeLine_eq; omega, by omega, by have := hO.1; omega, ?_⟩
              refine insert_ok fun j y hj e => ?_
              have n1 := hhi j y hj e
              have n2 : Mf.val r y ≠ Mf.val r x := fun h => by
                by_cases hjl : j = low
                · subst hjl
                  rw [ez] at e
                  rw [← Option.some.inj e] at h
                  exact hzx (Mf.nm_inj nmz nmx h)
                · have := hR low j z y (by omega) ez e
                  have := hhi low z (Nat.le_refl _) ez
                  grind
              grind
      · rintro σ H2 Q1 Q2 hq ⟨v, e, v', e', i, j, e1, e2, k, e3, z⟩
        exact ⟨v, e, v', e', i, j, e1, e2, k, e3, hq _ _ z⟩
    · rintro σ H' ⟨fs, os, v3, v4, v5, v6, rfl, s1, hF, hO, hR, hM, hl⟩
      refine ⟨_, rfl, q H' D fs os s1 hD hF hO hR (fun z => ?_) (by rw [← hE.1]; exact hl)⟩
      rw [hM z, hE.1, List.take_length]
end
end MfW
namespace MfW
open PySem PySem.Spec PyProof.Rows L2
/-! ### stretches -/
/-- a pair of numbers -/
def SpanAt (H : Hp) (v : V) (s : Mf.N3 × Mf.N3) : Prop := ∃ p v1 v2, v = .ref p ∧ H p = some (.tup [v1, v2]) ∧ NuH H v1 s.1 ∧ NuH H v2 s.2
theorem TL.span {H H' : Hp} {v : V} {s : Mf.N3 × Mf.N3} (l : TL H H') (h : SpanAt H v s) : SpanAt H' v s := by
  obtain ⟨p, v1, v2, e, h0, h1, h2⟩ := h
  exact ⟨p, v1, v2, e, l _ _ h0, l.nuH h1, l.nuH h2⟩
def TilesAt (H : Hp) (p : Addr) (ts : List Mf.T4) : Prop := ∃ us, H p = some (.tup us) ∧ Els TileAt H us ts
theorem TL.tiles {H H' : Hp} {p : Addr} {ts : List Mf.T4} (l : TL H H') (h : TilesAt H p ts) : TilesAt H' p ts := by
  obtain ⟨us, h1, h2⟩ := h
  exact ⟨us, l _ _ h1, h2.mono fun v x q => l.tile q⟩
/-- a list made by a comprehension, as a row -/
theorem Made.els {α : Type} {R : Hp → V → α → Prop} {xs : List α} {D : Addr} {n : Nat} {H : Hp} (h : Made (fun i v H => ∃ x, xs[i]? = some x ∧ R H v x) D n H) (hn : n = xs.length) : ∃ acc, H D = some (.lst acc) ∧ Els R H acc xs := by
  obtain ⟨acc, h1, h2, h3⟩ := h
  exact ⟨acc, h1, by rw [h2, hn], h3⟩
section
variable {P : Program} {w : World} {K : PySem.W.Frag} {mg : Str → Option Value} {base : Heap}
def spansW (ts : List Mf.T4) : List (Mf.N3 × Mf.N3) := ts.map fun t => (t.x, Mf.plusN t.x t.w)
def spansH (ts : List Mf.T4) : List (Mf.N3 × Mf.N3) := ts.map fun t => (t.y, Mf.plusN t.y t.h)
abbrev N_wide_spans : List Str := ["tiles", "x", "y", "width", "height"]
theorem sc_wide_spans : FnScope N_wide_spans ["tiles"] (defScope (top 35)) := ⟨rfl, rfl, rfl, by decide +kernel, rfl, by decide +kernel, by decide +kernel⟩

def spSpans (g : List Mf.T4 → List (Mf.N3 × Mf.N3)) : Sp := fun vs H Q _ => ∃ (p : Addr) (ts : List Mf.T4), vs = [.ref p] ∧ TilesAt H p ts ∧ (∀ t ∈ ts, SmT 2000 t) ∧ ts.length ≤ 1000 ∧
  ∀ H' D us, Same H H' → H D = none → H' D = some (.lst us) → Els SpanAt H' us (g ts) → Q (.ref D) H'
theorem ok_wide (D : Df K mg "wide_spans" 35) (c_plus : C8.Cal P w K mg base 3 "plus" (spPlus K) []) : C8.Cal P w K mg base 4 "wide_spans" (spSpans spansW) [] := by
  refine mk_cal D sc_wide_spans (fun vs H Q E h => ?_) (fun _ _ _ _ _ _ us hl => match us, hl with | [_], _ => rfl) (fun cdv A outer s f H vs Q E hr h => ?_)
  · obtain ⟨p, ts, rfl, _⟩ := h
    rfl
  · obtain ⟨p, ts, rfl, ⟨us, hp, hE⟩, hs, hl, q⟩ := h
    refine ⟨_, (pss_one (ps_ret (pe_lc (own := [("x", 1), ("y", 2), ("width", 3), ("height", 4)]) (g := gTup K 4 (gCons (gName 1) (gCons (gName 2) (gCons (gName 3) (gCons (gName 4) gNil))))) rfl sc_wide_spans.nd (pi_tup (pv 0)) (blkOk_by (own := [("x", 1), ("y", 2), ("width", 3), ("height", 4)]) (N := N_wide_spans) (sc := defScope (top 35)) (by decide +kernel)) (fun _ _ _ _ _ => (by exact (pg_tup rfl (pgs_cons (pg_name (i := 1) sc_wide_spans.nd rfl (Or.inl rfl)) (pgs_cons (pg_name (i := 2) sc_wide_spans.nd rfl (Or.inl rfl)) (pgs_cons (pg_name (i := 3) sc_wide_spans.nd rfl (Or.inl rfl)) (pgs_cons (pg_name (i := 4) sc_wide_spans.nd rfl (Or.inl rfl)) pgs_nil))))))) (fun _ _ _ _ _ => pts_nil) (fun _ _ _ _ _ => (pe_tup (pa_cons (pv 1) (pa_cons (C8.pe_c c_plus hr (by decide) (by rfl) (pa_cons (pv 1) (pa_cons (pv 3) pa_nil))) pa_nil))))))), ?_⟩
    refine ⟨_, rfl, p, rfl, ⟨_, SqT.of hp⟩, fun D hD => ?_⟩
    refine lc_tupM (xs := us) (fun i v H => ∃ x, (spansW ts)[i]? = some x ∧ SpanAt H v x) (fun i v H H' l ⟨x, e, h⟩ => ⟨x, e, l.span h⟩) hD (.inl hp) (by rw [hE.1]; exact small1000 hl) (fun i y H2 N hy sm k => ?_) (fun H2 sm m => ?_)
    · obtain ⟨t, et, p1, v1, v2, v3, v4, rfl, h0, h1, h2, h3, h4⟩ := hE.2 i y hy
      obtain ⟨s1, s2, s3, s4⟩ := hs t (List.mem_of_getElem? et)
      have l2 : TL H H2 := .of sm
      refine ⟨p1, _, rfl, SqT.of (l2 _ _ h0), rfl, _, _, rfl, _, _, rfl, _, _, rfl, _, _, rfl, rfl, ?_⟩
      refine ⟨rfl, ?_⟩
      refine ⟨_, rfl, _, rfl, _, rfl, v1, v3, t.x, t.w, rfl, (l2.nuH h1).nu, (l2.nuH h3).nu, s1, s3, fun H3 v e3 nv => ?_⟩
      refine ⟨by show 2 ≤ sizeLine; decide, fun pp np => ?_⟩
      refine k _ _ (e3.trans (same_new np)) ⟨(t.x, Mf.plusN t.x t.w), by unfold spansW; rw [List.getElem?_map, et]; rfl, pp, v1, v, rfl, upd_same, ?_, ?_⟩
      · exact TL.nuH ((TL.of e3).trans (.new np)) (l2.nuH h1)
      · exact TL.nuH (.new np) nv
    · obtain ⟨acc, h1, h2⟩ := m.els (by unfold spansW; rw [List.length_map, hE.1])
      exact q H2 D acc sm hD h1 h2
abbrev N_high_spans : List Str := ["tiles", "x", "y", "width", "height"]
theorem sc_high_spans : FnScope N_high_spans ["tiles"] (defScope (top 36)) := ⟨rfl, rfl, rfl, by decide +kernel, rfl, by decide +kernel, by decide +kernel⟩

theorem ok_high (D : Df K mg "high_spans" 36) (c_plus : C8.Cal P w K mg base 3 "plus" (spPlus K) []) : C8.Cal P w K mg base 4 "high_spans" (spSpans spansH) [] := by
  refine mk_cal D sc_high_spans (fun vs H Q E h => ?_) (fun _ _ _ _ _ _ us hl => match us, hl with | [_], _ => rfl) (fun cdv A outer s f H vs Q E hr h => ?_)
  · obtain ⟨p, ts, rfl, _⟩ := h
    rfl
  · obtain ⟨p, ts, rfl, ⟨us, hp, hE⟩, hs, hl, q⟩ := h
    refine ⟨_, (pss_one (ps_ret (pe_lc (own := [("x", 1), ("y", 2), ("width", 3), ("height", 4)]) (g := gTup K 4 (gCons (gName 1) (gCons (gName 2) (gCons (gName 3) (gCons (gName 4) gNil))))) rfl sc_high_spans.nd (pi_tup (pv 0)) (blkOk_by (own := [("x", 1), ("y", 2), ("width", 3), ("height", 4)]) (N := N_high_spans) (sc := defScope (top 36)) (by decide +kernel)) (fun _ _ _ _ _ => (by exact (pg_tup rfl (pgs_cons (pg_name (i := 1) sc_high_spans.nd rfl (Or.inl rfl)) (pgs_cons (pg_name (i := 2) sc_high_spans.nd rfl (Or.inl rfl)) (pgs_cons (pg_name (i := 3) sc_high_spans.nd rfl (Or.inl rfl)) (pgs_cons (pg_name (i := 4) sc_high_spans.nd rfl (Or.inl rfl)) pgs_nil))))))) (fun _ _ _ _ _ => pts_nil) (fun _ _ _ _ _ => (pe_tup (pa_cons (pv 2) (pa_cons (C8.pe_c c_plus hr (by decide) (by rfl) (pa_cons (pv 2) (pa_cons (pv 4) pa_nil))) pa_nil))))))), ?_⟩
    refine ⟨_, rfl, p, rfl, ⟨_, SqT.of hp⟩, fun D hD => ?_⟩
    refine lc_tupM (xs := us) (fun i v H => ∃ x, (spansH ts)[i]? = some x ∧ SpanAt H v x) (fun i v H H' l ⟨x, e, h⟩ => ⟨x, e, l.span h⟩) hD (.inl hp) (by rw [hE.1]; exact small1000 hl) (fun i y H2 N hy sm k => ?_) (fun H2 sm m => ?_)
    · obtain ⟨t, et, p1, v1, v2, v3, v4, rfl, h0, h1, h2, h3, h4⟩ := hE.2 i y hy
      obtain ⟨s1, s2, s3, s4⟩ := hs t (List.mem_of_getElem? et)
      have l2 : TL H H2 := .of sm
      refine ⟨p1, _, rfl, SqT.of (l2 _ _ h0), rfl, _, _, rfl, _, _, rfl, _, _, rfl, _, _, rfl, rfl, ?_⟩
      refine ⟨rfl, ?_⟩
      refine ⟨_, rfl, _, rfl, _, rfl, v2, v4, t.y, t.h, rfl, (l2.nuH h2).nu, (l2.nuH h4).nu, s2, s4, fun H3 v e3 nv => ?_⟩
      refine ⟨by show 2 ≤ sizeLine; decide, fun pp np => ?_⟩
      refine k _ _ (e3.trans (same_new np)) ⟨(t.y, Mf.plusN t.y t.h), by unfold spansH; rw [List.getElem?_map, et]; rfl, pp, v2, v, rfl, upd_same, ?_, ?_⟩
      · exact TL.nuH ((TL.of e3).trans (.new np)) (l2.nuH h2)
      · exact TL.nuH (.new np) nv
    · obtain ⟨acc, h1, h2⟩ := m.els (by unfold spansH; rw [List.length_map, hE.1])
      exact q H2 D acc sm hD h1 h2
/-! ### area_of -/
abbrev N_area_of : List Str := ["d", "tiles", "found", "x", "y", "width", "height"]
theorem sc_area_of : FnScope N_area_of ["d", "tiles"] (defScope (top 37)) := ⟨rfl, rfl, rfl, by decide +kernel, rfl, by decide +kernel, by decide +kernel⟩

def spArea (K : PySem.W.Frag) : Sp := fun vs H Q _ => ∃ (r : Mf.Rt) (p : Addr) (ts : List Mf.T4), vs = [.int r.d, .ref p] ∧ RtOk r ∧ TilesAt H p ts ∧ (∀ t ∈ ts, SmT 900 t) ∧ Mf.ArOk r ts ∧ ∀ H' v, Same H H' → Nu K H' v (Mf.foldN (Mf.areasN r.d ts)) → Q v H'
theorem ok_area (T : Txt K mg) (D : Df K mg "area_of" 37) (c_plus : C8.Cal P w K mg base 3 "plus" (spPlus K) []) (c_times : C8.Cal P w K mg base 3 "times" (spTimes K) []) : C8.Cal P w K mg base 4 "area_of" (spArea K) [] := by
  obtain ⟨aN, hN, hNt⟩ := T.nought
  refine mk_cal D sc_area_of (fun vs H Q E h => ?_) (fun _ _ _ _ _ _ us hl => match us, hl with | [_, _], _ => rfl) (fun cdv A outer s f H vs Q E hr h => ?_)
  · obtain ⟨r, p, ts, rfl, _⟩ := h
    rfl
  · obtain ⟨r, p, ts, rfl, hd, ⟨us, hp, hE⟩, hs, hA, q⟩ := h
    refine ⟨_, (pss_cons (ps_set (i := 2) sc_area_of.nd rfl (Or.inl rfl) (pe_glob (v := .ref aN) rfl hN rfl))
      (pss_cons (ps_for PassesOwn.never rfl (pi_tup (pv 1)) (pg_tup rfl (pgs_cons (pg_name (i := 3) sc_area_of.nd rfl (Or.inl rfl)) (pgs_cons (pg_name (i := 4) sc_area_of.nd rfl (Or.inl rfl)) (pgs_cons (pg_name (i := 5) sc_area_of.nd rfl (Or.inl rfl)) (pgs_cons (pg_name (i := 6) sc_area_of.nd rfl (Or.inl rfl)) pgs_nil)))))
      (pss_one (ps_set (i := 2) sc_area_of.nd rfl (Or.inl rfl) (C8.pe_c c_plus hr (by decide) (by rfl) (pa_cons (pv 2) (pa_cons (C8.pe_c c_times hr (by decide) (by rfl) (pa_cons (pv 0) (pa_cons (pv 5) (pa_cons (pv 6) pa_nil)))) pa_nil))))))
      (pss_one (ps_ret (pv 2))))), ?_⟩
    refine ⟨_, rfl, p, rfl, ⟨_, SqT.of hp⟩, for_tup (K := K) (a := p) (xs := us) (fun i σ H' => ∃ v v3 v4 v5 v6, σ = [some (.int r.d), some (.ref p), some v, v3, v4, v5, v6] ∧ Same H H' ∧ Nu K H' v (Mf.foldN (Mf.areasN r.d (ts.take i))))
      ⟨.ref aN, none, none, none, none, rfl, Same.refl _, aN, rfl, .inr hNt⟩ (fun i σ H' _ ⟨_, _, _, _, _, _, s1, _⟩ => SqT.of (s1 _ _ hp)) ?_ ?_⟩
    · rintro i y σ H2 hy ⟨v, v3, v4, v5, v6, rfl, sm, nv⟩
      obtain ⟨t, et, p1, u1, u2, u3, u4, rfl, h0, h1, h2, h3, h4⟩ := hE.2 i y hy
      obtain ⟨s1, s2, s3, s4⟩ := hs t (List.mem_of_getElem? et)
      have hi := (List.getElem?_eq_some_iff.mp et).1
      have l2 : TL H H2 := .of sm
      refine ⟨p1, _, rfl, SqT.of (l2 _ _ h0), rfl, _, _, rfl, _, _, rfl, _, _, rfl, _, _, rfl, rfl, ?_⟩
      refine ⟨_, rfl, _, rfl, _, rfl, _, rfl, _, u3, u4, t.w, t.h, rfl, (l2.nuH h3).nu, (l2.nuH h4).nu, hd.d5, sm_mono s3 (by decide), sm_mono s4 (by decide), fun H3 v2 e3 n2 => ?_⟩
      refine ⟨v, v2, _, _, rfl, TL.nu (.of e3) nv, n2.nu, sm_mono (hA.smf i (by omega)) (by decide), sm_mono (hA.sm t (List.mem_of_getElem? et)) (by decide), fun H4 v3 e4 n3 => ?_⟩
      refine ⟨v3, _, _, _, _, rfl, sm.trans (e3.trans e4), ?_⟩
      have e : Mf.foldN (Mf.areasN r.d (ts.take (i + 1))) = Mf.plusN (Mf.foldN (Mf.areasN r.d (ts.take i))) (Mf.timesN r.d t.w t.h) := by
        rw [← Mf.foldl_app, List.take_add_one, et]
        unfold Mf.areasN
        rw [List.map_append]
        rfl
      rw [e]
      exact n3.nu
    · rintro σ H2 ⟨v, v3, v4, v5, v6, rfl, sm, nv⟩
      rw [hE.1, List.take_length] at nv
      exact ⟨_, rfl, q H2 v sm nv⟩
/-! ### no_two_meet -/
/-- a pair of places -/
def PairAt (H : Hp) (v : V) (s : Int × Int) : Prop := ∃ p, v = .ref p ∧ H p = some (.tup [.int s.1, .int s.2])
theorem TL.pair {H H' : Hp} {v : V} {s : Int × Int} (l : TL H H') (h : PairAt H v s) : PairAt H' v s := by
  obtain ⟨p, e, h0⟩ := h
  exact ⟨p, e, l _ _ h0⟩
def Ov (ws : List (Int × Int)) (j k : Nat) : Prop := ∃ s t, ws[j]? = some s ∧ ws[k]? = some t ∧ s.1 < t.2 ∧ t.1 < s.2
theorem ov_iff {ws : List (Int × Int)} {j k : Nat} {s t : Int × Int} (h1 : ws[j]? = some s) (h2 : ws[k]? = some t) : Ov ws j k ↔ s.1 < t.2 ∧ t.1 < s.2 := by
  constructor
  · rintro ⟨s', t', e1, e2, h⟩
    rw [h1] at e1
    rw [h2] at e2
    rw [Option.some.inj e1, Option.some.inj e2]
    exact h
  · exact fun h => ⟨s, t, h1, h2, h⟩
def NoMeet (ws hs : List (Int × Int)) : Prop := ∀ j k, j < k → k < ws.length → ¬ (Ov ws j k ∧ Ov hs j k)
abbrev N_no_two_meet : List Str := ["wide", "high", "k", "j"]
theorem sc_no_two_meet : FnScope N_no_two_meet ["wide", "high"] (defScope (top 34)) := ⟨rfl, rfl, rfl, by decide +kernel, rfl, by decide +kernel, by decide +kernel⟩

def spNoMeet : Sp := fun vs H Q _ => ∃ (p q : Addr) (us zs : List V) (ws hs : List (Int × Int)), vs = [.ref p, .ref q] ∧ H p = some (.lst us) ∧ Els PairAt H us ws ∧ H q = some (.lst zs) ∧ Els PairAt H zs hs ∧ ws.length = hs.length ∧ ws.length ≤ 1000 ∧
  ∀ b, (b = true ↔ NoMeet ws hs) → Q (.bl b) H
theorem ok_nomeet (T : Txt K mg) (D : Df K mg "no_two_meet" 34) : C8.Cal P w K mg base 1 "no_two_meet" spNoMeet [] := by
  refine mk_cal D sc_no_two_meet (fun vs H Q E h => ?_) (fun _ _ _ _ _ _ us hl => match us, hl with | [_, _], _ => rfl) (fun cdv A outer s f H vs Q E hr h => ?_)
  · obtain ⟨p, q, us, zs, ws, hs, rfl, _⟩ := h
    rfl
  · obtain ⟨p, q, us, zs, ws, hs, rfl, hp, hE, hq, hF, hlen, hl, k0⟩ := h
    refine ⟨_, (pss_cons (ps_for PassesOwn.never rfl (pi_range1 (by rfl) T.range (pa_cons (pe_callB call_len (by rfl) T.len (by decide +kernel) (pa_cons (pv 0) pa_nil)) pa_nil)) (pg_name (i := 2) sc_no_two_meet.nd rfl (Or.inl rfl))
      (pss_one (ps_for PassesOwn.never rfl (pi_range1 (by rfl) T.range (pa_cons (pv 2) pa_nil)) (pg_name (i := 3) sc_no_two_meet.nd rfl (Or.inl rfl))
      (pss_one (ps_if (PW.pt (pw_and (pt_cmpR op_lt (pe_ix ix_tup (pe_ix ix_list (pv 0) (pv 3) (fun _ _ => rfl)) pe_int (fun _ _ => rfl)) (pe_ix ix_tup (pe_ix ix_list (pv 0) (pv 2) (fun _ _ => rfl)) pe_int (fun _ _ => rfl)) (nomark _)) (pw_and1 (pt_cmpR op_lt (pe_ix ix_tup (pe_ix ix_list (pv 0) (pv 2) (fun _ _ => rfl)) pe_int (fun _ _ => rfl)) (pe_ix ix_tup (pe_ix ix_list (pv 0) (pv 3) (fun _ _ => rfl)) pe_int (fun _ _ => rfl)) (nomark _))))) (pss_one (ps_if (PW.pt (pw_and (pt_cmpR op_lt (pe_ix ix_tup (pe_ix ix_list (pv 1) (pv 3) (fun _ _ => rfl)) pe_int (fun _ _ => rfl)) (pe_ix ix_tup (pe_ix ix_list (pv 1) (pv 2) (fun _ _ => rfl)) pe_int (fun _ _ => rfl)) (nomark _)) (pw_and1 (pt_cmpR op_lt (pe_ix ix_tup (pe_ix ix_list (pv 1) (pv 2) (fun _ _ => rfl)) pe_int (fun _ _ => rfl)) (pe_ix ix_tup (pe_ix ix_list (pv 1) (pv 3) (fun _ _ => rfl)) pe_int (fun _ _ => rfl)) (nomark _))))) (pss_one (ps_ret pe_bl)) pss_nil)) pss_nil)))))
      (pss_one (ps_ret pe_bl))), ?_⟩
    have len : us.length = ws.length := hE.1
    refine ⟨_, rfl, _, us.length, rfl, .inl ⟨_, SqL.of hp, rfl⟩, _, rfl, by omega, by omega, ?_⟩
    refine for_range (lo := 0) (n := ((us.length : Nat) : Int).toNat) (fun i σ H' => ∃ v2 v3, σ = [some (.ref p), some (.ref q), v2, v3] ∧ H' = H ∧ ∀ k, k < i → ∀ j, j < k → ¬ (Ov ws j k ∧ Ov hs j k))
      ⟨none, none, rfl, rfl, fun k h => absurd h (Nat.not_lt_zero _)⟩ ?_ ?_
    · rintro k σ H' hk ⟨v2, v3, rfl, rfl, hb⟩
      have hk1 : k < ws.length := by omega
      refine ⟨_, rfl, _, rfl, by omega, by omega, ?_⟩
      refine for_range (lo := 0) (n := (0 + (k : Int)).toNat) (fun i σ H2 => ∃ v3, σ = [some (.ref p), some (.ref q), some (.int (0 + (k : Int))), v3] ∧ H2 = H' ∧ ∀ j, j < i → ¬ (Ov ws j k ∧ Ov hs j k))
        ⟨v3, rfl, rfl, fun j h => absurd h (Nat.not_lt_zero _)⟩ ?_ ?_
      · rintro j σ H2 hj ⟨v3, rfl, rfl, hb2⟩
        have hjk : j < k := by omega
        obtain ⟨s, es⟩ : ∃ s, ws[j]? = some s := ⟨_, List.getElem?_eq_getElem (by omega)⟩
        obtain ⟨t, et⟩ : ∃ t, ws[k]? = some t := ⟨_, List.getElem?_eq_getElem (by omega)⟩
        obtain ⟨s', es'⟩ : ∃ s, hs[j]? = some s := ⟨_, List.getElem?_eq_getElem (by omega)⟩
        obtain ⟨t', et'⟩ : ∃ t, hs[k]? = some t := ⟨_, List.getElem?_eq_getElem (by omega)⟩
        obtain ⟨vs, evs, ps, rfl, hs1⟩ := hE.at es
        obtain ⟨vt, evt, pt, rfl, ht1⟩ := hE.at et
        obtain ⟨vs', evs', ps', rfl, hs2⟩ := hF.at es'
        obtain ⟨vt', evt', pt', rfl, ht2⟩ := hF.at et'
        have aj : (0 : Int) + (j : Int) = (j : Int) := by omega
        have ak : (0 : Int) + (k : Int) = (k : Int) := by omega
        have next : ¬ (Ov ws j k ∧ Ov hs j k) → ∃ v3 : Option V, ([some (.ref p), some (.ref q), some (.int (0 + (k : Int))), some (.int (0 + (j : Int)))] : L2.St) = [some (.ref p), some (.ref q), some (.int (0 + (k : Int))), v3] ∧ H2 = H2 ∧ ∀ j', j' < j + 1 → ¬ (Ov ws j' k ∧ Ov hs j' k) := fun h =>
          ⟨_, rfl, rfl, fun j' hj' => by
            by_cases e : j' = j
            · rw [e]
              exact h
            · exact hb2 j' (by omega)⟩
        refine ⟨_, rfl, _, rfl, p, us, _, _, rfl, rfl, SqL.of hp, L2.at_of aj evs, ps, _, 0, _, rfl, rfl, SqT.of hs1, atI_nat (j := 0) rfl,
          _, rfl, _, rfl, p, us, _, _, rfl, rfl, SqL.of hp, L2.at_of ak evt, pt, _, 1, _, rfl, rfl, SqT.of ht1, atI_nat (j := 1) rfl, _, _, rfl, rfl, _, rfl, ?_⟩
        refine ifB (fun c1 => ?_) (fun c1 => ?_)
        · refine ⟨_, rfl, _, rfl, p, us, _, _, rfl, rfl, SqL.of hp, L2.at_of ak evt, pt, _, 0, _, rfl, rfl, SqT.of ht1, atI_nat (j := 0) rfl,
            _, rfl, _, rfl, p, us, _, _, rfl, rfl, SqL.of hp, L2.at_of aj evs, ps, _, 1, _, rfl, rfl, SqT.of hs1, atI_nat (j := 1) rfl, _, _, rfl, rfl, _, rfl, ?_⟩
          refine ifB (fun c2 => ?_) (fun c2 => ?_)
          · refine ⟨_, rfl, _, rfl, q, zs, _, _, rfl, rfl, SqL.of hq, L2.at_of aj evs', ps', _, 0, _, rfl, rfl, SqT.of hs2, atI_nat (j := 0) rfl,
              _, rfl, _, rfl, q, zs, _, _, rfl, rfl, SqL.of hq, L2.at_of ak evt', pt', _, 1, _, rfl, rfl, SqT.of ht2, atI_nat (j := 1) rfl, _, _, rfl, rfl, _, rfl, ?_⟩
            refine ifB (fun c3 => ?_) (fun c3 => ?_)
            · refine ⟨_, rfl, _, rfl, q, zs, _, _, rfl, rfl, SqL.of hq, L2.at_of ak evt', pt', _, 0, _, rfl, rfl, SqT.of ht2, atI_nat (j := 0) rfl,
                _, rfl, _, rfl, q, zs, _, _, rfl, rfl, SqL.of hq, L2.at_of aj evs', ps', _, 1, _, rfl, rfl, SqT.of hs2, atI_nat (j := 1) rfl, _, _, rfl, rfl, _, rfl, ?_⟩
              refine ifB (fun c4 => ?_) (fun c4 => ?_)
              · refine k0 false ⟨fun h => (by cases h), fun h => ?_⟩
                exact absurd ⟨(ov_iff es et).mpr ⟨of_decide_eq_true c1, of_decide_eq_true c2⟩, (ov_iff es' et').mpr ⟨of_decide_eq_true c3, of_decide_eq_true c4⟩⟩ (h j k hjk hk1)
              · refine next fun ⟨_, h2⟩ => ?_
                have := ((ov_iff es' et').mp h2).2
                rw [decide_eq_true this] at c4
                cases c4
            · refine iteF (next fun ⟨_, h2⟩ => ?_)
              have := ((ov_iff es' et').mp h2).1
              rw [decide_eq_true this] at c3
              cases c3
          · refine next fun ⟨h1, _⟩ => ?_
            have := ((ov_iff es et).mp h1).2
            rw [decide_eq_true this] at c2
            cases c2
        · refine iteF (next fun ⟨h1, _⟩ => ?_)
          have := ((ov_iff es et).mp h1).1
          rw [decide_eq_true this] at c1
          cases c1
      · rintro σ H2 ⟨v3, rfl, rfl, hb2⟩
        refine ⟨_, _, rfl, rfl, fun k' hk' j' hj' => ?_⟩
        by_cases e : k' = k
        · subst e
          exact hb2 j' (by omega)
        · exact hb k' (by omega) j' hj'
    · rintro σ H' ⟨v2, v3, rfl, rfl, hb⟩
      exact k0 true ⟨fun _ j k h1 h2 => hb k (by omega) j h1, fun _ => rfl⟩
end
end MfW
namespace MfW
open PySem PySem.Spec PyProof.Rows L2
theorem Els.snoc {α : Type} {R : Hp → V → α → Prop} {H : Hp} {vs : List V} {xs : List α} (h : Els R H vs xs) {v : V} {x : α} (q : R H v x) : Els R H (vs ++ [v]) (xs ++ [x]) := by
  have := h.ins (k := xs.length) (Nat.le_refl _) q
  rw [List.take_length, List.drop_length, List.append_nil] at this
  have e1 : vs.take xs.length = vs := by rw [← h.1, List.take_length]
  have e2 : vs.drop xs.length = [] := by rw [← h.1, List.drop_length]
  rw [e1, e2, List.append_nil] at this
  exact this
theorem TL.putD {H : Hp} {p : Addr} {kvs : List (List Key × V)} {o : HO} (h : H p = some (.dT kvs)) : TL H (upd H p o) := fun b ys e => by
  rw [upd_ne (ne_of e h (by intro z; cases z))]
  exact e
def n3k (x : Mf.N3) : List Key := [.inl x.a, .inl x.b, .inl x.c]
theorem n3k_v (x : Mf.N3) : (n3k x).map kV = n3v x := rfl
theorem n3k_inj {x y : Mf.N3} (h : n3k x = n3k y) : x = y := by
  cases x
  cases y
  simp [n3k] at h
  simp [h]
def endsOf (ss : List (Mf.N3 × Mf.N3)) : List Mf.N3 := ss.flatMap fun s => [s.1, s.2]
theorem endsOf_snoc (ss : List (Mf.N3 × Mf.N3)) (s : Mf.N3 × Mf.N3) : endsOf (ss ++ [s]) = endsOf ss ++ [s.1] ++ [s.2] := by
  unfold endsOf
  rw [List.flatMap_append, List.append_assoc]
  rfl
theorem mem_ends {ss : List (Mf.N3 × Mf.N3)} {z : Mf.N3} : z ∈ endsOf ss ↔ ∃ s ∈ ss, z = s.1 ∨ z = s.2 := by
  unfold endsOf
  rw [List.mem_flatMap]
  constructor
  · rintro ⟨s, h1, h2⟩
    refine ⟨s, h1, ?_⟩
    simpa using h2
  · rintro ⟨s, h1, h2⟩
    exact ⟨s, h1, by simpa using h2⟩
theorem ends_len (ss : List (Mf.N3 × Mf.N3)) : (endsOf ss).length = 2 * ss.length := by
  induction ss with
  | nil => rfl
  | cons s r ih =>
    show (endsOf r).length + 1 + 1 = 2 * (r.length + 1)
    omega
/-- the place of a number in a row -/
def ixIn (os : List Mf.N3) (z : Mf.N3) : Nat := os.idxOf z
theorem ixIn_at : ∀ {os : List Mf.N3} {z : Mf.N3}, z ∈ os → os[ixIn os z]? = some z
  | [], z, h => by simp at h
  | o :: os, z, h => by
    unfold ixIn
    by_cases e : o = z
    · subst e
      rw [List.idxOf_cons_self]
      rfl
    · have e3 : (o == z) = false := beq_eq_false_iff_ne.mpr e
      rw [show (o :: os).idxOf z = os.idxOf z + 1 by simp [List.idxOf_cons, e3]]
      have h2 : z ∈ os := by
        rcases List.mem_cons.mp h with q | q
        · exact absurd q.symm e
        · exact q
      exact ixIn_at h2
def placesOf (os : List Mf.N3) (ss : List (Mf.N3 × Mf.N3)) : List (Int × Int) := ss.map fun s => ((ixIn os s.1 : Int), (ixIn os s.2 : Int))
section
variable {P : Program} {w : World} {K : PySem.W.Frag} {mg : Str → Option Value} {base : Heap}
abbrev N_places_in : List Str := ["d", "spans", "ends", "low", "high", "book", "place", "one"]
theorem sc_places_in : FnScope N_places_in ["d", "spans"] (defScope (top 33)) := ⟨rfl, rfl, rfl, by decide +kernel, rfl, by decide +kernel, by decide +kernel⟩

def spPlaces : Sp := fun vs H Q _ => ∃ (r : Mf.Rt) (p : Addr) (us : List V) (ss : List (Mf.N3 × Mf.N3)), vs = [.int r.d, .ref p] ∧ RtOk r ∧ H p = some (.lst us) ∧ Els SpanAt H us ss ∧ (∀ s ∈ ss, (Mf.Nm s.1 ∧ Mf.Sm 900 s.1) ∧ (Mf.Nm s.2 ∧ Mf.Sm 900 s.2)) ∧ ss.length ≤ 200 ∧
  ∀ H' D zs os, Same H H' → H D = none → H' D = some (.lst zs) → Mf.Rise r os → (∀ z, z ∈ os ↔ z ∈ endsOf ss) → Els PairAt H' zs (placesOf os ss) → Q (.ref D) H'
theorem ok_places (T : Txt K mg) (D : Df K mg "places_in" 33) (c_ordered : C8.Cal P w K mg base 6 "ordered" spOrdered []) : C8.Cal P w K mg base 7 "places_in" spPlaces [] := by
  refine mk_cal D sc_places_in (fun vs H Q E h => ?_) (fun _ _ _ _ _ _ us hl => match us, hl with | [_, _], _ => rfl) (fun cdv A outer s f H vs Q E hr h => ?_)
  · obtain ⟨r, p, us, ss, rfl, _⟩ := h
    rfl
  · obtain ⟨r, p, us, ss, rfl, hd, hp, hE, hs, hl, q⟩ := h
    refine ⟨_, (pss_cons (ps_set (i := 2) sc_places_in.nd rfl (Or.inl rfl) (pe_lst pa_nil))
      (pss_cons (ps_for PassesOwn.never rfl (pi_list (pv 1)) (pg_tup rfl (pgs_cons (pg_name (i := 3) sc_places_in.nd rfl (Or.inl rfl)) (pgs_cons (pg_name (i := 4) sc_places_in.nd rfl (Or.inl rfl)) pgs_nil)))
      (pss_cons (ps_expr (pe_bm PySem.F.plainAttrs_list PySem.F.slot_list_append PySem.F.type_list_append mt_append (pv 2) (pa_cons (pv 3) pa_nil)))
      (pss_one (ps_expr (pe_bm PySem.F.plainAttrs_list PySem.F.slot_list_append PySem.F.type_list_append mt_append (pv 2) (pa_cons (pv 4) pa_nil))))))
      (pss_cons (ps_set (i := 5) sc_places_in.nd rfl (Or.inr rfl) (pe_dnewT))
      (pss_cons (ps_for PassesOwn.never rfl (pi_enum (by rfl) T.enumerate (pa_cons (C8.pe_c c_ordered hr (by decide) (by rfl) (pa_cons (pv 0) (pa_cons (pv 2) pa_nil))) pa_nil)) (pg_tup rfl (pgs_cons (pg_name (i := 6) sc_places_in.nd rfl (Or.inl rfl)) (pgs_cons (pg_name (i := 7) sc_places_in.nd rfl (Or.inl rfl)) pgs_nil)))
      (pss_one (ps_dput (hu_of hr) (pv 5) (pv 7) (pv 6) rfl)))
      (pss_one (ps_ret (pe_lc (own := [("low", 3), ("high", 4)]) (g := gTup K 2 (gCons (gName 3) (gCons (gName 4) gNil))) rfl sc_places_in.nd (pi_list (pv 1)) (blkOk_by (own := [("low", 3), ("high", 4)]) (N := N_places_in) (sc := defScope (top 33)) (by decide +kernel)) (fun _ _ _ _ _ => (by exact (pg_tup rfl (pgs_cons (pg_name (i := 3) sc_places_in.nd rfl (Or.inl rfl)) (pgs_cons (pg_name (i := 4) sc_places_in.nd rfl (Or.inl rfl)) pgs_nil))))) (fun _ _ _ _ _ => pts_nil) (fun _ _ _ _ _ => (pe_tup (pa_cons (pe_dget (hu_of hr) (pv 5) (pv 3) (fun _ _ => rfl)) (pa_cons (pe_dget (hu_of hr) (pv 5) (pv 4) (fun _ _ => rfl)) pa_nil))))))))))), ?_⟩
    have sl : sizeLine = 16777216 := sizeLine_eq
    -- the ends
    refine ⟨Nat.zero_le _, fun E0 hE0 => ?_⟩
    have hs0 := same_new (o := .lst []) hE0
    refine ⟨_, rfl, p, rfl, ⟨_, SqL.of (hs0 _ _ hp)⟩, for_list (K := K) (a := p) (xs := us) (fun i σ H' => ∃ zs v3 v4, σ = [some (.int r.d), some (.ref p), some (.ref E0), v3, v4, none, none, none] ∧ Same H H' ∧ H' E0 = some (.lst zs) ∧ Els NuH H' zs (endsOf (ss.take i)))
      ⟨[], none, none, rfl, hs0, upd_same, .nil⟩ (fun i σ H' _ ⟨_, _, _, _, s1, _⟩ => SqL.of (s1 _ _ hp)) ?_ ?_⟩
    · rintro i y σ H1 hy ⟨zs, v3, v4, rfl, s1, hz, hZ⟩
      obtain ⟨s, es, p1, u1, u2, rfl, h0, h1, h2⟩ := hE.2 i y hy
      have l1 : TL H H1 := .of s1
      have zl : zs.length ≤ 400 := by
        have := hZ.1
        rw [ends_len, List.length_take] at this
        omega
      refine ⟨p1, _, rfl, SqT.of (l1 _ _ h0), rfl, _, _, rfl, _, _, rfl, rfl, ?_⟩
      refine ⟨_, rfl, .inl ⟨rfl, _, SqL.of hz⟩, _, rfl, E0, _, _, rfl, rfl, hz, by omega, ?_⟩
      refine ⟨_, rfl, .inl ⟨rfl, _, SqL.of upd_same⟩, _, rfl, E0, _, _, rfl, rfl, upd_same, by rw [List.length_append, List.length_singleton]; omega, ?_⟩
      rw [upd_upd]
      have l2 : TL H1 (upd H1 E0 (.lst (zs ++ [u1] ++ [u2]))) := .put hz
      refine ⟨_, _, _, rfl, same_put s1 (Same.refl _) hE0, upd_same, ?_⟩
      rw [List.take_add_one, es]
      show Els NuH _ _ (endsOf (ss.take i ++ [s]))
      rw [endsOf_snoc]
      exact ((hZ.mono fun v z h => l2.nuH h).snoc (l2.nuH (l1.nuH h1))).snoc (l2.nuH (l1.nuH h2))
    · rintro σ H1 ⟨zs, v3, v4, rfl, s1, hz, hZ⟩
      rw [hE.1, List.take_length] at hZ
      -- the book
      refine fun B hB => ?_
      have hs2 := same_new (o := .dT []) hB
      have l2 : TL H1 (upd H1 B (.dT [])) := .new hB
      refine ⟨_, rfl, _, rfl, r, E0, zs, endsOf ss, rfl, hd, hs2 _ _ hz, hZ.mono fun v z h => l2.nuH h, fun x hx => ?_, by rw [ends_len]; omega, fun H2 F fs os s3 hF hF2 hO hR hM hol => ?_⟩
      · obtain ⟨s, h1, h2 | h2⟩ := mem_ends.mp hx
        · rw [h2]
          exact (hs s h1).1
        · rw [h2]
          exact (hs s h1).2
      have s02 : Same H H2 := s1.trans (hs2.trans s3)
      have hBF : B ≠ F := ne_of_none upd_same hF
      have HB : H B = none := s1.free hB
      have olen : fs.length ≤ 1000000 := by
        have := hO.1
        rw [ends_len] at hol
        omega
      refine ⟨F, fs, rfl, SqL.of hF2, for_it (walk_enum (xs := fs)) (fun i σ H' => ∃ kvs v6 v7, σ = [some (.int r.d), some (.ref p), some (.ref E0), v3, v4, some (.ref B), v6, v7] ∧ Same H H' ∧ H' F = some (.lst fs) ∧ Els NuH H' fs os ∧ H' B = some (.dT kvs) ∧ kvs.length ≤ i ∧ ∀ j z, j < i → os[j]? = some z → valV kvs (n3k z) = some (.int (j : Int)))
        ⟨[], none, none, rfl, s02, hF2, hO, s3 _ _ upd_same, Nat.le_refl _, fun j z h => absurd h (Nat.not_lt_zero _)⟩ (fun i σ H' _ ⟨_, _, _, _, _, h, _⟩ => SqL.of h) ?_ ?_⟩
      · rintro i y σ H3 H4 hi ⟨kvs, v6, v7, rfl, s3', hF3, hO3, hB3, hk, hv⟩ ⟨Tp, a, b, rfl, nT, rfl, ea, eb⟩
        have ea : V.int (i : Int) = a := Option.some.inj ea
        subst ea
        obtain ⟨z, ez, q1, rfl, hq1⟩ := hO3.2 i b eb
        have sT := same_new (o := .tup [.int (i : Int), .ref q1]) nT
        have lB : TL (upd H3 Tp (.tup [.int (i : Int), .ref q1])) (upd (upd H3 Tp (.tup [.int (i : Int), .ref q1])) B (.dT (putK kvs (n3k z) (.int (i : Int))))) := .putD (sT _ _ hB3)
        have l4 : TL H3 (upd (upd H3 Tp (.tup [.int (i : Int), .ref q1])) B (.dT (putK kvs (n3k z) (.int (i : Int))))) := (TL.of sT).trans lB
        refine ⟨Tp, _, rfl, SqT.of upd_same, rfl, _, _, rfl, _, _, rfl, rfl, ?_⟩
        refine ⟨_, rfl, _, rfl, _, rfl, B, _, rfl, DPut.t (k := n3k z) (sT _ _ hB3) (sT _ _ hq1) (by omega), ?_⟩
        refine ⟨_, _, _, rfl, same_put s3' sT HB, ?_, hO3.mono fun v z h => l4.nuH h, upd_same, ?_, fun j y hj ey => ?_⟩
        · rw [upd_ne hBF.symm]
          exact sT _ _ hF3
        · have := length_putK kvs (n3k z) (.int (i : Int))
          omega
        · rw [valV_put]
          by_cases e : j = i
          · subst e
            rw [ez] at ey
            rw [if_pos (by rw [Option.some.inj ey])]
          · rw [if_neg fun h => ?_]
            · exact hv j y (by omega) ey
            · have e2 := n3k_inj h
              subst e2
              have := hR j i y y (by omega) ey ez
              grind
      · rintro σ H3 ⟨kvs, v6, v7, rfl, s3', hF3, hO3, hB3, hk, hv⟩
        have hv' : ∀ z ∈ os, valV kvs (n3k z) = some (.int (ixIn os z : Int)) := fun z hz => by
          have e := ixIn_at hz
          have hi := (List.getElem?_eq_some_iff.mp e).1
          exact hv _ z (by rw [hO.1]; exact hi) e
        -- the places
        refine ⟨_, rfl, p, rfl, ⟨_, SqL.of (s3' _ _ hp)⟩, fun D hD => ?_⟩
        refine lc_listM (xs := us) (fun i v H => ∃ x, (placesOf os ss)[i]? = some x ∧ PairAt H v x) (fun i v H H' l ⟨x, e, h⟩ => ⟨x, e, l.pair h⟩) hD (s3' _ _ hp) (by rw [hE.1]; omega) (fun i y H4 N hy sm k => ?_) (fun H4 sm m => ?_)
        · obtain ⟨s, es, p1, u1, u2, rfl, h0, ⟨q1, rfl, h1⟩, ⟨q2, rfl, h2⟩⟩ := hE.2 i y hy
          have ms := List.mem_of_getElem? es
          have l4 : TL H H4 := .of (s3'.trans sm)
          have d1 : DGet H4 B (.ref q1) (some (.int (ixIn os s.1 : Int))) := by
            rw [← hv' s.1 ((hM _).mpr (mem_ends.mpr ⟨s, ms, .inl rfl⟩))]
            exact DGet.t (k := n3k s.1) (sm _ _ hB3) (l4 _ _ h1)
          have d2 : DGet H4 B (.ref q2) (some (.int (ixIn os s.2 : Int))) := by
            rw [← hv' s.2 ((hM _).mpr (mem_ends.mpr ⟨s, ms, .inr rfl⟩))]
            exact DGet.t (k := n3k s.2) (sm _ _ hB3) (l4 _ _ h2)
          refine ⟨p1, _, rfl, SqT.of (l4 _ _ h0), rfl, _, _, rfl, _, _, rfl, rfl, ?_⟩
          refine ⟨rfl, ?_⟩
          refine ⟨_, rfl, _, rfl, B, _, rfl, d1, _, rfl, _, rfl, B, _, rfl, d2, by show 2 ≤ sizeLine; omega, fun pp np => ?_⟩
          exact k _ _ (same_new np) ⟨_, by unfold placesOf; rw [List.getElem?_map, es]; rfl, pp, rfl, upd_same⟩
        · obtain ⟨acc, h1, h2⟩ := m.els (by unfold placesOf; rw [List.length_map, hE.1])
          exact q H4 D acc os (s3'.trans sm) (s3'.free hD) h1 hR hM h2
end
end MfW
namespace MfW
open PySem PySem.Spec PyProof.Rows L2
/-- a list of truths, with what is known of each -/
theorem made_bools2 {R : Nat → Bool → Prop} {D : Addr} {n : Nat} {H : Hp} (h : Made (fun i v _ => ∃ c, v = .bl c ∧ R i c) D n H) : ∃ bs : List Bool, H D = some (.lst (bs.map V.bl)) ∧ bs.length = n ∧ ∀ i c, bs[i]? = some c → R i c := by
  obtain ⟨acc, h1, h2, h3⟩ := h
  have e : acc = (acc.map fun v => match v with | .bl c => c | _ => false).map V.bl := by
    rw [List.map_map]
    refine List.ext_getElem? fun i => ?_
    rw [List.getElem?_map]
    cases ei : acc[i]? with
    | none => rfl
    | some v =>
      obtain ⟨c, e, _⟩ := h3 i v ei
      subst e
      rfl
  refine ⟨_, by rw [h1]; exact congrArg (fun l => some (HO.lst l)) e, by rw [List.length_map, h2], fun i c hc => ?_⟩
  rw [List.getElem?_map] at hc
  cases ei : acc[i]? with
  | none =>
    rw [ei] at hc
    cases hc
  | some v =>
    obtain ⟨c', e, q⟩ := h3 i v ei
    subst e
    rw [ei] at hc
    have : c' = c := Option.some.inj hc
    rw [← this]
    exact q
theorem all_false {bs : List Bool} {i : Nat} (h : bs[i]? = some false) : bs.all id = false := by
  rw [List.all_eq_false]
  exact ⟨false, List.mem_of_getElem? h, by simp⟩
theorem all_true {bs : List Bool} (h : ∀ (i : Nat) (c : Bool), bs[i]? = some c → c = true) : bs.all id = true := by
  rw [List.all_eq_true]
  intro c hc
  obtain ⟨i, e⟩ := List.mem_iff_getElem?.mp hc
  exact h i c e
theorem any_iff {bs : List Bool} : bs.any id = true ↔ ∃ i : Nat, bs[i]? = some true := by
  rw [List.any_eq_true]
  constructor
  · rintro ⟨c, hc, e⟩
    obtain ⟨i, e2⟩ := List.mem_iff_getElem?.mp hc
    have : c = true := e
    rw [this] at e2
    exact ⟨i, e2⟩
  · rintro ⟨i, e⟩
    exact ⟨true, List.mem_of_getElem? e, rfl⟩
theorem plus_smn {n : Nat} {x y : Mf.N3} (hx : Mf.Sm n x) (hy : Mf.Sm n y) : Mf.Sm (n + n + 1) (Mf.plusN x y) := by
  obtain ⟨a1, b1, c1, d1⟩ := hx
  obtain ⟨a2, b2, c2, d2⟩ := hy
  have hc : x.c * y.c ≠ 0 := Mf.mul_ne (by omega) (by omega)
  obtain ⟨g, g0, ea, eb, ec, hp, _⟩ := Mf.low_eq (a := x.a * y.c + y.a * x.c) (b := x.b * y.c + y.b * x.c) hc
  have sz : ∀ {u z : Int}, u = g * z → z.natAbs ≤ u.natAbs := fun {u z} e => by
    rw [e, Int.natAbs_mul]
    exact Nat.le_mul_of_pos_left _ (by omega)
  have e2 : 2 ^ (n + n + 1) = 2 ^ (n + n) * 2 := Nat.pow_succ ..
  have q1 := sz ea
  have q2 := sz eb
  have q3 := sz ec
  have t1 : (x.a * y.c).natAbs < 2 ^ (n + n) := wide_lt a1 d2
  have t2 : (y.a * x.c).natAbs < 2 ^ (n + n) := wide_lt a2 d1
  have t3 : (x.b * y.c).natAbs < 2 ^ (n + n) := wide_lt b1 d2
  have t4 : (y.b * x.c).natAbs < 2 ^ (n + n) := wide_lt b2 d1
  have t5 : (x.c * y.c).natAbs < 2 ^ (n + n) := wide_lt d1 d2
  have k : ∀ {u z : Nat}, u ≤ z → z < 2 ^ (n + n) + 2 ^ (n + n) → u < 2 ^ (n + n + 1) := fun h1 h2 => by
    rw [e2]
    generalize (2 : Nat) ^ (n + n) = B0 at *
    omega
  exact ⟨k q1 (by omega), k q2 (by omega), hp, k q3 (by omega)⟩
theorem placesOv {r : Mf.Rt} {os : List Mf.N3} {ss : List (Mf.N3 × Mf.N3)} (hR : Mf.Rise r os) (hM : ∀ z, z ∈ os ↔ z ∈ endsOf ss) {j k : Nat} {s t : Mf.N3 × Mf.N3} (hj : ss[j]? = some s) (hk : ss[k]? = some t) :
    Ov (placesOf os ss) j k ↔ Mf.val r s.1 < Mf.val r t.2 ∧ Mf.val r t.1 < Mf.val r s.2 := by
  have m1 := List.mem_of_getElem? hj
  have m2 := List.mem_of_getElem? hk
  have i1 := ixIn_at ((hM s.1).mpr (mem_ends.mpr ⟨s, m1, .inl rfl⟩))
  have i2 := ixIn_at ((hM s.2).mpr (mem_ends.mpr ⟨s, m1, .inr rfl⟩))
  have i3 := ixIn_at ((hM t.1).mpr (mem_ends.mpr ⟨t, m2, .inl rfl⟩))
  have i4 := ixIn_at ((hM t.2).mpr (mem_ends.mpr ⟨t, m2, .inr rfl⟩))
  have e1 : (placesOf os ss)[j]? = some ((ixIn os s.1 : Int), (ixIn os s.2 : Int)) := by
    unfold placesOf
    rw [List.getElem?_map, hj]
    rfl
  have e2 : (placesOf os ss)[k]? = some ((ixIn os t.1 : Int), (ixIn os t.2 : Int)) := by
    unfold placesOf
    rw [List.getElem?_map, hk]
    rfl
  rw [ov_iff e1 e2, ← hR.lt_iff i1 i4, ← hR.lt_iff i3 i2]
  constructor <;> rintro ⟨h1, h2⟩ <;> constructor <;> omega
section
variable {P : Program} {w : World} {K : PySem.W.Frag} {mg : Str → Option Value} {base : Heap}
/-- tiles fit to be looked at -/
structure Fit (r : Mf.Rt) (W Hh : Mf.N3) (ts : List Mf.T4) : Prop where
  nW : Mf.Nm W
  nH : Mf.Nm Hh
  sW : Mf.Sm 401 W
  sH : Mf.Sm 401 Hh
  nm : ∀ t ∈ ts, t.nm
  sm : ∀ t ∈ ts, SmT 401 t
  ar : Mf.ArOk r ts
  len : ts.length ≤ 100
theorem Fit.spanW {r : Mf.Rt} {W Hh : Mf.N3} {ts : List Mf.T4} (F : Fit r W Hh ts) : ∀ s ∈ spansW ts, (Mf.Nm s.1 ∧ Mf.Sm 900 s.1) ∧ (Mf.Nm s.2 ∧ Mf.Sm 900 s.2) := fun s hs => by
  obtain ⟨t, ht, e⟩ := List.mem_map.mp hs
  subst e
  obtain ⟨n1, n2, n3, n4⟩ := F.nm t ht
  obtain ⟨s1, s2, s3, s4⟩ := F.sm t ht
  exact ⟨⟨n1, sm_mono s1 (by decide)⟩, Mf.plus_nm n1.ne n3.ne, sm_mono (plus_smn s1 s3) (by decide)⟩
theorem Fit.spanH {r : Mf.Rt} {W Hh : Mf.N3} {ts : List Mf.T4} (F : Fit r W Hh ts) : ∀ s ∈ spansH ts, (Mf.Nm s.1 ∧ Mf.Sm 900 s.1) ∧ (Mf.Nm s.2 ∧ Mf.Sm 900 s.2) := fun s hs => by
  obtain ⟨t, ht, e⟩ := List.mem_map.mp hs
  subst e
  obtain ⟨n1, n2, n3, n4⟩ := F.nm t ht
  obtain ⟨s1, s2, s3, s4⟩ := F.sm t ht
  exact ⟨⟨n2, sm_mono s2 (by decide)⟩, Mf.plus_nm n2.ne n4.ne, sm_mono (plus_smn s2 s4) (by decide)⟩
abbrev N_cover : List Str := ["d", "width", "height", "tiles", "wide", "high", "left", "right", "bottom", "top"]
theorem sc_cover : FnScope N_cover ["d", "width", "height", "tiles"] (defScope (top 38)) := ⟨rfl, rfl, rfl, by decide +kernel, rfl, by decide +kernel, by decide +kernel⟩

def spCover : Sp := fun vs H Q _ => ∃ (r : Mf.Rt) (v1 v2 : V) (p : Addr) (W Hh : Mf.N3) (ts : List Mf.T4), vs = [.int r.d, v1, v2, .ref p] ∧ RtOk r ∧ NuH H v1 W ∧ NuH H v2 Hh ∧ TilesAt H p ts ∧ Fit r W Hh ts ∧
  ∀ H' b, Same H H' → (b = true ↔ Mf.Cover r W Hh ts) → Q (.bl b) H'
theorem ok_cover (T : Txt K mg) (D : Df K mg "cover" 38) (c_wide_spans : C8.Cal P w K mg base 4 "wide_spans" (spSpans spansW) []) (c_high_spans : C8.Cal P w K mg base 4 "high_spans" (spSpans spansH) []) (c_is_above : C8.Cal P w K mg base 5 "is_above" (spAbove K) [])
    (c_area_of : C8.Cal P w K mg base 4 "area_of" (spArea K) []) (c_times : C8.Cal P w K mg base 3 "times" (spTimes K) []) (c_no_two_meet : C8.Cal P w K mg base 1 "no_two_meet" spNoMeet []) (c_places_in : C8.Cal P w K mg base 7 "places_in" spPlaces []) : C8.Cal P w K mg base 8 "cover" spCover [] := by
  refine mk_cal D sc_cover (fun vs H Q E h => ?_) (fun _ _ _ _ _ _ us hl => match us, hl with | [_, _, _, _], _ => rfl) (fun cdv A outer s f H vs Q E hr h => ?_)
  · obtain ⟨r, v1, v2, p, W, Hh, ts, rfl, _⟩ := h
    rfl
  · obtain ⟨r, v1, v2, p, W, Hh, ts, rfl, hd, hW, hH, hT, F, q⟩ := h
    refine ⟨_, (pss_cons (ps_par (i := 4) (j := 5) (by rfl) sc_cover.nd rfl rfl (by decide) rfl rfl (pa_cons (C8.pe_c c_wide_spans hr (by decide) (by rfl) (pa_cons (pv 3) pa_nil)) (pa_cons (C8.pe_c c_high_spans hr (by decide) (by rfl) (pa_cons (pv 3) pa_nil)) pa_nil)) (by rfl))
      (pss_cons (ps_if (pt_val (pe_callB (cr_any rfl) (by rfl) T.any (by decide +kernel) (pa_cons (pe_lc (own := [("left", 6), ("right", 7)]) (g := gTup K 2 (gCons (gName 6) (gCons (gName 7) gNil))) rfl sc_cover.nd (pi_list (pv 4)) (blkOk_by (own := [("left", 6), ("right", 7)]) (N := N_cover) (sc := defScope (top 38)) (by decide +kernel)) (fun _ _ _ _ _ => (by exact (pg_tup rfl (pgs_cons (pg_name (i := 6) sc_cover.nd rfl (Or.inl rfl)) (pgs_cons (pg_name (i := 7) sc_cover.nd rfl (Or.inl rfl)) pgs_nil))))) (fun _ _ _ _ _ => pts_nil) (fun _ _ _ _ _ => (C8.pe_c c_is_above hr (by decide) (by rfl) (pa_cons (pv 0) (pa_cons (pv 7) (pa_cons (pv 1) pa_nil)))))) pa_nil))) (pss_one (ps_ret pe_bl)) pss_nil)
      (pss_cons (ps_if (PW.pt (pw_or (pt_val (pe_callB (cr_any rfl) (by rfl) T.any (by decide +kernel) (pa_cons (pe_lc (own := [("bottom", 8), ("top", 9)]) (g := gTup K 2 (gCons (gName 8) (gCons (gName 9) gNil))) rfl sc_cover.nd (pi_list (pv 5)) (blkOk_by (own := [("bottom", 8), ("top", 9)]) (N := N_cover) (sc := defScope (top 38)) (by decide +kernel)) (fun _ _ _ _ _ => (by exact (pg_tup rfl (pgs_cons (pg_name (i := 8) sc_cover.nd rfl (Or.inl rfl)) (pgs_cons (pg_name (i := 9) sc_cover.nd rfl (Or.inl rfl)) pgs_nil))))) (fun _ _ _ _ _ => pts_nil) (fun _ _ _ _ _ => (C8.pe_c c_is_above hr (by decide) (by rfl) (pa_cons (pv 0) (pa_cons (pv 9) (pa_cons (pv 2) pa_nil)))))) pa_nil))) (pw_or1 (pt_cmpR (op_neD hr.units) (C8.pe_c c_area_of hr (by decide) (by rfl) (pa_cons (pv 0) (pa_cons (pv 3) pa_nil))) (C8.pe_c c_times hr (by decide) (by rfl) (pa_cons (pv 0) (pa_cons (pv 1) (pa_cons (pv 2) pa_nil)))) (nomark _))))) (pss_one (ps_ret pe_bl)) pss_nil)
      (pss_one (ps_ret (C8.pe_c c_no_two_meet hr (by decide) (by rfl) (pa_cons (C8.pe_c c_places_in hr (by decide) (by rfl) (pa_cons (pv 0) (pa_cons (pv 4) pa_nil))) (pa_cons (C8.pe_c c_places_in hr (by decide) (by rfl) (pa_cons (pv 0) (pa_cons (pv 5) pa_nil))) pa_nil)))))))), ?_⟩
    have sl : sizeLine = 16777216 := sizeLine_eq
    have hl := F.len
    refine ⟨_, rfl, p, ts, rfl, hT, fun t ht => ?_, by omega, fun H1 A1 us1 s1 _ h1 e1 => ?_⟩
    · obtain ⟨a1, a2, a3, a4⟩ := F.sm t ht
      exact ⟨sm_mono a1 (by decide), sm_mono a2 (by decide), sm_mono a3 (by decide), sm_mono a4 (by decide)⟩
    refine ⟨_, rfl, p, ts, rfl, TL.tiles (.of s1) hT, fun t ht => ?_, by omega, fun H2 A2 us2 s2 _ h2 e2 => ?_⟩
    · obtain ⟨a1, a2, a3, a4⟩ := F.sm t ht
      exact ⟨sm_mono a1 (by decide), sm_mono a2 (by decide), sm_mono a3 (by decide), sm_mono a4 (by decide)⟩
    refine ⟨_, _, rfl, ?_⟩
    have s12 := s1.trans s2
    have l2 : TL H1 H2 := .of s2
    have e1' : Els SpanAt H2 us1 (spansW ts) := e1.mono fun v x h => l2.span h
    have lenW : (spansW ts).length = ts.length := List.length_map ..
    have lenH : (spansH ts).length = ts.length := List.length_map ..
    -- any(.. right ..)
    refine ⟨_, rfl, A1, rfl, ⟨_, SqL.of (s2 _ _ h1)⟩, fun D1 hD1 => ?_⟩
    refine lc_listM (xs := us1) (fun i v _ => ∃ c, v = .bl c ∧ ∀ t, ts[i]? = some t → c = abv (t.X r + t.W r) (Mf.val r W)) (fun i v H H' _ h => h) hD1 (s2 _ _ h1) (by rw [e1.1, lenW]; omega) (fun i y H4 N hy sm k => ?_) (fun H3 s3 m3 => ?_)
    · obtain ⟨x, ex, p1, u1, u2, rfl, h0, n1, n2⟩ := e1'.2 i y hy
      have l4 : TL H2 H4 := .of sm
      obtain ⟨g1, g2⟩ := F.spanW x (List.mem_of_getElem? ex)
      refine ⟨p1, _, rfl, SqT.of (l4 _ _ h0), rfl, _, _, rfl, _, _, rfl, rfl, ?_⟩
      refine ⟨rfl, ?_⟩
      refine ⟨_, rfl, _, rfl, _, rfl, r, u2, v1, x.2, W, rfl, hd, (l4.nuH n2).nu, (TL.nuH (.of (s12.trans sm)) hW).nu, g2.1, F.nW, g2.2, sm_mono F.sW (by decide), fun H5 s5 => ?_⟩
      refine k _ _ s5 ⟨_, rfl, fun t et => ?_⟩
      unfold spansW at ex
      rw [List.getElem?_map, et] at ex
      have ex := Option.some.inj ex
      subst ex
      obtain ⟨n1, n2, n3, n4⟩ := F.nm t (List.mem_of_getElem? et)
      show abv (Mf.val r (Mf.plusN t.x t.w)) (Mf.val r W) = _
      rw [Mf.plus_val n1.ne n3.ne]
      rfl
    obtain ⟨b1, hb1, lb1, rb1⟩ := made_bools2 m3
    refine ⟨D1, _, rfl, SqL.of hb1, _, rfl, ?_⟩
    have s13 := s12.trans s3
    refine ifB (fun c1 => ?_) (fun c1 => ?_)
    · obtain ⟨i, ei⟩ := any_iff.mp c1
      have hi := (List.getElem?_eq_some_iff.mp ei).1
      rw [lb1, e1.1, lenW] at hi
      have et : ts[i]? = some ts[i] := List.getElem?_eq_getElem hi
      have := rb1 i true ei _ et
      have lt := abv_iff.mp this.symm
      refine q _ false s13 ⟨fun h => (by cases h), fun C => ?_⟩
      have := C.wide _ (List.mem_of_getElem? et)
      exact absurd lt (by grind)
    -- any(.. top ..) or the areas
    have e2' : Els SpanAt H3 us2 (spansH ts) := e2.mono fun v x h => TL.span (.of s3) h
    have w1 : ∀ t ∈ ts, t.X r + t.W r ≤ Mf.val r W := fun t ht => by
      obtain ⟨i, et⟩ := List.mem_iff_getElem?.mp ht
      have hi := (List.getElem?_eq_some_iff.mp et).1
      obtain ⟨c, ec⟩ : ∃ c, b1[i]? = some c := ⟨_, List.getElem?_eq_getElem (by rw [lb1, e1.1, lenW]; exact hi)⟩
      have e3 := rb1 i c ec t et
      apply Classical.byContradiction
      intro hn
      have : abv (t.X r + t.W r) (Mf.val r W) = true := abv_iff.mpr (by grind)
      rw [this] at e3
      rw [e3] at ec
      rw [any_iff.mpr ⟨i, ec⟩] at c1
      cases c1
    refine ⟨_, rfl, A2, rfl, ⟨_, SqL.of (s3 _ _ h2)⟩, fun D2 hD2 => ?_⟩
    refine lc_listM (xs := us2) (fun i v _ => ∃ c, v = .bl c ∧ ∀ t, ts[i]? = some t → c = abv (t.Y r + t.H r) (Mf.val r Hh)) (fun i v H H' _ h => h) hD2 (s3 _ _ h2) (by rw [e2.1, lenH]; omega) (fun i y H4 N hy sm k => ?_) (fun H4 s4 m4 => ?_)
    · obtain ⟨x, ex, p1, u1, u2, rfl, h0, n1, n2⟩ := e2'.2 i y hy
      have l4 : TL H3 H4 := .of sm
      obtain ⟨g1, g2⟩ := F.spanH x (List.mem_of_getElem? ex)
      refine ⟨p1, _, rfl, SqT.of (l4 _ _ h0), rfl, _, _, rfl, _, _, rfl, rfl, ?_⟩
      refine ⟨rfl, ?_⟩
      refine ⟨_, rfl, _, rfl, _, rfl, r, u2, v2, x.2, Hh, rfl, hd, (l4.nuH n2).nu, (TL.nuH (.of (s13.trans sm)) hH).nu, g2.1, F.nH, g2.2, sm_mono F.sH (by decide), fun H5 s5 => ?_⟩
      refine k _ _ s5 ⟨_, rfl, fun t et => ?_⟩
      unfold spansH at ex
      rw [List.getElem?_map, et] at ex
      have ex := Option.some.inj ex
      subst ex
      obtain ⟨n1, n2, n3, n4⟩ := F.nm t (List.mem_of_getElem? et)
      show abv (Mf.val r (Mf.plusN t.y t.h)) (Mf.val r Hh) = _
      rw [Mf.plus_val n2.ne n4.ne]
      rfl
    obtain ⟨b2, hb2, lb2, rb2⟩ := made_bools2 m4
    refine ⟨D2, _, rfl, SqL.of hb2, _, rfl, ?_⟩
    have s14 := s13.trans s4
    refine ifB (fun c2 => iteT ?_) (fun c2 => ?_)
    · obtain ⟨i, ei⟩ := any_iff.mp c2
      have hi := (List.getElem?_eq_some_iff.mp ei).1
      rw [lb2, e2.1, lenH] at hi
      have et : ts[i]? = some ts[i] := List.getElem?_eq_getElem hi
      have := rb2 i true ei _ et
      have lt := abv_iff.mp this.symm
      refine q _ false s14 ⟨fun h => (by cases h), fun C => ?_⟩
      have := C.high _ (List.mem_of_getElem? et)
      exact absurd lt (by grind)
    have w2 : ∀ t ∈ ts, t.Y r + t.H r ≤ Mf.val r Hh := fun t ht => by
      obtain ⟨i, et⟩ := List.mem_iff_getElem?.mp ht
      have hi := (List.getElem?_eq_some_iff.mp et).1
      obtain ⟨c, ec⟩ : ∃ c, b2[i]? = some c := ⟨_, List.getElem?_eq_getElem (by rw [lb2, e2.1, lenH]; exact hi)⟩
      have e3 := rb2 i c ec t et
      apply Classical.byContradiction
      intro hn
      have : abv (t.Y r + t.H r) (Mf.val r Hh) = true := abv_iff.mpr (by grind)
      rw [this] at e3
      rw [e3] at ec
      rw [any_iff.mpr ⟨i, ec⟩] at c2
      cases c2
    have l14 : TL H H4 := .of s14
    refine ⟨_, rfl, _, rfl, r, p, ts, rfl, hd, l14.tiles hT, fun t ht => ?_, F.ar, fun H5 va s5 na => ?_⟩
    · obtain ⟨a1, a2, a3, a4⟩ := F.sm t ht
      exact ⟨sm_mono a1 (by decide), sm_mono a2 (by decide), sm_mono a3 (by decide), sm_mono a4 (by decide)⟩
    have s15 := s14.trans s5
    have l15 : TL H H5 := .of s15
    refine ⟨_, rfl, _, rfl, _, rfl, _, v1, v2, W, Hh, rfl, (l15.nuH hW).nu, (l15.nuH hH).nu, hd.d5, sm_mono F.sW (by decide), sm_mono F.sH (by decide), fun H6 vt s6 nt => ?_⟩
    have s16 := s15.trans s6
    refine ⟨_, _, (TL.nu (.of s6) na).dp, nt.nu.dp, d3_shaped _, d3_shaped _, _, rfl, ?_⟩
    have ar_iff : Mf.foldN (Mf.areasN r.d ts) = Mf.timesN r.d W Hh ↔ Mf.sumL (Mf.arV r) ts = Mf.val r W * Mf.val r Hh := by
      rw [← F.ar.v, ← Mf.times_val F.nW.ne F.nH.ne]
      exact (Mf.val_inj F.ar.nmf (Mf.times_nm F.nW.ne F.nH.ne)).symm
    rw [d3_eqv]
    by_cases ca : Mf.foldN (Mf.areasN r.d ts) = Mf.timesN r.d W Hh
    · rw [decide_eq_true ca]
      refine iteF ?_
      have h16 : H6 A1 = some (.lst us1) := (s2.trans (s3.trans (s4.trans (s5.trans s6)))) _ _ h1
      have h26 : H6 A2 = some (.lst us2) := (s3.trans (s4.trans (s5.trans s6))) _ _ h2
      refine ⟨_, rfl, _, rfl, r, A1, us1, spansW ts, rfl, hd, h16, e1'.mono fun v x h => TL.span (.of (s3.trans (s4.trans (s5.trans s6)))) h, F.spanW, by omega, fun H7 B1 zs1 os1 s7 _ g1 hR1 hM1 f1 => ?_⟩
      refine ⟨_, rfl, _, rfl, r, A2, us2, spansH ts, rfl, hd, s7 _ _ h26, e2'.mono fun v x h => TL.span (.of (s4.trans (s5.trans (s6.trans s7)))) h, F.spanH, by omega, fun H8 B2 zs2 os2 s8 _ g2 hR2 hM2 f2 => ?_⟩
      have lp1 : (placesOf os1 (spansW ts)).length = ts.length := by
        unfold placesOf
        rw [List.length_map, lenW]
      have lp2 : (placesOf os2 (spansH ts)).length = ts.length := by
        unfold placesOf
        rw [List.length_map, lenH]
      refine ⟨B1, B2, zs1, zs2, _, _, rfl, s8 _ _ g1, f1.mono fun v x h => TL.pair (.of s8) h, g2, f2, by rw [lp1, lp2], by omega, fun b hb => ?_⟩
      refine q _ b (s16.trans (s7.trans s8)) ?_
      rw [hb]
      have key : ∀ (j k : Nat) (s t : Mf.T4), ts[j]? = some s → ts[k]? = some t → ((Ov (placesOf os1 (spansW ts)) j k ∧ Ov (placesOf os2 (spansH ts)) j k) ↔ Mf.Meet r s t) := fun j k s t ej ek => by
        have w1 : (spansW ts)[j]? = some (s.x, Mf.plusN s.x s.w) := by unfold spansW; rw [List.getElem?_map, ej]; rfl
        have w2 : (spansW ts)[k]? = some (t.x, Mf.plusN t.x t.w) := by unfold spansW; rw [List.getElem?_map, ek]; rfl
        have x1 : (spansH ts)[j]? = some (s.y, Mf.plusN s.y s.h) := by unfold spansH; rw [List.getElem?_map, ej]; rfl
        have x2 : (spansH ts)[k]? = some (t.y, Mf.plusN t.y t.h) := by unfold spansH; rw [List.getElem?_map, ek]; rfl
        obtain ⟨n1, n2, n3, n4⟩ := F.nm s (List.mem_of_getElem? ej)
        obtain ⟨m1, m2, m3, m4⟩ := F.nm t (List.mem_of_getElem? ek)
        rw [placesOv hR1 hM1 w1 w2, placesOv hR2 hM2 x1 x2]
        simp only [Mf.plus_val n1.ne n3.ne, Mf.plus_val m1.ne m3.ne, Mf.plus_val n2.ne n4.ne, Mf.plus_val m2.ne m4.ne]
        unfold Mf.Meet Mf.T4.X Mf.T4.Y Mf.T4.W Mf.T4.H
        constructor
        · rintro ⟨⟨a, b⟩, c, d⟩
          exact ⟨a, b, c, d⟩
        · rintro ⟨a, b, c, d⟩
          exact ⟨⟨a, b⟩, c, d⟩
      constructor
      · intro hn
        refine ⟨w1, w2, ar_iff.mp ca, fun j k s t hjk ej ek hm => ?_⟩
        have hk := (List.getElem?_eq_some_iff.mp ek).1
        exact hn j k hjk (by rw [lp1]; exact hk) ((key j k s t ej ek).mpr hm)
      · intro C j k hjk hk hov
        rw [lp1] at hk
        have ej : ts[j]? = some ts[j] := List.getElem?_eq_getElem (by omega)
        have ek : ts[k]? = some ts[k] := List.getElem?_eq_getElem hk
        exact C.apart j k _ _ hjk ej ek ((key j k _ _ ej ek).mp hov)
    · rw [decide_eq_false ca]
      refine iteT ?_
      exact q _ false s16 ⟨fun h => (by cases h), fun C => absurd (ar_iff.mpr C.area) ca⟩
end
end MfW
namespace MfW
open PySem PySem.Spec PyProof.Rows L2
/-! ### is_laying -/
/-- tiles that make no laying -/
inductive BadT (r : Mf.Rt) (H : Hp) (W Hh : Mf.N3) : V → Prop where
  | lst {a : Addr} {xs : List V} (e : H a = some (.lst xs)) : BadT r H W Hh (.ref a)
  | nil {a : Addr} (e : H a = some (.tup [])) : BadT r H W Hh (.ref a)
  | odd {a : Addr} {us : List V} (e : H a = some (.tup us)) (n1 : 1 ≤ us.length) (n2 : us.length ≤ 60) (all : ∀ (i : Nat) (v : V), us[i]? = some v → Odd H v ∨ ∃ t, TileAt H v t ∧ t.nm ∧ SmT 2000 t)
      (bad : ∃ (i : Nat) (v : V), us[i]? = some v ∧ (Odd H v ∨ ∃ t, TileAt H v t ∧ t.nm ∧ SmT 2000 t ∧ tileB r t = false)) : BadT r H W Hh (.ref a)
  | cover {a : Addr} {ts : List Mf.T4} (e : TilesAt H a ts) (n1 : 1 ≤ ts.length) (n2 : ts.length ≤ 60) (F : Fit r W Hh ts) (c : ¬ Mf.Cover r W Hh ts) : BadT r H W Hh (.ref a)
structure Floor (r : Mf.Rt) (H : Hp) (v : V) (W Hh : Mf.N3) (vT : V) : Prop where
  ex : ∃ p v1 v2, v = .ref p ∧ H p = some (.tup [v1, v2, vT]) ∧ NuH H v1 W ∧ NuH H v2 Hh
  nW : Mf.Nm W
  nH : Mf.Nm Hh
  sW : Mf.Sm 401 W
  sH : Mf.Sm 401 Hh
  pW : 0 < Mf.val r W
  pH : 0 < Mf.val r Hh
structure GoodLay (r : Mf.Rt) (H : Hp) (v : V) (W Hh : Mf.N3) (ts : List Mf.T4) : Prop where
  ex : ∃ a, Floor r H v W Hh (.ref a) ∧ TilesAt H a ts
  n1 : 1 ≤ ts.length
  n2 : ts.length ≤ 60
  fit : Fit r W Hh ts
  all : ∀ t ∈ ts, tileB r t = true
  cov : Mf.Cover r W Hh ts
def BadLay (r : Mf.Rt) (H : Hp) (v : V) : Prop := ∃ W Hh vT, Floor r H v W Hh vT ∧ BadT r H W Hh vT
theorem smT_mono {n m : Nat} {t : Mf.T4} (h : SmT n t) (hm : n ≤ m) : SmT m t := ⟨sm_mono h.1 hm, sm_mono h.2.1 hm, sm_mono h.2.2.1 hm, sm_mono h.2.2.2 hm⟩
theorem TL.floor {r : Mf.Rt} {H H' : Hp} {v : V} {W Hh : Mf.N3} {vT : V} (l : TL H H') (h : Floor r H v W Hh vT) : Floor r H' v W Hh vT := by
  obtain ⟨⟨p, v1, v2, e, h1, h2, h3⟩, a, b, c, d, e1, f1⟩ := h
  exact ⟨⟨p, v1, v2, e, l _ _ h1, l.nuH h2, l.nuH h3⟩, a, b, c, d, e1, f1⟩
theorem TL.good {r : Mf.Rt} {H H' : Hp} {v : V} {W Hh : Mf.N3} {ts : List Mf.T4} (l : TL H H') (h : GoodLay r H v W Hh ts) : GoodLay r H' v W Hh ts := by
  obtain ⟨⟨a, h1, h2⟩, b, c, d, e, f⟩ := h
  exact ⟨⟨a, l.floor h1, l.tiles h2⟩, b, c, d, e, f⟩
section
variable {P : Program} {w : World} {K : PySem.W.Frag} {mg : Str → Option Value} {base : Heap}
abbrev N_is_laying : List Str := ["d", "thing", "width", "height", "tiles", "tile"]
theorem sc_is_laying : FnScope N_is_laying ["d", "thing"] (defScope (top 39)) := ⟨rfl, rfl, rfl, by decide +kernel, rfl, by decide +kernel, by decide +kernel⟩

def spLaying : Sp := fun vs H Q _ => ∃ (r : Mf.Rt) (v : V), vs = [.int r.d, v] ∧ RtOk r ∧ ((∃ W Hh ts, GoodLay r H v W Hh ts ∧ ∀ H', Same H H' → Q (.bl true) H') ∨ (BadLay r H v ∧ ∀ H', Same H H' → Q (.bl false) H'))
theorem abv_pos {r : Mf.Rt} {x : Mf.F r} (h : 0 < x) : abv x 0 = true := abv_iff.mpr h
theorem ok_laying (T : Txt K mg) (D : Df K mg "is_laying" 39) (c_is_above_nought : C8.Cal P w K mg base 3 "is_above_nought" spAboveN []) (c_is_tile : C8.Cal P w K mg base 3 "is_tile" spTile []) (c_cover : C8.Cal P w K mg base 8 "cover" spCover []) : C8.Cal P w K mg base 9 "is_laying" spLaying [] := by
  obtain ⟨tM, hM⟩ := T.most
  refine mk_cal D sc_is_laying (fun vs H Q E h => ?_) (fun _ _ _ _ _ _ us hl => match us, hl with | [_, _], _ => rfl) (fun cdv A outer s f H vs Q E hr h => ?_)
  · obtain ⟨r, v, rfl, _⟩ := h
    rfl
  · obtain ⟨r, v, rfl, hd, h⟩ := h
    have sl : sizeLine = 16777216 := sizeLine_eq
    obtain ⟨W, Hh, vT, ⟨⟨p, v1, v2, rfl, h0, hW, hH⟩, nW, nH, sW, sH, pW, pH⟩, hq⟩ : ∃ W Hh vT, Floor r H v W Hh vT ∧ ((∃ a ts, vT = .ref a ∧ TilesAt H a ts ∧ 1 ≤ ts.length ∧ ts.length ≤ 60 ∧ Fit r W Hh ts ∧ (∀ t ∈ ts, tileB r t = true) ∧ Mf.Cover r W Hh ts ∧ ∀ H', Same H H' → Q (.bl true) H') ∨ (BadT r H W Hh vT ∧ ∀ H', Same H H' → Q (.bl false) H')) := by
      rcases h with ⟨W, Hh, ts, ⟨⟨a, h1, h2⟩, n1, n2, F, al, c⟩, q⟩ | ⟨⟨W, Hh, vT, h1, h2⟩, q⟩
      · exact ⟨W, Hh, _, h1, .inl ⟨a, ts, rfl, h2, n1, n2, F, al, c, q⟩⟩
      · exact ⟨W, Hh, vT, h1, .inr ⟨h2, q⟩⟩
    refine ⟨_, (pss_cons (ps_if (PW.pt (pw_or (pt_not (pt_val (pe_callB call_isi (by rfl) T.isi (by decide +kernel) (pa_cons (pv 1) (pa_cons (pe_bltn (v := .ty "tuple") (by rfl) T.tuple (by decide +kernel) rfl) pa_nil))))) (pw_or1 (pt_cmpR op_ne (pe_callB call_len (by rfl) T.len (by decide +kernel) (pa_cons (pv 1) pa_nil)) pe_int (nomark _))))) (pss_one (ps_ret pe_bl)) pss_nil)
      (pss_cons (ps_asg (pv 1) (pg_tup rfl (pgs_cons (pg_name (i := 2) sc_is_laying.nd rfl (Or.inl rfl)) (pgs_cons (pg_name (i := 3) sc_is_laying.nd rfl (Or.inl rfl)) (pgs_cons (pg_name (i := 4) sc_is_laying.nd rfl (Or.inl rfl)) pgs_nil)))))
      (pss_cons (ps_if (PW.pt (pw_or (pt_not (pt_val (C8.pe_c c_is_above_nought hr (by decide) (by rfl) (pa_cons (pv 0) (pa_cons (pv 2) pa_nil))))) (pw_or1 (pt_not (pt_val (C8.pe_c c_is_above_nought hr (by decide) (by rfl) (pa_cons (pv 0) (pa_cons (pv 3) pa_nil)))))))) (pss_one (ps_ret pe_bl)) pss_nil)
      (pss_cons (ps_if (PW.pt (pw_or (pt_not (pt_val (pe_callB call_isi (by rfl) T.isi (by decide +kernel) (pa_cons (pv 4) (pa_cons (pe_bltn (v := .ty "tuple") (by rfl) T.tuple (by decide +kernel) rfl) pa_nil))))) (pw_or1 (pt_not (pt_chain op_le op_le pe_int (pe_callB call_len (by rfl) T.len (by decide +kernel) (pa_cons (pv 4) pa_nil)) (pe_glob (v := .int 60) rfl hM ⟨_, rfl⟩)))))) (pss_one (ps_ret pe_bl)) pss_nil)
      (pss_one (ps_ret (pe_and (pe_callB (cr_all rfl) (by rfl) T.all (by decide +kernel) (pa_cons (pe_lc (own := [("tile", 5)]) rfl sc_is_laying.nd (pi_tup (pv 4)) (blkOk_by (own := [("tile", 5)]) (N := N_is_laying) (sc := defScope (top 39)) (by decide +kernel)) (fun _ _ _ _ _ => (pg_name (i := 5) sc_is_laying.nd rfl (Or.inl rfl))) (fun _ _ _ _ _ => pts_nil) (fun _ _ _ _ _ => (C8.pe_c c_is_tile hr (by decide) (by rfl) (pa_cons (pv 0) (pa_cons (pv 5) pa_nil))))) pa_nil)) (pe_one (C8.pe_c c_cover hr (by decide) (by rfl) (pa_cons (pv 0) (pa_cons (pv 2) (pa_cons (pv 3) (pa_cons (pv 4) pa_nil))))))))))))), ?_⟩
    refine ⟨_, rfl, _, _, .type "tuple", .type "tuple", true, rfl, .ty _, .base (.tup h0), kit_ty (by decide +kernel), _, rfl, iteF ?_⟩
    refine ⟨_, rfl, _, 3, rfl, .inr ⟨_, SqT.of h0, rfl⟩, rfl, _, rfl, iteNS rfl ?_⟩
    refine ⟨_, rfl, p, _, rfl, SqT.of h0, rfl, _, _, rfl, _, _, rfl, _, _, rfl, rfl, ?_⟩
    refine ⟨_, rfl, _, rfl, r, v1, W, rfl, hd, hW, nW, sm_mono sW (by decide), fun H1 s1 => ⟨_, rfl, ?_⟩⟩
    rw [abv_pos pW]
    refine iteF ?_
    refine ⟨_, rfl, _, rfl, r, v2, Hh, rfl, hd, TL.nuH (.of s1) hH, nH, sm_mono sH (by decide), fun H2 s2 => ⟨_, rfl, ?_⟩⟩
    rw [abv_pos pH]
    refine iteF ?_
    have s12 := s1.trans s2
    -- a tuple of tiles, or not
    rcases hq with ⟨a, ts, rfl, ⟨us, hu, hE⟩, n1, n2, F, al, cv, q⟩ | ⟨hb, q⟩
    · have hu2 := s12 _ _ hu
      refine ⟨_, rfl, _, _, .type "tuple", .type "tuple", true, rfl, .ty _, .base (.tup hu2), kit_ty (by decide +kernel), _, rfl, iteF ?_⟩
      have lu := hE.1
      refine ⟨_, rfl, _, us.length, rfl, .inr ⟨_, SqT.of hu2, rfl⟩, _, _, rfl, rfl, _, rfl, ifT (decide_eq_true (by omega)) ?_⟩
      refine ⟨_, _, rfl, rfl, _, rfl, ?_⟩
      rw [decide_eq_true (show ((us.length : Nat) : Int) ≤ 60 by omega)]
      refine iteF ?_
      refine ⟨_, rfl, a, rfl, ⟨_, SqT.of hu2⟩, fun D hD => ?_⟩
      refine lc_tupM (xs := us) (fun i v _ => ∃ c, v = .bl c ∧ c = true) (fun i v H H' _ h => h) hD (.inl hu2) (by omega) (fun i y H3 N hy sm k => ?_) (fun H3 s3 m3 => ?_)
      · refine ⟨rfl, ?_⟩
        obtain ⟨t, et, ht⟩ := hE.2 i y hy
        have mt := List.mem_of_getElem? et
        refine ⟨_, rfl, _, rfl, r, y, rfl, hd, .inr ⟨t, TL.tile (.of (s12.trans sm)) ht, F.nm t mt, smT_mono (F.sm t mt) (by decide), fun H4 s4 => ?_⟩⟩
        exact k _ _ s4 ⟨_, rfl, al t mt⟩
      · obtain ⟨bs, hbs, lbs, rbs⟩ := made_bools2 m3
        refine ⟨D, _, rfl, SqL.of hbs, _, rfl, ifT (all_true rbs) ?_⟩
        have s13 := s12.trans s3
        refine ⟨_, rfl, _, rfl, _, rfl, _, rfl, r, v1, v2, a, W, Hh, ts, rfl, hd, TL.nuH (.of s13) hW, TL.nuH (.of s13) hH, TL.tiles (.of s13) ⟨us, hu, hE⟩, F, fun H4 b s4 hb => ?_⟩
        rw [hb.mpr cv]
        exact q _ (s13.trans s4)
    · cases hb with
      | @lst a xs e => exact ⟨_, rfl, _, _, .type "list", .type "tuple", false, rfl, .ty _, .base (.lst (s12 _ _ e)), kit_ty (by decide +kernel), _, rfl, iteT (iteT (q _ s12))⟩
      | @nil a e =>
        refine ⟨_, rfl, _, _, .type "tuple", .type "tuple", true, rfl, .ty _, .base (.tup (s12 _ _ e)), kit_ty (by decide +kernel), _, rfl, iteF ?_⟩
        refine ⟨_, rfl, _, 0, rfl, .inr ⟨_, SqT.of (s12 _ _ e), rfl⟩, _, _, rfl, rfl, _, rfl, iteF ?_⟩
        exact ⟨_, rfl, iteT (q _ s12)⟩
      | @odd a us e n1 n2 all bad =>
        have hu2 := s12 _ _ e
        refine ⟨_, rfl, _, _, .type "tuple", .type "tuple", true, rfl, .ty _, .base (.tup hu2), kit_ty (by decide +kernel), _, rfl, iteF ?_⟩
        refine ⟨_, rfl, _, us.length, rfl, .inr ⟨_, SqT.of hu2, rfl⟩, _, _, rfl, rfl, _, rfl, ifT (decide_eq_true (by omega)) ?_⟩
        refine ⟨_, _, rfl, rfl, _, rfl, ?_⟩
        rw [decide_eq_true (show ((us.length : Nat) : Int) ≤ 60 by omega)]
        refine iteF ?_
        refine ⟨_, rfl, a, rfl, ⟨_, SqT.of hu2⟩, fun D hD => ?_⟩
        obtain ⟨i0, v0, e0, b0⟩ := bad
        refine lc_tupM (xs := us) (fun i v _ => ∃ c, v = .bl c ∧ (i = i0 → c = false)) (fun i v H H' _ h => h) hD (.inl hu2) (by omega) (fun i y H3 N hy sm k => ?_) (fun H3 s3 m3 => ?_)
        · refine ⟨rfl, ?_⟩
          have s23 := s12.trans sm
          by_cases hi : i = i0
          · subst hi
            rw [e0] at hy
            have hy := Option.some.inj hy
            subst hy
            rcases b0 with ho | ⟨t, ht, nt, st, bt⟩
            · exact ⟨_, rfl, _, rfl, r, v0, rfl, hd, .inl ⟨ho.same s23, k _ _ (Same.refl _) ⟨_, rfl, fun _ => rfl⟩⟩⟩
            · refine ⟨_, rfl, _, rfl, r, v0, rfl, hd, .inr ⟨t, TL.tile (.of s23) ht, nt, st, fun H4 s4 => k _ _ s4 ⟨_, rfl, fun _ => bt⟩⟩⟩
          · rcases all i y hy with ho | ⟨t, ht, nt, st⟩
            · exact ⟨_, rfl, _, rfl, r, y, rfl, hd, .inl ⟨ho.same s23, k _ _ (Same.refl _) ⟨_, rfl, fun z => absurd z hi⟩⟩⟩
            · exact ⟨_, rfl, _, rfl, r, y, rfl, hd, .inr ⟨t, TL.tile (.of s23) ht, nt, st, fun H4 s4 => k _ _ s4 ⟨_, rfl, fun z => absurd z hi⟩⟩⟩
        · obtain ⟨bs, hbs, lbs, rbs⟩ := made_bools2 m3
          have hi0 := (List.getElem?_eq_some_iff.mp e0).1
          obtain ⟨c, ec⟩ : ∃ c, bs[i0]? = some c := ⟨_, List.getElem?_eq_getElem (by omega)⟩
          have := rbs i0 c ec rfl
          subst this
          exact ⟨D, _, rfl, SqL.of hbs, _, rfl, ifF (all_false ec) (q _ (s12.trans s3))⟩
      | @cover a ts e n1 n2 F c =>
        obtain ⟨us, hu, hE⟩ := e
        have hu2 := s12 _ _ hu
        refine ⟨_, rfl, _, _, .type "tuple", .type "tuple", true, rfl, .ty _, .base (.tup hu2), kit_ty (by decide +kernel), _, rfl, iteF ?_⟩
        have lu := hE.1
        refine ⟨_, rfl, _, us.length, rfl, .inr ⟨_, SqT.of hu2, rfl⟩, _, _, rfl, rfl, _, rfl, ifT (decide_eq_true (by omega)) ?_⟩
        refine ⟨_, _, rfl, rfl, _, rfl, ?_⟩
        rw [decide_eq_true (show ((us.length : Nat) : Int) ≤ 60 by omega)]
        refine iteF ?_
        refine ⟨_, rfl, a, rfl, ⟨_, SqT.of hu2⟩, fun D hD => ?_⟩
        refine lc_tupM (xs := us) (fun i v _ => ∃ c, v = .bl c ∧ True) (fun i v H H' _ h => h) hD (.inl hu2) (by omega) (fun i y H3 N hy sm k => ?_) (fun H3 s3 m3 => ?_)
        · refine ⟨rfl, ?_⟩
          obtain ⟨t, et, ht⟩ := hE.2 i y hy
          have mt := List.mem_of_getElem? et
          refine ⟨_, rfl, _, rfl, r, y, rfl, hd, .inr ⟨t, TL.tile (.of (s12.trans sm)) ht, F.nm t mt, smT_mono (F.sm t mt) (by decide), fun H4 s4 => ?_⟩⟩
          exact k _ _ s4 ⟨_, rfl, trivial⟩
        · obtain ⟨bs, hbs, lbs, rbs⟩ := made_bools2 m3
          refine ⟨D, _, rfl, SqL.of hbs, _, rfl, ?_⟩
          have s13 := s12.trans s3
          refine ifB (fun _ => ?_) (fun _ => q _ s13)
          refine ⟨_, rfl, _, rfl, _, rfl, _, rfl, r, v1, v2, a, W, Hh, ts, rfl, hd, TL.nuH (.of s13) hW, TL.nuH (.of s13) hH, TL.tiles (.of s13) ⟨us, hu, hE⟩, F, fun H4 b s4 hb => ?_⟩
          have : b = false := by
            cases b with
            | false => rfl
            | true => exact absurd (hb.mp rfl) c
          rw [this]
          exact q _ (s13.trans s4)
/-! ### weighed -/
/-- four weights -/
def WtsAt (H : Hp) (v : V) (z : Mf.Wt) : Prop := ∃ p v1 v2 v3 v4, v = .ref p ∧ H p = some (.tup [v1, v2, v3, v4]) ∧ NuH H v1 z.p ∧ NuH H v2 z.q ∧ NuH H v3 z.s ∧ NuH H v4 z.u
theorem TL.wts {H H' : Hp} {v : V} {z : Mf.Wt} (l : TL H H') (h : WtsAt H v z) : WtsAt H' v z := by
  obtain ⟨p, v1, v2, v3, v4, e, h0, h1, h2, h3, h4⟩ := h
  exact ⟨p, v1, v2, v3, v4, e, l _ _ h0, l.nuH h1, l.nuH h2, l.nuH h3, l.nuH h4⟩
theorem times_smn {d : Int} {n m : Nat} {x y : Mf.N3} (hd : d.natAbs < 2 ^ 5) (hx : Mf.Sm n x) (hy : Mf.Sm m y) : Mf.Sm (n + m + 6) (Mf.timesN d x y) := by
  obtain ⟨a1, b1, c1, d1⟩ := hx
  obtain ⟨a2, b2, c2, d2⟩ := hy
  have hc : x.c * y.c ≠ 0 := Mf.mul_ne (by omega) (by omega)
  obtain ⟨g, g0, ea, eb, ec, hp, _⟩ := Mf.low_eq (a := x.a * y.a + d * x.b * y.b) (b := x.a * y.b + x.b * y.a) hc
  have sz : ∀ {u z : Int}, u = g * z → z.natAbs ≤ u.natAbs := fun {u z} e => by
    rw [e, Int.natAbs_mul]
    exact Nat.le_mul_of_pos_left _ (by omega)
  have e2 : 2 ^ (n + m + 6) = 2 ^ (n + m) * 64 := by rw [Nat.pow_add]
  have q1 := sz ea
  have q2 := sz eb
  have q3 := sz ec
  have t1 : (x.a * y.a).natAbs < 2 ^ (n + m) := wide_lt a1 a2
  have t2 : (x.b * y.b).natAbs < 2 ^ (n + m) := wide_lt b1 b2
  have t3 : (x.a * y.b).natAbs < 2 ^ (n + m) := wide_lt a1 b2
  have t4 : (x.b * y.a).natAbs < 2 ^ (n + m) := wide_lt b1 a2
  have t5 : (x.c * y.c).natAbs < 2 ^ (n + m) := wide_lt d1 d2
  have t6 : (d * x.b * y.b).natAbs ≤ 31 * (x.b * y.b).natAbs := by
    rw [Int.mul_assoc, Int.natAbs_mul]
    exact Nat.mul_le_mul_right _ (by omega)
  have k : ∀ {u z : Nat}, u ≤ z → z ≤ 32 * 2 ^ (n + m) → u < 2 ^ (n + m + 6) := fun h1 h2 => by
    rw [e2]
    have : 0 < (2 : Nat) ^ (n + m) := Nat.pow_pos (by decide)
    generalize (2 : Nat) ^ (n + m) = B0 at *
    omega
  exact ⟨k q1 (by omega), k q2 (by omega), hp, k q3 (by omega)⟩
theorem sm_mate {n : Nat} {x : Mf.N3} (h : Mf.Sm n x) : Mf.Sm n (Mf.mateN x) := by
  obtain ⟨a, b, c, d⟩ := h
  refine ⟨a, ?_, c, d⟩
  show (0 - x.b).natAbs < _
  rw [Int.zero_sub, Int.natAbs_neg]
  exact b
abbrev N_weighed : List Str := ["d", "weights", "width", "height", "p", "q", "s", "t", "first", "second"]
theorem sc_weighed : FnScope N_weighed ["d", "weights", "width", "height"] (defScope (top 41)) := ⟨rfl, rfl, rfl, by decide +kernel, rfl, by decide +kernel, by decide +kernel⟩

def spWeighed (K : PySem.W.Frag) : Sp := fun vs H Q _ => ∃ (d : Int) (vw v1 v2 : V) (z : Mf.Wt) (x y : Mf.N3), vs = [.int d, vw, v1, v2] ∧ d.natAbs < 2 ^ 5 ∧ WtsAt H vw z ∧ z.ok ∧ NuH H v1 x ∧ NuH H v2 y ∧ Mf.Sm 401 x ∧ Mf.Sm 401 y ∧ Told H (Mf.wgT d z x y) Q
theorem ok_weighed (D : Df K mg "weighed" 41) (c_plus : C8.Cal P w K mg base 3 "plus" (spPlus K) []) (c_times : C8.Cal P w K mg base 3 "times" (spTimes K) []) (c_mate : C8.Cal P w K mg base 1 "mate" (spMate K) []) : C8.Cal P w K mg base 4 "weighed" (spWeighed K) [] := by
  refine mk_cal D sc_weighed (fun vs H Q E h => ?_) (fun _ _ _ _ _ _ us hl => match us, hl with | [_, _, _, _], _ => rfl) (fun cdv A outer s f H vs Q E hr h => ?_)
  · obtain ⟨d, vw, v1, v2, z, x, y, rfl, _⟩ := h
    rfl
  · obtain ⟨d, _, v1, v2, z, x, y, rfl, hd, ⟨p, w1, w2, w3, w4, rfl, h0, k1, k2, k3, k4⟩, ⟨⟨np, zp⟩, ⟨nq, zq⟩, ⟨ns, zs⟩, ⟨nu, zu⟩⟩, hx, hy, sx, sy, q⟩ := h
    refine ⟨_, (pss_cons (ps_asg (pv 1) (pg_tup rfl (pgs_cons (pg_name (i := 4) sc_weighed.nd rfl (Or.inl rfl)) (pgs_cons (pg_name (i := 5) sc_weighed.nd rfl (Or.inl rfl)) (pgs_cons (pg_name (i := 6) sc_weighed.nd rfl (Or.inl rfl)) (pgs_cons (pg_name (i := 7) sc_weighed.nd rfl (Or.inl rfl)) pgs_nil))))))
      (pss_cons (ps_set (i := 8) sc_weighed.nd rfl (Or.inl rfl) (C8.pe_c c_plus hr (by decide) (by rfl) (pa_cons (C8.pe_c c_times hr (by decide) (by rfl) (pa_cons (pv 0) (pa_cons (pv 4) (pa_cons (pv 3) pa_nil)))) (pa_cons (C8.pe_c c_times hr (by decide) (by rfl) (pa_cons (pv 0) (pa_cons (pv 5) (pa_cons (C8.pe_c c_mate hr (by decide) (by rfl) (pa_cons (pv 3) pa_nil)) pa_nil)))) pa_nil))))
      (pss_cons (ps_set (i := 9) sc_weighed.nd rfl (Or.inl rfl) (C8.pe_c c_plus hr (by decide) (by rfl) (pa_cons (C8.pe_c c_times hr (by decide) (by rfl) (pa_cons (pv 0) (pa_cons (pv 6) (pa_cons (pv 3) pa_nil)))) (pa_cons (C8.pe_c c_times hr (by decide) (by rfl) (pa_cons (pv 0) (pa_cons (pv 7) (pa_cons (C8.pe_c c_mate hr (by decide) (by rfl) (pa_cons (pv 3) pa_nil)) pa_nil)))) pa_nil))))
      (pss_one (ps_ret (C8.pe_c c_plus hr (by decide) (by rfl) (pa_cons (C8.pe_c c_times hr (by decide) (by rfl) (pa_cons (pv 0) (pa_cons (pv 2) (pa_cons (pv 8) pa_nil)))) (pa_cons (C8.pe_c c_times hr (by decide) (by rfl) (pa_cons (pv 0) (pa_cons (C8.pe_c c_mate hr (by decide) (by rfl) (pa_cons (pv 2) pa_nil)) (pa_cons (pv 9) pa_nil)))) pa_nil)))))))), ?_⟩
    have m2 : ∀ {n : Nat} {x : Mf.N3}, Mf.Sm n x → n ≤ 2000 → Mf.Sm 2000 x := fun h hn => sm_mono h hn
    refine ⟨_, rfl, p, _, rfl, SqT.of h0, rfl, _, _, rfl, _, _, rfl, _, _, rfl, _, _, rfl, rfl, ?_⟩
    -- first
    refine ⟨_, rfl, _, rfl, _, rfl, d, w1, v2, z.p, y, rfl, k1.nu, hy.nu, hd, m2 zp (by decide), m2 sy (by decide), fun H1 u1 s1 n1 => ?_⟩
    have l1 : TL H H1 := .of s1
    refine ⟨_, rfl, _, rfl, _, rfl, v2, y, rfl, (l1.nuH hy).nu, fun H2 u2 s2 n2 => ?_⟩
    have l2 : TL H H2 := .of (s1.trans s2)
    refine ⟨d, w2, u2, z.q, _, rfl, (l2.nuH k2).nu, n2.nu, hd, m2 zq (by decide), m2 (sm_mate sy) (by decide), fun H3 u3 s3 n3 => ?_⟩
    have t1 := times_smn hd zp sy
    have t2 := times_smn hd zq (sm_mate sy)
    refine ⟨u1, u3, _, _, rfl, (TL.nuH (.of (s2.trans s3)) n1).nu, n3.nu, m2 t1 (by decide), m2 t2 (by decide), fun H4 u4 s4 n4 => ?_⟩
    have l4 : TL H H4 := .of (s1.trans (s2.trans (s3.trans s4)))
    have p1 := plus_smn t1 t2
    -- second
    refine ⟨_, rfl, _, rfl, _, rfl, d, w3, v2, z.s, y, rfl, (l4.nuH k3).nu, (l4.nuH hy).nu, hd, m2 zs (by decide), m2 sy (by decide), fun H5 u5 s5 n5 => ?_⟩
    have l5 : TL H H5 := l4.trans (.of s5)
    refine ⟨_, rfl, _, rfl, _, rfl, v2, y, rfl, (l5.nuH hy).nu, fun H6 u6 s6 n6 => ?_⟩
    have l6 : TL H H6 := l5.trans (.of s6)
    refine ⟨d, w4, u6, z.u, _, rfl, (l6.nuH k4).nu, n6.nu, hd, m2 zu (by decide), m2 (sm_mate sy) (by decide), fun H7 u7 s7 n7 => ?_⟩
    have t3 := times_smn hd zs sy
    have t4 := times_smn hd zu (sm_mate sy)
    refine ⟨u5, u7, _, _, rfl, (TL.nuH (.of (s6.trans s7)) n5).nu, n7.nu, m2 t3 (by decide), m2 t4 (by decide), fun H8 u8 s8 n8 => ?_⟩
    have l8 : TL H H8 := l6.trans (.of (s7.trans s8))
    have p2 := plus_smn t3 t4
    have s48 := s5.trans (s6.trans (s7.trans s8))
    -- together
    refine ⟨_, rfl, _, rfl, _, rfl, d, v1, u4, x, _, rfl, (l8.nuH hx).nu, (TL.nuH (.of s48) n4).nu, hd, m2 sx (by decide), m2 p1 (by decide), fun H9 u9 s9 n9 => ?_⟩
    have l9 : TL H H9 := l8.trans (.of s9)
    refine ⟨_, rfl, _, rfl, v1, x, rfl, (l9.nuH hx).nu, fun H10 u10 s10 n10 => ?_⟩
    refine ⟨_, rfl, d, u10, u8, _, _, rfl, n10.nu, (TL.nuH (.of (s9.trans s10)) n8).nu, hd, m2 (sm_mate sx) (by decide), m2 p2 (by decide), fun H11 u11 s11 n11 => ?_⟩
    have q1 := times_smn hd sx p1
    have q2 := times_smn hd (sm_mate sx) p2
    refine ⟨u9, u11, _, _, rfl, (TL.nuH (.of (s10.trans s11)) n9).nu, n11.nu, m2 q1 (by decide), m2 q2 (by decide), fun H12 u12 s12 n12 => ?_⟩
    refine q _ _ ?_ n12
    exact s1.trans (s2.trans (s3.trans (s4.trans (s48.trans (s9.trans (s10.trans (s11.trans s12)))))))
end
end MfW
namespace MfW
open PySem PySem.Spec PyProof.Rows L2
/-- the class NoLaying, as it is raised -/
structure ExT (K : PySem.W.Frag) (mg : Str → Option Value) (CN : Addr) : Prop where
  xP : PySem.W.excIn K CN [.type "ValueError", .type "Exception", .type "BaseException", .type "object"] "ValueError.__new__" = true
  gP : mg "NoLaying" = some (.ref CN)
  kP : PySem.W.keepIn K (.ref CN) = true
  bP : PySem.W.subIn K (.ref CN) (.type "BaseException") = some true
  tP : PySem.W.typeIn K (.ref CN) = some (.type "type")
/-- a def that may raise, by its name -/
structure CalX (P : Program) (w : World) (K : PySem.W.Frag) (mg : Str → Option Value) (base : Heap) (k : Nat) (x : Str) (sp : Sp) : Prop where
  ex : ∃ (f : Addr) (fd : FuncData) (ps : List Str), FnOk P w K mg base (L2N.CX P w) k f fd ps sp ∧ mg x = some (.ref f) ∧ PySem.W.keepIn K (.ref f) = true ∧ Binds K fd ps []
section
variable {P : Program} {w : World} {K : PySem.W.Frag} {mg : Str → Option Value} {base : Heap}
theorem mk_calX {x : Str} {i : Nat} {N ps : List Str} {k : Nat} {sp : Sp} (D : Df K mg x i) (S : FnScope N ps (defScope (top i))) (len : ∀ vs H Q E, sp vs H Q E → vs.length = ps.length)
    (hb : ∀ (kV doc pm : Value) (an : Option Addr) (cdv ct : Value) (us : List Value), us.length = ps.length → bindArgs (PySem.W.fnOf x x (defArgs (top i)) (defBody (top i)) (defScope (top i)) .none kV doc pm an cdv ct) ⟨us, []⟩ = pure (ps.zip us))
    (hbody : ∀ (cdv : Value) (A : Around) (outer : List Env) (s : Shared) (f : Addr) (H : Hp) (vs : List V) (Q : VK) (E : XK), Room k (A.deeper (envOfC x (defScope (top i)) s.heap.objs.size f cdv)) → sp vs H Q E →
      ∃ t, PSs (cxOf (L2N.CX P w) P w K mg base N x (defScope (top i)) f cdv A outer s H E) (defBody (top i)) t ∧ t { nx := fun _ H' => Q .non H', rt := Q } (start N vs) H) : CalX P w K mg base (k + 1) x sp := by
  obtain ⟨f, fd, F, hm⟩ := D
  exact ⟨f, fd, ps, F.ok S len fun cdv A outer s H vs Q E hr h => hbody cdv A outer s f H vs Q E hr h, hm, F.kp, F.bindsN hb⟩
abbrev N_weighed_sums : List Str := ["d", "weights", "laying", "width", "height", "tiles", "tile"]
theorem sc_weighed_sums : FnScope N_weighed_sums ["d", "weights", "laying"] (defScope (top 42)) := ⟨rfl, rfl, rfl, by decide +kernel, rfl, by decide +kernel, by decide +kernel⟩

def spSums (CN : Addr) : Sp := fun vs H Q E => ∃ (r : Mf.Rt) (vw : V) (z : Mf.Wt) (v : V), vs = [.int r.d, vw, v] ∧ RtOk r ∧ WtsAt H vw z ∧ z.ok ∧
  ((∃ W Hh ts, GoodLay r H v W Hh ts ∧ ∀ H' p vF D us, Same H H' → H D = none → H' p = some (.tup [vF, .ref D]) → NuH H' vF (Mf.wgT r.d z W Hh) → H' D = some (.lst us) → Els NuH H' us (ts.map fun t => Mf.wgT r.d z t.w t.h) → Q (.ref p) H') ∨
    (BadLay r H v ∧ ∀ H', Same H H' → E (.ref CN) none H'))
theorem ok_sums {CN : Addr} (eX : ExT K mg CN) (D : Df K mg "weighed_sums" 42) (c_is_laying : C8.Cal P w K mg base 9 "is_laying" spLaying []) (c_weighed : C8.Cal P w K mg base 4 "weighed" (spWeighed K) []) : CalX P w K mg base 10 "weighed_sums" (spSums CN) := by
  refine mk_calX D sc_weighed_sums (fun vs H Q E h => ?_) (fun _ _ _ _ _ _ us hl => match us, hl with | [_, _, _], _ => rfl) (fun cdv A outer s f H vs Q E hr h => ?_)
  · obtain ⟨r, vw, z, v, rfl, _⟩ := h
    rfl
  · obtain ⟨r, vw, z, v, rfl, hd, hw, hz, h⟩ := h
    have sl : sizeLine = 16777216 := sizeLine_eq
    refine ⟨_, (pss_cons (ps_if (pt_not (pt_val (C8.pe_c c_is_laying hr (by decide) (by rfl) (pa_cons (pv 0) (pa_cons (pv 2) pa_nil))))) (pss_one (L2N.ps_raise rfl (L2N.takes_of rfl rfl rfl rfl) (L2N.pmk_own PySem.F.excBase_ValueError eX.xP eX.gP eX.kP (raises_own eX.bP eX.tP) rfl))) pss_nil)
      (PSs.nox (pss_cons (ps_asg (pv 2) (pg_tup rfl (pgs_cons (pg_name (i := 3) sc_weighed_sums.nd rfl (Or.inl rfl)) (pgs_cons (pg_name (i := 4) sc_weighed_sums.nd rfl (Or.inl rfl)) (pgs_cons (pg_name (i := 5) sc_weighed_sums.nd rfl (Or.inl rfl)) pgs_nil)))))
      (pss_one (ps_ret (pe_tup (pa_cons (C8.pe_c c_weighed hr (by decide) (by rfl) (pa_cons (pv 0) (pa_cons (pv 1) (pa_cons (pv 3) (pa_cons (pv 4) pa_nil))))) (pa_cons (pe_lc (own := [("tile", 6)]) (te := tCall (spWeighed K) [] C8.E0 (tCons (tVar 0) (tCons (tVar 1) (tCons (tOp (rIxT K) (tVar 6) (tC (.int 2))) (tCons (tOp (rIxT K) (tVar 6) (tC (.int 3))) tNil))))) rfl sc_weighed_sums.nd (pi_tup (pv 5)) (blkOk_by (own := [("tile", 6)]) (N := N_weighed_sums) (sc := defScope (top 42)) (by decide +kernel)) (fun _ _ _ _ _ => (pg_name (i := 6) sc_weighed_sums.nd rfl (Or.inl rfl))) (fun _ _ _ _ _ => pts_nil) (fun _ _ _ _ _ => (C8.pe_c c_weighed hr (by decide) (by rfl) (pa_cons (pv 0) (pa_cons (pv 1) (pa_cons (pe_ix ix_tup (pv 6) pe_int (fun _ _ => rfl)) (pa_cons (pe_ix ix_tup (pv 6) pe_int (fun _ _ => rfl)) pa_nil))))))) pa_nil)))))))), ?_⟩
    rcases h with ⟨W, Hh, ts, hg, q⟩ | ⟨hb, q⟩
    · refine ⟨_, rfl, _, rfl, r, v, rfl, hd, .inl ⟨W, Hh, ts, hg, fun H1 s1 => ⟨_, rfl, iteF ?_⟩⟩⟩
      obtain ⟨⟨a, ⟨⟨p, v1, v2, rfl, h0, hW, hH⟩, _⟩, ⟨us, hu, hE⟩⟩, n1, n2, F, _, _⟩ := hg
      have l1 : TL H H1 := .of s1
      refine ⟨_, rfl, p, _, rfl, SqT.of (l1 _ _ h0), rfl, _, _, rfl, _, _, rfl, _, _, rfl, rfl, ?_⟩
      refine ⟨_, rfl, _, rfl, _, rfl, _, rfl, r.d, vw, v1, v2, z, W, Hh, rfl, hd.d5, l1.wts hw, hz, l1.nuH hW, l1.nuH hH, F.sW, F.sH, fun H2 vF s2 nF => ?_⟩
      have s12 := s1.trans s2
      refine ⟨_, rfl, a, rfl, ⟨_, SqT.of (s12 _ _ hu)⟩, fun D hD => ?_⟩
      refine lc_tupM (xs := us) (fun i v H => ∃ x, (ts.map fun t => Mf.wgT r.d z t.w t.h)[i]? = some x ∧ NuH H v x) (fun i v H H' l ⟨x, e, h⟩ => ⟨x, e, l.nuH h⟩) hD (.inl (s12 _ _ hu)) (by rw [hE.1]; omega) (fun i y H3 N hy sm k => ?_) (fun H3 s3 m3 => ?_)
      · refine ⟨rfl, ?_⟩
        obtain ⟨t, et, p1, u1, u2, u3, u4, rfl, t0, t1, t2, t3, t4⟩ := hE.2 i y hy
        have mt := List.mem_of_getElem? et
        have l3 : TL H H3 := .of (s12.trans sm)
        obtain ⟨_, _, z3, z4⟩ := F.sm t mt
        refine ⟨_, rfl, _, rfl, _, rfl, p1, _, 2, _, rfl, rfl, SqT.of (l3 _ _ t0), atI_nat (j := 2) rfl, _, rfl, p1, _, 3, _, rfl, rfl, SqT.of (l3 _ _ t0), atI_nat (j := 3) rfl, r.d, vw, u3, u4, z, t.w, t.h, rfl, hd.d5, l3.wts hw, hz, l3.nuH t3, l3.nuH t4, z3, z4, fun H4 v4 s4 n4 => ?_⟩
        exact k _ _ s4 ⟨_, by rw [List.getElem?_map, et]; rfl, n4⟩
      · obtain ⟨acc, h1, h2⟩ := m3.els (by rw [List.length_map, hE.1])
        refine ⟨by show 2 ≤ sizeLine; omega, fun pp np => ?_⟩
        have l4 : TL H3 (upd H3 pp (.tup [vF, .ref D])) := .new np
        refine q _ pp vF D acc (s12.trans (s3.trans (same_new np))) (s12.free hD) upd_same (l4.nuH (TL.nuH (.of s3) nF)) ?_ (h2.mono fun v x h => l4.nuH h)
        rw [upd_ne (ne_of_none h1 np)]
        exact h1
    · exact ⟨_, rfl, _, rfl, r, v, rfl, hd, .inr ⟨hb, fun H1 s1 => ⟨_, rfl, iteT (q _ s1)⟩⟩⟩
end
end MfW
namespace MfW
open PySem PySem.Spec PyProof.Rows L2
section
variable {P : Program} {w : World} {K : PySem.W.Frag} {mg : Str → Option Value} {base : Heap}
abbrev N__law_shared : List Str := ["_law_one", "_law_other"]
theorem sc__law_shared : FnScope N__law_shared ["_law_one", "_law_other"] (defScope (top 47)) := ⟨rfl, rfl, rfl, by decide +kernel, rfl, by decide +kernel, by decide +kernel⟩

theorem ok_lshared (T : Txt K mg) (D : Df K mg "_law_shared" 47) : C8.Cal P w K mg base 1 "_law_shared" spShared [] := by
  refine mk_cal D sc__law_shared (fun vs H Q E h => ?_) (fun _ _ _ _ _ _ us hl => match us, hl with | [_, _], _ => rfl) (fun cdv A outer s f H vs Q E hr h => ?_)
  · obtain ⟨a, b, rfl, _⟩ := h
    rfl
  · obtain ⟨a, b, rfl, q⟩ := h
    refine ⟨_, (pss_cons (ps_par (i := 0) (j := 1) (by rfl) sc__law_shared.nd rfl rfl (by decide) rfl rfl (pa_cons (pe_callB call_abs (by rfl) T.abs (by decide +kernel) (pa_cons (pv 0) pa_nil)) (pa_cons (pe_callB call_abs (by rfl) T.abs (by decide +kernel) (pa_cons (pv 1) pa_nil)) pa_nil)) (by rfl))
      (pss_cons (ps_while PassesOwn.never (pt_cmpR op_gt (pv 1) pe_int (nomark _)) (pss_one (ps_par (i := 0) (j := 1) (by rfl) sc__law_shared.nd rfl rfl (by decide) rfl rfl (pa_cons (pv 1) (pa_cons (pe_op op_mod (pv 0) (pv 1)) pa_nil)) (by rfl))))
      (pss_one (ps_ret (pv 0))))), ?_⟩
    refine ⟨_, rfl, _, rfl, _, rfl, _, rfl, _, _, rfl, ?_⟩
    refine while_by (fun σ H' => ∃ x y : Int, σ = [some (.int x), some (.int y)] ∧ 0 ≤ x ∧ 0 ≤ y ∧ Int.gcd x y = Int.gcd a b ∧ H' = H) (fun σ _ => match σ with | [_, some (.int y)] => y.toNat | _ => 0) ?_ ?_ ?_
    · refine ⟨_, _, rfl, by split <;> omega, by split <;> omega, ?_, rfl⟩
      rw [abs_if, abs_if]
      simp
      rfl
    · rintro σ H' ⟨x, y, rfl, hx, hy, e, rfl⟩
      refine ⟨_, rfl, _, _, rfl, rfl, _, rfl, ?_⟩
      refine ite2 (fun c => ?_) (fun c => ?_)
      · have hy0 : 0 < y := of_decide_eq_true c
        refine ⟨_, rfl, _, rfl, _, rfl, _, _, rfl, rfl, hy0, _, _, rfl, ⟨y, x % y, rfl, hy, Int.emod_nonneg _ (by omega), ?_, rfl⟩, ?_⟩
        · rw [gcd_step hx hy0, e]
        · show (x % y).toNat < y.toNat
          have := Int.emod_lt_of_pos x hy0
          omega
      · have hy0 : y = 0 := by
          have : ¬ 0 < y := fun z => c (decide_eq_true z)
          omega
        subst hy0
        refine ⟨_, rfl, ?_⟩
        have e2 : x = ((Int.gcd a b : Nat) : Int) := by
          rw [← e]
          simp
          omega
        rw [e2]
        exact q
    · rintro σ H' Q1 Q2 hq ⟨v, e, i, j, e1, e2, k, e3, z⟩
      exact ⟨v, e, i, j, e1, e2, k, e3, hq _ _ z⟩
/-! ### the law's lowest terms: the third below nought, too -/
abbrev N__law_low : List Str := ["_law_a", "_law_b", "_law_c", "_law_common"]
theorem sc__law_low : FnScope N__law_low ["_law_a", "_law_b", "_law_c"] (defScope (top 48)) := ⟨rfl, rfl, rfl, by decide +kernel, rfl, by decide +kernel, by decide +kernel⟩

def spLLow : Sp := fun vs H Q _ => ∃ a b c : Int, vs = [.int a, .int b, .int c] ∧ ((0 < c ∧ c.natAbs < 2 ^ 8000) ∨ (c ≠ 0 ∧ c.natAbs < 2 ^ 20)) ∧ Told H (Mf.low a b c) Q
theorem g3_le {a b c : Int} (hc : c ≠ 0) : (Mf.g3 a b c).natAbs ≤ c.natAbs := by
  have h1 := (Mf.g3_dvd a b c).2.2
  exact Nat.le_of_dvd (by omega) (Int.natAbs_dvd_natAbs.mpr h1)
theorem ok_llow (T : Txt K mg) (D : Df K mg "_law_low" 48) (c_law_shared : C8.Cal P w K mg base 1 "_law_shared" spShared []) : C8.Cal P w K mg base 2 "_law_low" spLLow [] := by
  refine mk_cal D sc__law_low (fun vs H Q E h => ?_) (fun _ _ _ _ _ _ us hl => match us, hl with | [_, _, _], _ => rfl) (fun cdv A outer s f H vs Q E hr h => ?_)
  · obtain ⟨a, b, c, rfl, _⟩ := h
    rfl
  · obtain ⟨a, b, c, rfl, hc, q⟩ := h
    refine ⟨_, (pss_cons (ps_set (i := 3) sc__law_low.nd rfl (Or.inl rfl) (pe_op op_mul (C8.pe_c c_law_shared hr (by decide) (by rfl) (pa_cons (C8.pe_c c_law_shared hr (by decide) (by rfl) (pa_cons (pv 0) (pa_cons (pv 1) pa_nil))) (pa_cons (pv 2) pa_nil))) (pe_ix ix_list (pe_lst (pa_cons pe_int (pa_cons (pe_un un_neg pe_int) pa_nil))) (pe_callTy call_int1 (by rfl) T.int (by decide +kernel) (pa_cons (pe_cmpR op_lt (pv 2) pe_int (nomark _)) pa_nil)) (fun _ _ => rfl))))
      (pss_one (ps_ret (pe_tup (pa_cons (pe_op (OpR.or op_fdivW op_fdivN) (pv 0) (pv 3)) (pa_cons (pe_op (OpR.or op_fdivW op_fdivN) (pv 1) (pv 3)) (pa_cons (pe_op (OpR.or op_fdivW op_fdivN) (pv 2) (pv 3)) pa_nil))))))), ?_⟩
    have hc0 : c ≠ 0 := by
      rcases hc with ⟨h, _⟩ | ⟨h, _⟩ <;> omega
    obtain ⟨sgn, es, ha, hs1⟩ : ∃ sgn : Int, Mf.g3 a b c * sgn = Mf.gs a b c ∧ atI [V.int 1, V.int (-1)] (if decide (c < 0) = true then 1 else 0) = some (.int sgn) ∧ (sgn = 1 ∨ sgn = -1) := by
      unfold Mf.gs
      by_cases h : c < 0
      · refine ⟨-1, ?_, ?_, .inr rfl⟩
        · rw [if_pos h]
          omega
        · rw [decide_eq_true h]
          exact atI_nat (j := 1) rfl
      · refine ⟨1, ?_, ?_, .inl rfl⟩
        · rw [if_neg h]
          omega
        · rw [decide_eq_false h]
          exact atI_nat (j := 0) rfl
    refine ⟨_, rfl, _, rfl, a, b, rfl, _, rfl, _, c, rfl, ?_⟩
    refine ⟨_, rfl, by show 2 ≤ sizeLine; decide, fun p np => ?_⟩
    refine ⟨_, rfl, _, _, rfl, rfl, .inr ⟨_, rfl, p, _, _, _, rfl, rfl, SqL.of upd_same, ha, Mf.g3 a b c, sgn, rfl, rfl, .inr (by omega), ?_⟩⟩
    have sp := same_new (o := .lst [V.int 1, V.int (-1)]) np
    have hg0 : Mf.gs a b c ≠ 0 := (Mf.gs_spec (a := a) (b := b) hc0).1
    obtain ⟨_, ⟨ka, ea⟩, ⟨kb, eb⟩, ⟨kc, ec⟩, _⟩ := Mf.gs_spec (a := a) (b := b) hc0
    have fd : ∀ {z k : Int}, z = Mf.gs a b c * k → z.fdiv (Mf.g3 a b c * sgn) = z / Mf.gs a b c := fun {z k} e => by
      rw [es]
      exact Int.fdiv_eq_ediv_of_dvd ⟨k, e⟩
    rcases hc with ⟨hp, hb⟩ | ⟨hn, hb⟩
    · have eg : Mf.g3 a b c * sgn = Mf.g3 a b c := by
        rw [es, gs_pos hp]
      have pw : ∀ z : Int, CDivW z (Mf.g3 a b c * sgn) := fun z => by
        rw [eg]
        exact wide_div (Mf.g3_pos (by omega)) (g3_lt hp hb) (by decide) (by decide)
      refine ⟨_, rfl, _, rfl, .inl ⟨_, _, rfl, rfl, pw _, ?_⟩⟩
      refine ⟨_, rfl, _, rfl, .inl ⟨_, _, rfl, rfl, pw _, ?_⟩⟩
      refine ⟨_, rfl, _, rfl, .inl ⟨_, _, rfl, rfl, pw _, by show 3 ≤ sizeLine; decide, fun p2 np2 => ?_⟩⟩
      refine q _ _ (sp.trans (same_new np2)) ⟨p2, rfl, ?_⟩
      rw [upd_same]
      unfold n3v Mf.low
      rw [← es]
    · have pn : ∀ z : Int, CDivN z (Mf.g3 a b c * sgn) := fun z => by
        rw [es]
        refine ⟨hg0, ?_⟩
        have h1 : (Mf.gs a b c).natAbs = (Mf.g3 a b c).natAbs := by
          unfold Mf.gs
          split <;> omega
        have h2 := g3_le (a := a) (b := b) hn
        rw [h1]
        omega
      refine ⟨_, rfl, _, rfl, .inr ⟨_, _, rfl, rfl, pn _, ?_⟩⟩
      refine ⟨_, rfl, _, rfl, .inr ⟨_, _, rfl, rfl, pn _, ?_⟩⟩
      refine ⟨_, rfl, _, rfl, .inr ⟨_, _, rfl, rfl, pn _, by show 3 ≤ sizeLine; decide, fun p2 np2 => ?_⟩⟩
      refine q _ _ (sp.trans (same_new np2)) ⟨p2, rfl, ?_⟩
      rw [upd_same]
      show some (HO.tup [V.int (a.fdiv (Mf.g3 a b c * sgn)), V.int (b.fdiv (Mf.g3 a b c * sgn)), V.int (c.fdiv (Mf.g3 a b c * sgn))]) = _
      rw [fd ea, fd eb, fd ec]
      rfl
abbrev N__law_is_whole : List Str := ["_law_thing"]
theorem sc__law_is_whole : FnScope N__law_is_whole ["_law_thing"] (defScope (top 46)) := ⟨rfl, rfl, rfl, by decide +kernel, rfl, by decide +kernel, by decide +kernel⟩

theorem ok_lwhole (T : Txt K mg) (D : Df K mg "_law_is_whole" 46) : C8.Cal P w K mg base 1 "_law_is_whole" spWhole [] := by
  refine mk_cal D sc__law_is_whole (fun vs H Q E h => ?_) (fun _ _ _ _ _ _ us hl => match us, hl with | [_], _ => rfl) (fun cdv A outer s f H vs Q E hr h => ?_)
  · obtain ⟨i, rfl, _⟩ := h
    rfl
  · obtain ⟨i, rfl, q⟩ := h
    refine ⟨_, (pss_one (ps_ret (pe_and (pe_callB call_isi (by rfl) T.isi (by decide +kernel) (pa_cons (pv 0) (pa_cons (pe_bltn (v := .ty "int") (by rfl) T.int (by decide +kernel) rfl) pa_nil))) (pe_one (pe_not (pe_callB call_isi (by rfl) T.isi (by decide +kernel) (pa_cons (pv 0) (pa_cons (pe_bltn (v := .ty "bool") (by rfl) T.bool (by decide +kernel) rfl) pa_nil)))))))), ?_⟩
    refine ⟨_, rfl, _, _, .type "int", .type "int", true, rfl, .ty _, .base (.int i), kit_ty (by decide +kernel), _, rfl, iteT ?_⟩
    exact ⟨_, rfl, _, _, .type "int", .type "bool", false, rfl, .ty _, .base (.int i), kit_ty (by decide +kernel), _, rfl, q⟩
abbrev N__law_is_number : List Str := ["_law_thing", "_law_one"]
theorem sc__law_is_number : FnScope N__law_is_number ["_law_thing"] (defScope (top 49)) := ⟨rfl, rfl, rfl, by decide +kernel, rfl, by decide +kernel, by decide +kernel⟩

theorem ok_lnumber (T : Txt K mg) (D : Df K mg "_law_is_number" 49) (c_law_is_whole : C8.Cal P w K mg base 1 "_law_is_whole" spWhole []) (c_law_shared : C8.Cal P w K mg base 1 "_law_shared" spShared []) : C8.Cal P w K mg base 2 "_law_is_number" spNumber [] := by
  refine mk_cal D sc__law_is_number (fun vs H Q E h => ?_) (fun _ _ _ _ _ _ us hl => match us, hl with | [_], _ => rfl) (fun cdv A outer s f H vs Q E hr h => ?_)
  · obtain ⟨v, x, rfl, _⟩ := h
    rfl
  · obtain ⟨_, x, rfl, ⟨p, rfl, h1⟩, hn, q⟩ := h
    refine ⟨_, (pss_cons (ps_if (PW.pt (pw_or (pt_not (pt_val (pe_callB call_isi (by rfl) T.isi (by decide +kernel) (pa_cons (pv 0) (pa_cons (pe_bltn (v := .ty "tuple") (by rfl) T.tuple (by decide +kernel) rfl) pa_nil))))) (pw_or (pt_cmpR op_ne (pe_callB call_len (by rfl) T.len (by decide +kernel) (pa_cons (pv 0) pa_nil)) pe_int (nomark _)) (pw_or1 (pt_not (pt_val (pe_callB (cr_all rfl) (by rfl) T.all (by decide +kernel) (pa_cons (pe_lc (own := [("_law_one", 1)]) rfl sc__law_is_number.nd (pi_tup (pv 0)) (blkOk_by (own := [("_law_one", 1)]) (N := N__law_is_number) (sc := defScope (top 49)) (by decide +kernel)) (fun _ _ _ _ _ => (pg_name (i := 1) sc__law_is_number.nd rfl (Or.inl rfl))) (fun _ _ _ _ _ => pts_nil) (fun _ _ _ _ _ => (C8.pe_c c_law_is_whole hr (by decide) (by rfl) (pa_cons (pv 1) pa_nil)))) pa_nil)))))))) (pss_one (ps_ret pe_bl)) pss_nil)
      (pss_one (ps_ret (pe_and (pe_cmpR op_gt (pe_ix ix_tup (pv 0) pe_int (fun _ _ => rfl)) pe_int (nomark _)) (pe_one (pe_cmpR op_eq (C8.pe_c c_law_shared hr (by decide) (by rfl) (pa_cons (C8.pe_c c_law_shared hr (by decide) (by rfl) (pa_cons (pe_ix ix_tup (pv 0) pe_int (fun _ _ => rfl)) (pa_cons (pe_ix ix_tup (pv 0) pe_int (fun _ _ => rfl)) pa_nil))) (pa_cons (pe_ix ix_tup (pv 0) pe_int (fun _ _ => rfl)) pa_nil))) pe_int (nomark _))))))), ?_⟩
    refine ⟨_, rfl, _, _, .type "tuple", .type "tuple", true, rfl, .ty _, .base (.tup h1), kit_ty (by decide +kernel), _, rfl, iteF ?_⟩
    refine ⟨_, rfl, _, 3, rfl, .inr ⟨_, SqT.of h1, rfl⟩, rfl, _, rfl, iteNS rfl ?_⟩
    refine ⟨_, rfl, p, rfl, ⟨_, SqT.of h1⟩, fun D hD => ?_⟩
    refine lc_tupM (xs := n3v x) (fun i v _ => v = .bl ((fun _ => true) i)) (fun i v H H' _ h => h) hD (.inl h1) (by show 3 < sizeLine; decide) (fun i y H2 N hy s2 k => ?_) (fun H2 s2 m => ?_)
    · refine ⟨rfl, ?_⟩
      have : ∃ z, y = .int z := by
        match i, hy with
        | 0, e => exact ⟨_, (Option.some.inj e).symm⟩
        | 1, e => exact ⟨_, (Option.some.inj e).symm⟩
        | 2, e => exact ⟨_, (Option.some.inj e).symm⟩
      obtain ⟨z, rfl⟩ := this
      exact ⟨_, rfl, z, rfl, k _ _ (Same.refl _) rfl⟩
    · refine ⟨D, _, rfl, SqL.of (made_bools m), _, rfl, iteF ?_⟩
      have h2 := s2 _ _ h1
      refine ⟨_, rfl, p, _, 2, _, rfl, rfl, SqT.of h2, at2 x, _, _, rfl, rfl, _, rfl, ifT (decide_eq_true hn.1) ?_⟩
      refine ⟨_, rfl, p, _, 0, _, rfl, rfl, SqT.of h2, at0 x, _, rfl, p, _, 1, _, rfl, rfl, SqT.of h2, at1 x, _, _, rfl, _, rfl, p, _, 2, _, rfl, rfl, SqT.of h2, at2 x, _, _, rfl, rfl, ?_⟩
      have e : ((Int.gcd ((Int.gcd x.a x.b : Nat) : Int) x.c : Nat) : Int) = 1 := hn.2
      rw [e, decide_eq_true rfl]
      exact q _ s2
abbrev N__law_plus : List Str := ["_law_x", "_law_y"]
theorem sc__law_plus : FnScope N__law_plus ["_law_x", "_law_y"] (defScope (top 50)) := ⟨rfl, rfl, rfl, by decide +kernel, rfl, by decide +kernel, by decide +kernel⟩

theorem ok_lplus (T : Txt K mg) (D : Df K mg "_law_plus" 50) (c_law_low : C8.Cal P w K mg base 2 "_law_low" spLLow []) : C8.Cal P w K mg base 3 "_law_plus" (spPlus K) [] := by
  refine mk_cal D sc__law_plus (fun vs H Q E h => ?_) (fun _ _ _ _ _ _ us hl => match us, hl with | [_, _], _ => rfl) (fun cdv A outer s f H vs Q E hr h => ?_)
  · obtain ⟨v1, v2, x, y, rfl, _⟩ := h
    rfl
  · obtain ⟨_, _, x, y, rfl, ⟨p1, rfl, h1⟩, ⟨p2, rfl, h2⟩, ⟨a1, b1, c1, d1⟩, ⟨a2, b2, c2, d2⟩, q⟩ := h
    refine ⟨_, (pss_one (ps_ret (C8.pe_c c_law_low hr (by decide) (by rfl) (pa_cons (pe_op op_add (pe_op op_mulW (pe_ix ix_tup (pv 0) pe_int (fun _ _ => rfl)) (pe_ix ix_tup (pv 1) pe_int (fun _ _ => rfl))) (pe_op op_mulW (pe_ix ix_tup (pv 1) pe_int (fun _ _ => rfl)) (pe_ix ix_tup (pv 0) pe_int (fun _ _ => rfl)))) (pa_cons (pe_op op_add (pe_op op_mulW (pe_ix ix_tup (pv 0) pe_int (fun _ _ => rfl)) (pe_ix ix_tup (pv 1) pe_int (fun _ _ => rfl))) (pe_op op_mulW (pe_ix ix_tup (pv 1) pe_int (fun _ _ => rfl)) (pe_ix ix_tup (pv 0) pe_int (fun _ _ => rfl)))) (pa_cons (pe_op op_mulW (pe_ix ix_tup (pv 0) pe_int (fun _ _ => rfl)) (pe_ix ix_tup (pv 1) pe_int (fun _ _ => rfl))) pa_nil)))))), ?_⟩
    have m : ∀ {a b : Int}, a.natAbs < 2 ^ 2000 → b.natAbs < 2 ^ 2000 → CMulW a b := fun ha hb => sm_mul ha hb (by decide) (by decide)
    refine ⟨_, rfl, p1, _, 0, _, rfl, rfl, h1.sq, at0 x, _, rfl, p2, _, 2, _, rfl, rfl, h2.sq, at2 y, _, _, rfl, rfl, m a1 d2,
      _, rfl, p2, _, 0, _, rfl, rfl, h2.sq, at0 y, _, rfl, p1, _, 2, _, rfl, rfl, h1.sq, at2 x, _, _, rfl, rfl, m a2 d1, _, _, rfl, rfl, ?_⟩
    refine ⟨_, rfl, p1, _, 1, _, rfl, rfl, h1.sq, at1 x, _, rfl, p2, _, 2, _, rfl, rfl, h2.sq, at2 y, _, _, rfl, rfl, m b1 d2,
      _, rfl, p2, _, 1, _, rfl, rfl, h2.sq, at1 y, _, rfl, p1, _, 2, _, rfl, rfl, h1.sq, at2 x, _, _, rfl, rfl, m b2 d1, _, _, rfl, rfl, ?_⟩
    refine ⟨_, rfl, p1, _, 2, _, rfl, rfl, h1.sq, at2 x, _, rfl, p2, _, 2, _, rfl, rfl, h2.sq, at2 y, _, _, rfl, rfl, m d1 d2, ?_⟩
    exact ⟨_, _, _, rfl, .inl ⟨Int.mul_pos c1 c2, mulc_lt d1 d2⟩, q⟩
abbrev N__law_times : List Str := ["_law_d", "_law_x", "_law_y"]
theorem sc__law_times : FnScope N__law_times ["_law_d", "_law_x", "_law_y"] (defScope (top 53)) := ⟨rfl, rfl, rfl, by decide +kernel, rfl, by decide +kernel, by decide +kernel⟩

theorem ok_ltimes (T : Txt K mg) (D : Df K mg "_law_times" 53) (c_law_low : C8.Cal P w K mg base 2 "_law_low" spLLow []) : C8.Cal P w K mg base 3 "_law_times" (spTimes K) [] := by
  refine mk_cal D sc__law_times (fun vs H Q E h => ?_) (fun _ _ _ _ _ _ us hl => match us, hl with | [_, _, _], _ => rfl) (fun cdv A outer s f H vs Q E hr h => ?_)
  · obtain ⟨d, v1, v2, x, y, rfl, _⟩ := h
    rfl
  · obtain ⟨d, _, _, x, y, rfl, ⟨p1, rfl, h1⟩, ⟨p2, rfl, h2⟩, hd, ⟨a1, b1, c1, d1⟩, ⟨a2, b2, c2, d2⟩, q⟩ := h
    refine ⟨_, (pss_one (ps_ret (C8.pe_c c_law_low hr (by decide) (by rfl) (pa_cons (pe_op op_add (pe_op op_mulW (pe_ix ix_tup (pv 1) pe_int (fun _ _ => rfl)) (pe_ix ix_tup (pv 2) pe_int (fun _ _ => rfl))) (pe_op op_mulW (pe_op op_mulW (pv 0) (pe_ix ix_tup (pv 1) pe_int (fun _ _ => rfl))) (pe_ix ix_tup (pv 2) pe_int (fun _ _ => rfl)))) (pa_cons (pe_op op_add (pe_op op_mulW (pe_ix ix_tup (pv 1) pe_int (fun _ _ => rfl)) (pe_ix ix_tup (pv 2) pe_int (fun _ _ => rfl))) (pe_op op_mulW (pe_ix ix_tup (pv 1) pe_int (fun _ _ => rfl)) (pe_ix ix_tup (pv 2) pe_int (fun _ _ => rfl)))) (pa_cons (pe_op op_mulW (pe_ix ix_tup (pv 1) pe_int (fun _ _ => rfl)) (pe_ix ix_tup (pv 2) pe_int (fun _ _ => rfl))) pa_nil)))))), ?_⟩
    have m : ∀ {a b : Int}, a.natAbs < 2 ^ 2000 → b.natAbs < 2 ^ 2000 → CMulW a b := fun ha hb => sm_mul ha hb (by decide) (by decide)
    have md : CMulW d x.b := wide_mul hd b1 (by decide) (by decide) (by decide)
    have me : CMulW (d * x.b) y.b := wide_mul (wide_lt hd b1) b2 (by decide) (by decide) (by decide)
    refine ⟨_, rfl, p1, _, 0, _, rfl, rfl, h1.sq, at0 x, _, rfl, p2, _, 0, _, rfl, rfl, h2.sq, at0 y, _, _, rfl, rfl, m a1 a2,
      _, rfl, _, rfl, p1, _, 1, _, rfl, rfl, h1.sq, at1 x, _, _, rfl, rfl, md, _, rfl, p2, _, 1, _, rfl, rfl, h2.sq, at1 y, _, _, rfl, rfl, me, _, _, rfl, rfl, ?_⟩
    refine ⟨_, rfl, p1, _, 0, _, rfl, rfl, h1.sq, at0 x, _, rfl, p2, _, 1, _, rfl, rfl, h2.sq, at1 y, _, _, rfl, rfl, m a1 b2,
      _, rfl, p1, _, 1, _, rfl, rfl, h1.sq, at1 x, _, rfl, p2, _, 0, _, rfl, rfl, h2.sq, at0 y, _, _, rfl, rfl, m b1 a2, _, _, rfl, rfl, ?_⟩
    refine ⟨_, rfl, p1, _, 2, _, rfl, rfl, h1.sq, at2 x, _, rfl, p2, _, 2, _, rfl, rfl, h2.sq, at2 y, _, _, rfl, rfl, m d1 d2, ?_⟩
    exact ⟨_, _, _, rfl, .inl ⟨Int.mul_pos c1 c2, mulc_lt d1 d2⟩, q⟩
abbrev N__law_minus : List Str := ["_law_x"]
theorem sc__law_minus : FnScope N__law_minus ["_law_x"] (defScope (top 51)) := ⟨rfl, rfl, rfl, by decide +kernel, rfl, by decide +kernel, by decide +kernel⟩

theorem ok_lminus (D : Df K mg "_law_minus" 51) : C8.Cal P w K mg base 1 "_law_minus" (spNeg K) [] := by
  refine mk_cal D sc__law_minus (fun vs H Q E h => ?_) (fun _ _ _ _ _ _ us hl => match us, hl with | [_], _ => rfl) (fun cdv A outer s f H vs Q E hr h => ?_)
  · obtain ⟨v, x, rfl, _⟩ := h
    rfl
  · obtain ⟨_, x, rfl, ⟨p, rfl, h1⟩, q⟩ := h
    refine ⟨_, (pss_one (ps_ret (pe_tup (pa_cons (pe_op op_sub pe_int (pe_ix ix_tup (pv 0) pe_int (fun _ _ => rfl))) (pa_cons (pe_op op_sub pe_int (pe_ix ix_tup (pv 0) pe_int (fun _ _ => rfl))) (pa_cons (pe_ix ix_tup (pv 0) pe_int (fun _ _ => rfl)) pa_nil)))))), ?_⟩
    refine ⟨_, rfl, p, _, 0, _, rfl, rfl, h1.sq, at0 x, _, _, rfl, rfl, _, rfl, p, _, 1, _, rfl, rfl, h1.sq, at1 x, _, _, rfl, rfl, _, rfl, p, _, 2, _, rfl, rfl, h1.sq, at2 x, by show 3 ≤ sizeLine; decide, fun p np => ?_⟩
    exact q _ _ (same_new np) ⟨p, rfl, upd_same⟩
abbrev N__law_mate : List Str := ["_law_x"]
theorem sc__law_mate : FnScope N__law_mate ["_law_x"] (defScope (top 52)) := ⟨rfl, rfl, rfl, by decide +kernel, rfl, by decide +kernel, by decide +kernel⟩

theorem ok_lmate (D : Df K mg "_law_mate" 52) : C8.Cal P w K mg base 1 "_law_mate" (spMate K) [] := by
  refine mk_cal D sc__law_mate (fun vs H Q E h => ?_) (fun _ _ _ _ _ _ us hl => match us, hl with | [_], _ => rfl) (fun cdv A outer s f H vs Q E hr h => ?_)
  · obtain ⟨v, x, rfl, _⟩ := h
    rfl
  · obtain ⟨_, x, rfl, ⟨p, rfl, h1⟩, q⟩ := h
    refine ⟨_, (pss_one (ps_ret (pe_tup (pa_cons (pe_ix ix_tup (pv 0) pe_int (fun _ _ => rfl)) (pa_cons (pe_op op_sub pe_int (pe_ix ix_tup (pv 0) pe_int (fun _ _ => rfl))) (pa_cons (pe_ix ix_tup (pv 0) pe_int (fun _ _ => rfl)) pa_nil)))))), ?_⟩
    refine ⟨_, rfl, p, _, 0, _, rfl, rfl, h1.sq, at0 x, _, rfl, p, _, 1, _, rfl, rfl, h1.sq, at1 x, _, _, rfl, rfl, _, rfl, p, _, 2, _, rfl, rfl, h1.sq, at2 x, by show 3 ≤ sizeLine; decide, fun p np => ?_⟩
    exact q _ _ (same_new np) ⟨p, rfl, upd_same⟩
abbrev N__law_contrary : List Str := ["_law_d", "_law_x"]
theorem sc__law_contrary : FnScope N__law_contrary ["_law_d", "_law_x"] (defScope (top 54)) := ⟨rfl, rfl, rfl, by decide +kernel, rfl, by decide +kernel, by decide +kernel⟩

def spCont (K : PySem.W.Frag) : Sp := fun vs H Q _ => ∃ d v x, vs = [.int d, v] ∧ Nu K H v x ∧ d.natAbs < 2 ^ 5 ∧ Mf.Sm 5 x ∧ x.a * x.a - d * x.b * x.b ≠ 0 ∧ Told H (Mf.contN d x) Q
theorem ok_lcont (T : Txt K mg) (D : Df K mg "_law_contrary" 54) (c_law_low : C8.Cal P w K mg base 2 "_law_low" spLLow []) : C8.Cal P w K mg base 3 "_law_contrary" (spCont K) [] := by
  refine mk_cal D sc__law_contrary (fun vs H Q E h => ?_) (fun _ _ _ _ _ _ us hl => match us, hl with | [_, _], _ => rfl) (fun cdv A outer s f H vs Q E hr h => ?_)
  · obtain ⟨d, v, x, rfl, _⟩ := h
    rfl
  · obtain ⟨d, _, x, rfl, ⟨p1, rfl, h1⟩, hd, ⟨a1, b1, c1, d1⟩, hn, q⟩ := h
    refine ⟨_, (pss_one (ps_ret (C8.pe_c c_law_low hr (by decide) (by rfl) (pa_cons (pe_op op_mulW (pe_ix ix_tup (pv 1) pe_int (fun _ _ => rfl)) (pe_ix ix_tup (pv 1) pe_int (fun _ _ => rfl))) (pa_cons (pe_op op_sub pe_int (pe_op op_mulW (pe_ix ix_tup (pv 1) pe_int (fun _ _ => rfl)) (pe_ix ix_tup (pv 1) pe_int (fun _ _ => rfl)))) (pa_cons (pe_op op_sub (pe_op op_mulW (pe_ix ix_tup (pv 1) pe_int (fun _ _ => rfl)) (pe_ix ix_tup (pv 1) pe_int (fun _ _ => rfl))) (pe_op op_mulW (pe_op op_mulW (pv 0) (pe_ix ix_tup (pv 1) pe_int (fun _ _ => rfl))) (pe_ix ix_tup (pv 1) pe_int (fun _ _ => rfl)))) pa_nil)))))), ?_⟩
    have m : ∀ {a b : Int}, a.natAbs < 2 ^ 5 → b.natAbs < 2 ^ 5 → CMulW a b := fun ha hb => sm_mul ha hb (by decide) (by decide)
    have me : CMulW (d * x.b) x.b := wide_mul (wide_lt hd b1) b1 (by decide) (by decide) (by decide)
    refine ⟨_, rfl, p1, _, 0, _, rfl, rfl, h1.sq, at0 x, _, rfl, p1, _, 2, _, rfl, rfl, h1.sq, at2 x, _, _, rfl, rfl, m a1 d1, ?_⟩
    refine ⟨_, rfl, p1, _, 1, _, rfl, rfl, h1.sq, at1 x, _, rfl, p1, _, 2, _, rfl, rfl, h1.sq, at2 x, _, _, rfl, rfl, m b1 d1, _, _, rfl, rfl, ?_⟩
    refine ⟨_, rfl, p1, _, 0, _, rfl, rfl, h1.sq, at0 x, _, rfl, p1, _, 0, _, rfl, rfl, h1.sq, at0 x, _, _, rfl, rfl, m a1 a1, _, rfl, _, rfl, p1, _, 1, _, rfl, rfl, h1.sq, at1 x, _, _, rfl, rfl, m hd b1, _, rfl, p1, _, 1, _, rfl, rfl, h1.sq, at1 x, _, _, rfl, rfl, me, _, _, rfl, rfl, ?_⟩
    refine ⟨_, _, _, rfl, .inr ⟨hn, ?_⟩, q⟩
    have t1 : (x.a * x.a).natAbs < 2 ^ (5 + 5) := wide_lt a1 a1
    have t2 : (d * x.b * x.b).natAbs < 2 ^ (5 + 5 + 5) := wide_lt (wide_lt hd b1) b1
    omega
abbrev N__law_sign : List Str := ["_law_d", "_law_x", "_law_first", "_law_second", "_law_sides"]
theorem sc__law_sign : FnScope N__law_sign ["_law_d", "_law_x"] (defScope (top 55)) := ⟨rfl, rfl, rfl, by decide +kernel, rfl, by decide +kernel, by decide +kernel⟩

def spLSign (K : PySem.W.Frag) : Sp := fun vs H Q _ => ∃ d v x, vs = [.int d, v] ∧ Nu K H v x ∧ d.natAbs < 2 ^ 5 ∧ Mf.Sm 2000 x ∧ ∀ H', Same H H' → Q (.int (Mf.lsgnN d x)) H'
theorem sg_le (a : Int) : Mf.sg a = 1 ∨ Mf.sg a = 0 ∨ Mf.sg a = -1 := by
  unfold Mf.sg Mf.b2i
  by_cases h1 : 0 < a <;> by_cases h2 : a < 0 <;> simp [h1, h2]
theorem ok_lsign (T : Txt K mg) (D : Df K mg "_law_sign" 55) : C8.Cal P w K mg base 1 "_law_sign" (spLSign K) [] := by
  refine mk_cal D sc__law_sign (fun vs H Q E h => ?_) (fun _ _ _ _ _ _ us hl => match us, hl with | [_, _], _ => rfl) (fun cdv A outer s f H vs Q E hr h => ?_)
  · obtain ⟨d, v, x, rfl, _⟩ := h
    rfl
  · obtain ⟨d, _, x, rfl, ⟨p1, rfl, h1⟩, hd, ⟨a1, b1, c1, d1⟩, q⟩ := h
    refine ⟨_, (pss_cons (ps_par (i := 2) (j := 3) (by rfl) sc__law_sign.nd rfl rfl (by decide) rfl rfl (pa_cons (pe_op op_mulW (pe_ix ix_tup (pv 1) pe_int (fun _ _ => rfl)) (pe_ix ix_tup (pv 1) pe_int (fun _ _ => rfl))) (pa_cons (pe_op op_mulW (pe_op op_mulW (pv 0) (pe_ix ix_tup (pv 1) pe_int (fun _ _ => rfl))) (pe_ix ix_tup (pv 1) pe_int (fun _ _ => rfl))) pa_nil)) (by rfl))
      (pss_cons (ps_set (i := 4) sc__law_sign.nd rfl (Or.inl rfl) (pe_lst (pa_cons (pe_op op_sub (pe_callTy call_int1 (by rfl) T.int (by decide +kernel) (pa_cons (pe_cmpR op_gt (pe_ix ix_tup (pv 1) pe_int (fun _ _ => rfl)) pe_int (nomark _)) pa_nil)) (pe_callTy call_int1 (by rfl) T.int (by decide +kernel) (pa_cons (pe_cmpR op_lt (pe_ix ix_tup (pv 1) pe_int (fun _ _ => rfl)) pe_int (nomark _)) pa_nil))) (pa_cons (pe_op op_sub (pe_callTy call_int1 (by rfl) T.int (by decide +kernel) (pa_cons (pe_cmpR op_gt (pe_ix ix_tup (pv 1) pe_int (fun _ _ => rfl)) pe_int (nomark _)) pa_nil)) (pe_callTy call_int1 (by rfl) T.int (by decide +kernel) (pa_cons (pe_cmpR op_lt (pe_ix ix_tup (pv 1) pe_int (fun _ _ => rfl)) pe_int (nomark _)) pa_nil))) pa_nil))))
      (pss_cons (ps_if (pt_cmpR op_ge (pe_op op_mul (pe_ix ix_list (pv 4) pe_int (fun _ _ => rfl)) (pe_ix ix_list (pv 4) pe_int (fun _ _ => rfl))) pe_int (nomark _)) (pss_one (ps_ret (pe_ifExp (pt_cmpR op_ne (pe_ix ix_list (pv 4) pe_int (fun _ _ => rfl)) pe_int (nomark _)) (pe_ix ix_list (pv 4) pe_int (fun _ _ => rfl)) (pe_ix ix_list (pv 4) pe_int (fun _ _ => rfl))))) pss_nil)
      (pss_one (ps_ret (pe_ifExp (pt_cmpR op_gt (pv 2) (pv 3) (nomark _)) (pe_ix ix_list (pv 4) pe_int (fun _ _ => rfl)) (pe_ix ix_list (pv 4) pe_int (fun _ _ => rfl)))))))), ?_⟩
    have m : ∀ {a b : Int}, a.natAbs < 2 ^ 2000 → b.natAbs < 2 ^ 2000 → CMulW a b := fun ha hb => sm_mul ha hb (by decide) (by decide)
    have md : CMulW d x.b := wide_mul hd b1 (by decide) (by decide) (by decide)
    have me : CMulW (d * x.b) x.b := wide_mul (wide_lt hd b1) b1 (by decide) (by decide) (by decide)
    refine ⟨_, rfl, p1, _, 0, _, rfl, rfl, h1.sq, at0 x, _, rfl, p1, _, 0, _, rfl, rfl, h1.sq, at0 x, _, _, rfl, rfl, m a1 a1,
      _, rfl, _, rfl, p1, _, 1, _, rfl, rfl, h1.sq, at1 x, _, _, rfl, rfl, md, _, rfl, p1, _, 1, _, rfl, rfl, h1.sq, at1 x, _, _, rfl, rfl, me, _, _, rfl, ?_⟩
    refine ⟨_, rfl, p1, _, 0, _, rfl, rfl, h1.sq, at0 x, _, _, rfl, rfl, .inr ⟨_, rfl, _, rfl, p1, _, 0, _, rfl, rfl, h1.sq, at0 x, _, _, rfl, rfl, .inr ⟨_, rfl, _, _, rfl, rfl, ?_⟩⟩⟩
    refine ⟨_, rfl, p1, _, 1, _, rfl, rfl, h1.sq, at1 x, _, _, rfl, rfl, .inr ⟨_, rfl, _, rfl, p1, _, 1, _, rfl, rfl, h1.sq, at1 x, _, _, rfl, rfl, .inr ⟨_, rfl, _, _, rfl, rfl, by show 2 ≤ sizeLine; decide, fun p np => ?_⟩⟩⟩
    have sm := same_new (o := .lst [V.int (Mf.sg x.a), V.int (Mf.sg x.b)]) np
    have hp : SqL K (upd H p (.lst [V.int (Mf.sg x.a), V.int (Mf.sg x.b)])) p [V.int (Mf.sg x.a), V.int (Mf.sg x.b)] := SqL.of upd_same
    have i0 : atI [V.int (Mf.sg x.a), V.int (Mf.sg x.b)] 0 = some (.int (Mf.sg x.a)) := atI_nat (j := 0) rfl
    have i1 : atI [V.int (Mf.sg x.a), V.int (Mf.sg x.b)] 1 = some (.int (Mf.sg x.b)) := atI_nat (j := 1) rfl
    have k1 := sg_le x.a
    have k2 := sg_le x.b
    refine ⟨_, rfl, p, _, 0, _, rfl, rfl, hp, i0, _, rfl, p, _, 1, _, rfl, rfl, hp, i1, _, _, rfl, rfl, .inl (by omega), _, _, rfl, rfl, _, rfl, ?_⟩
    refine ifB (fun c1 => ?_) (fun c1 => ?_)
    · have c1 := of_decide_eq_true c1
      refine ⟨_, rfl, p, _, 0, _, rfl, rfl, hp, i0, rfl, _, rfl, ?_⟩
      by_cases c2 : Mf.sg x.a = 0
      · refine ifF (by rw [c2]; rfl) ⟨_, rfl, p, _, 1, _, rfl, rfl, hp, i1, ?_⟩
        have e : Mf.lsgnN d x = Mf.sg x.b := by
          unfold Mf.lsgnN
          rw [if_pos c1, if_neg (by simp [c2])]
        rw [← e]
        exact q _ sm
      · have c3 : ¬ V.int (Mf.sg x.a) = V.int 0 := fun h => c2 (V.int.inj h)
        refine ifT (by rw [decide_eq_false c3]; rfl) ⟨_, rfl, p, _, 0, _, rfl, rfl, hp, i0, ?_⟩
        have e : Mf.lsgnN d x = Mf.sg x.a := by
          unfold Mf.lsgnN
          rw [if_pos c1, if_pos c2]
        rw [← e]
        exact q _ sm
    · have c1' : ¬ 0 ≤ Mf.sg x.a * Mf.sg x.b := fun h => by
        rw [decide_eq_true h] at c1
        cases c1
      refine ⟨_, rfl, _, rfl, _, _, rfl, rfl, _, rfl, ?_⟩
      refine ifB (fun c2 => ?_) (fun c2 => ?_)
      · have c2 := of_decide_eq_true c2
        refine ⟨_, rfl, p, _, 0, _, rfl, rfl, hp, i0, ?_⟩
        have e : Mf.lsgnN d x = Mf.sg x.a := by
          unfold Mf.lsgnN
          rw [if_neg c1', if_pos c2]
        rw [← e]
        exact q _ sm
      · have c2' : ¬ d * x.b * x.b < x.a * x.a := fun h => by
          rw [decide_eq_true h] at c2
          cases c2
        refine ⟨_, rfl, p, _, 1, _, rfl, rfl, hp, i1, ?_⟩
        have e : Mf.lsgnN d x = Mf.sg x.b := by
          unfold Mf.lsgnN
          rw [if_neg c1', if_neg c2']
        rw [← e]
        exact q _ sm
end
end MfW
namespace MfW
open PySem PySem.Spec PyProof.Rows L2
section
variable {P : Program} {w : World} {K : PySem.W.Frag} {mg : Str → Option Value} {base : Heap}
/-! ### the bag -/
/-- a bag: what is left of the great number, and the seed -/
def Bag (H : Hp) (b : Addr) : Prop := ∃ g m : Int, H b = some (.lst [.int g, .int m]) ∧ 0 ≤ g ∧ 0 ≤ m ∧ m < 2147483648
/-- nothing but the bag was written -/
def SB (b : Addr) (H H' : Hp) : Prop := Bag H' b ∧ ∀ a o, a ≠ b → H a = some o → H' a = some o
theorem Bag.tl {b : Addr} {H : Hp} (h : Bag H b) : ∃ xs, H b = some (.lst xs) := by
  obtain ⟨g, m, h, _⟩ := h
  exact ⟨_, h⟩
theorem SB.refl {b : Addr} {H : Hp} (h : Bag H b) : SB b H H := ⟨h, fun _ _ _ e => e⟩
theorem SB.trans {b : Addr} {H H1 H2 : Hp} (h1 : SB b H H1) (h2 : SB b H1 H2) : SB b H H2 := ⟨h2.1, fun a o n e => h2.2 a o n (h1.2 a o n e)⟩
theorem Bag.same {b : Addr} {H H' : Hp} (h : Bag H b) (s : Same H H') : Bag H' b := by
  obtain ⟨g, m, h, z⟩ := h
  exact ⟨g, m, s _ _ h, z⟩
theorem SB.of {b : Addr} {H H' : Hp} (h : Bag H b) (s : Same H H') : SB b H H' := ⟨h.same s, fun a o _ e => s a o e⟩
theorem SB.tl {b : Addr} {H H' : Hp} (s : SB b H H') (h : Bag H b) : TL H H' := fun a xs e => by
  obtain ⟨ys, hb⟩ := h.tl
  exact s.2 a _ (ne_of e hb (by intro z; cases z)) e
/-- what is not there yet: not the bag -/
theorem Bag.ne {b : Addr} {H : Hp} (h : Bag H b) {p : Addr} (hp : H p = none) : p ≠ b := fun e => by
  obtain ⟨ys, hb⟩ := h.tl
  rw [e, hb] at hp
  cases hp
theorem SB.new {b : Addr} {H : Hp} (h : Bag H b) {p : Addr} {o : HO} (hp : H p = none) : SB b H (upd H p o) := .of h (same_new hp)
theorem none_of {H : Hp} {p b : Addr} {o : HO} (h : upd H b o p = none) : H p = none := by
  by_cases e : p = b
  · rw [e, upd_same] at h
    cases h
  · rw [upd_ne e] at h
    exact h
theorem none_same {H H' : Hp} {p : Addr} (s : Same H H') (h : H' p = none) : H p = none := by
  cases e : H p with
  | none => rfl
  | some o =>
    rw [s _ _ e] at h
    cases h
abbrev N__law_take : List Str := ["_law_bag_here", "_law_many", "_law_digit"]
theorem sc__law_take : FnScope N__law_take ["_law_bag_here", "_law_many"] (defScope (top 45)) := ⟨rfl, rfl, rfl, by decide +kernel, rfl, by decide +kernel, by decide +kernel⟩

def spTake : Sp := fun vs H Q _ => ∃ (b : Addr) (n : Int), vs = [.ref b, .int n] ∧ Bag H b ∧ 0 < n ∧ n < 1073741824 ∧ ∀ x H', 0 ≤ x → x < n → SB b H H' → Q (.int x) H'
theorem ok_take (D : Df K mg "_law_take" 45) : C8.Cal P w K mg base 1 "_law_take" spTake [] := by
  refine mk_cal D sc__law_take (fun vs H Q E h => ?_) (fun _ _ _ _ _ _ us hl => match us, hl with | [_, _], _ => rfl) (fun cdv A outer s f H vs Q E hr h => ?_)
  · obtain ⟨b, n, rfl, _⟩ := h
    rfl
  · obtain ⟨b, n, rfl, ⟨g, m, hb, g0, m0, m1⟩, n0, n1, q⟩ := h
    refine ⟨_, (pss_cons (ps_if (pt_cmpR op_gt (pe_ix ix_list (pv 0) pe_int (fun _ _ => rfl)) pe_int (nomark _)) (pss_cons (ps_set (i := 2) sc__law_take.nd rfl (Or.inl rfl) (pe_op op_mod (pe_ix ix_list (pv 0) pe_int (fun _ _ => rfl)) (pv 1)))
      (pss_cons (ps_asg (pe_op op_fdiv (pe_ix ix_list (pv 0) pe_int (fun _ _ => rfl)) (pv 1)) (pg_sub (pv 0) pe_int set_list))
      (pss_one (ps_ret (pv 2))))) pss_nil)
      (pss_cons (ps_asg (pe_op op_mod (pe_op op_add (pe_op op_mul (pe_ix ix_list (pv 0) pe_int (fun _ _ => rfl)) pe_int) pe_int) pe_int) (pg_sub (pv 0) pe_int set_list))
      (pss_one (ps_ret (pe_op op_mod (pe_op op_fdiv (pe_op op_mod (pe_op op_pow (pe_ix ix_list (pv 0) pe_int (fun _ _ => rfl)) pe_int) pe_int) pe_int) (pv 1)))))), ?_⟩
    have l0 : ∀ x y : Int, atI [V.int x, V.int y] 0 = some (.int x) := fun x y => atI_nat (j := 0) rfl
    have l1 : ∀ x y : Int, atI [V.int x, V.int y] 1 = some (.int y) := fun x y => atI_nat (j := 1) rfl
    refine ⟨_, rfl, b, _, 0, _, rfl, rfl, SqL.of hb, l0 g m, _, _, rfl, rfl, _, rfl, ?_⟩
    refine ifB (fun c => ?_) (fun c => ?_)
    · have c := of_decide_eq_true c
      refine ⟨_, rfl, b, _, 0, _, rfl, rfl, SqL.of hb, l0 g m, _, rfl, _, _, rfl, rfl, n0, _, rfl, b, _, 0, _, rfl, rfl, SqL.of hb, l0 g m, _, rfl, _, _, rfl, rfl, ⟨n0, n1⟩, _, rfl, b, _, 0, 0, rfl, rfl, hb, rfl, _, rfl, ?_⟩
      have hg : 0 ≤ g / n := Int.ediv_nonneg g0 (by omega)
      refine q _ _ (Int.emod_nonneg _ (by omega)) (Int.emod_lt_of_pos _ n0) ⟨⟨_, _, upd_same, hg, m0, m1⟩, fun a o ne e => ?_⟩
      rw [upd_ne ne]
      exact e
    · refine ⟨_, rfl, b, _, 1, _, rfl, rfl, SqL.of hb, l1 g m, _, _, rfl, rfl, .inr (by omega), _, _, rfl, rfl, _, _, rfl, rfl, (by decide : (0:Int) < 2147483647), _, rfl, b, _, 1, 1, rfl, rfl, hb, rfl, ?_⟩
      have hm0 := Int.emod_nonneg (m * 48271 + 2531011) (show (2147483647 : Int) ≠ 0 by decide)
      have hm1 := Int.emod_lt_of_pos (m * 48271 + 2531011) (show (0 : Int) < 2147483647 by decide)
      have hB : Bag (upd H b (.lst [.int g, .int ((m * 48271 + 2531011) % 2147483647)])) b := ⟨_, _, upd_same, g0, hm0, by omega⟩
      refine ⟨_, rfl, b, _, 1, _, rfl, rfl, SqL.of upd_same, l1 g _, _, _, rfl, rfl, ⟨by decide, by decide, by omega⟩, _, _, rfl, rfl, (by decide : (0:Int) < 2147483629), _, _, rfl, rfl, (⟨by decide, by decide⟩ : CDiv _ 64), _, rfl, _, _, rfl, rfl, n0, ?_⟩
      refine q _ _ (Int.emod_nonneg _ (by omega)) (Int.emod_lt_of_pos _ n0) ⟨hB, fun a o ne e => ?_⟩
      rw [upd_ne ne]
      exact e
abbrev N__law_bag : List Str := ["_law_script", "_law_at", "_law_cell", "_law_great", "_law_primes", "_law_mixed"]
theorem sc__law_bag : FnScope N__law_bag ["_law_script", "_law_at"] (defScope (top 44)) := ⟨rfl, rfl, rfl, by decide +kernel, rfl, by decide +kernel, by decide +kernel⟩

def spBag (K : PySem.W.Frag) : Sp := fun vs H Q _ => ∃ (a : Addr) (ns : List Int) (k : Nat), vs = [.ref a, .int (k : Int)] ∧ SqL K H a (ns.map V.int) ∧ k ≤ 8 ∧ ∀ p H', H p = none → Same H H' → Bag H' p → Q (.ref p) H'
theorem ok_bag (T : Txt K mg) (D : Df K mg "_law_bag" 44) : C8.Cal P w K mg base 1 "_law_bag" (spBag K) [] := by
  refine mk_cal D sc__law_bag (fun vs H Q E h => ?_) (fun _ _ _ _ _ _ us hl => match us, hl with | [_, _], _ => rfl) (fun cdv A outer s f H vs Q E hr h => ?_)
  · obtain ⟨a, ns, k, rfl, _⟩ := h
    rfl
  · obtain ⟨a, ns, k, rfl, ha, hk, q⟩ := h
    refine ⟨_, (pss_cons (ps_set (i := 2) sc__law_bag.nd rfl (Or.inl rfl) pe_int)
      (C8.pss_cut (ps_if (pt_cmpR op_lt (pv 1) (pe_callB call_len (by rfl) T.len (by decide +kernel) (pa_cons (pv 0) pa_nil)) (nomark _)) (pss_one (ps_set (i := 2) sc__law_bag.nd rfl (Or.inl rfl) (pe_ix ix_list (pv 0) (pv 1) (fun _ _ => rfl)))) pss_nil)
      (pss_cons (ps_set (i := 3) sc__law_bag.nd rfl (Or.inl rfl) pe_int)
      (C8.pss_cut (ps_if (pt_cmpR op_ge (pe_callB call_abs (by rfl) T.abs (by decide +kernel) (pa_cons (pv 2) pa_nil)) (pe_op op_pow pe_int pe_int) (nomark _)) (pss_one (ps_set (i := 3) sc__law_bag.nd rfl (Or.inl rfl) (pe_callB call_abs (by rfl) T.abs (by decide +kernel) (pa_cons (pv 2) pa_nil)))) pss_nil)
      (pss_cons (ps_set (i := 4) sc__law_bag.nd rfl (Or.inl rfl) (pe_lst (pa_cons pe_int (pa_cons pe_int (pa_cons pe_int (pa_cons pe_int (pa_cons pe_int (pa_cons pe_int (pa_cons pe_int (pa_cons pe_int pa_nil))))))))))
      (pss_cons (ps_set (i := 5) sc__law_bag.nd rfl (Or.inl rfl) (pe_op op_add (pe_op op_add (pe_op op_add (pe_op op_mul (pe_op op_mod (pv 2) pe_int) pe_int) (pe_op op_mul (pe_op op_mul pe_int (pv 1)) (pv 1))) (pe_op op_mul pe_int (pv 1))) pe_int))
      (pss_one (ps_ret (pe_lst (pa_cons (pv 3) (pa_cons (pe_op op_mod (pv 5) (pe_ix ix_list (pv 4) (pe_op op_mod (pv 1) pe_int) (fun _ _ => rfl))) pa_nil))))))))))), ?_⟩
    refine ⟨fun σ H' => ∃ c : Int, σ = [some (.ref a), some (.int (k : Int)), some (.int c), none, none, none] ∧ H' = H, ?_, ?_⟩
    · refine ⟨_, rfl, _, rfl, _, _, rfl, .inl ⟨_, ha, rfl⟩, _, _, rfl, rfl, _, rfl, ?_⟩
      refine ifB (fun c => ?_) (fun c => ?_)
      · have c := of_decide_eq_true c
        rw [List.length_map] at c
        have hlt : k < ns.length := by omega
        refine ⟨_, rfl, _, rfl, a, _, (k : Int), _, rfl, rfl, ha, atI_nat (j := k) (by rw [List.getElem?_map, List.getElem?_eq_getElem hlt]; rfl), ?_⟩
        exact ⟨_, rfl, rfl⟩
      · exact ⟨_, rfl, rfl⟩
    · rintro σ H' ⟨c, rfl, rfl⟩
      refine ⟨fun σ H1 => ∃ g : Int, σ = [some (.ref a), some (.int (k : Int)), some (.int c), some (.int g), none, none] ∧ 0 ≤ g ∧ H1 = H', ?_, ?_⟩
      · refine ⟨_, rfl, _, rfl, _, _, rfl, rfl, ⟨by decide, by decide, by decide⟩, _, _, rfl, rfl, _, rfl, ?_⟩
        refine ifB (fun z => ?_) (fun z => ?_)
        · refine ⟨_, rfl, _, rfl, ?_⟩
          exact ⟨_, rfl, by split <;> omega, rfl⟩
        · exact ⟨0, rfl, by decide, rfl⟩
      · rintro σ H1 ⟨g, rfl, g0, rfl⟩
        refine ⟨by show 8 ≤ sizeLine; decide, fun p np => ?_⟩
        have s1 := same_new (o := .lst [V.int 2147483647, .int 2147483629, .int 2147483587, .int 2147483579, .int 2147483563, .int 2147483549, .int 2147483543, .int 2147483497]) np
        obtain ⟨pr, hpr, pr0, pr1⟩ : ∃ pr : Int, atI [V.int 2147483647, .int 2147483629, .int 2147483587, .int 2147483579, .int 2147483563, .int 2147483549, .int 2147483543, .int 2147483497] ((k : Int) % 8) = some (.int pr) ∧ 0 < pr ∧ pr < 2147483648 := by
          have e : ((k : Int) % 8) = ((k % 8 : Nat) : Int) := by omega
          rw [e]
          have lt : k % 8 < 8 := Nat.mod_lt _ (by decide)
          generalize k % 8 = j at lt
          match j, lt with
          | 0, _ => exact ⟨_, atI_nat rfl, by decide, by decide⟩
          | 1, _ => exact ⟨_, atI_nat rfl, by decide, by decide⟩
          | 2, _ => exact ⟨_, atI_nat rfl, by decide, by decide⟩
          | 3, _ => exact ⟨_, atI_nat rfl, by decide, by decide⟩
          | 4, _ => exact ⟨_, atI_nat rfl, by decide, by decide⟩
          | 5, _ => exact ⟨_, atI_nat rfl, by decide, by decide⟩
          | 6, _ => exact ⟨_, atI_nat rfl, by decide, by decide⟩
          | 7, _ => exact ⟨_, atI_nat rfl, by decide, by decide⟩
        refine ⟨_, rfl, _, _, rfl, rfl, (by decide : (0:Int) < 2147483647), _, _, rfl, rfl, .inr (by decide), _, rfl, _, _, rfl, rfl, .inl (by decide), _, rfl, _, _, rfl, rfl, .inr (by omega), _, _, rfl, rfl, _, rfl, _, _, rfl, rfl, .inl (by decide), _, _, rfl, rfl, _, _, rfl, rfl, ?_⟩
        refine ⟨_, rfl, _, rfl, _, rfl, _, rfl, _, _, rfl, rfl, (by decide : (0:Int) < 8), p, _, _, _, rfl, rfl, SqL.of upd_same, hpr, _, _, rfl, rfl, pr0, by show 2 ≤ sizeLine; decide, fun p2 np2 => ?_⟩
        have e0 : H1 p2 = none := none_of np2
        exact q _ _ e0 (s1.trans (same_new np2)) ⟨_, _, upd_same, g0, Int.emod_nonneg _ (by omega), by have := Int.emod_lt_of_pos (c % 2147483647 * 69623 + 104729 * (k : Int) * (k : Int) + 7919 * (k : Int) + 12345) pr0; omega⟩
end
end MfW
namespace MfW
open PySem PySem.Spec PyProof.Rows L2
section
variable {P : Program} {w : World} {K : PySem.W.Frag} {mg : Str → Option Value} {base : Heap}
theorem pick {xs : List V} {x : Int} {C : V → Prop} (hC : ∀ v ∈ xs, C v) (h0 : 0 ≤ x) (h1 : x < xs.length) : ∃ v, atI xs x = some v ∧ C v := by
  obtain ⟨j, rfl⟩ : ∃ j : Nat, x = (j : Int) := ⟨x.toNat, by omega⟩
  have hj : j < xs.length := by omega
  exact ⟨xs[j], atI_nat (List.getElem?_eq_getElem hj), hC _ (List.getElem_mem hj)⟩
abbrev N__law_root : List Str := ["_law_bag_here", "_law_some", "_law_d"]
theorem sc__law_root : FnScope N__law_root ["_law_bag_here"] (defScope (top 56)) := ⟨rfl, rfl, rfl, by decide +kernel, rfl, by decide +kernel, by decide +kernel⟩

def spRoot : Sp := fun vs H Q _ => ∃ b : Addr, vs = [.ref b] ∧ Bag H b ∧ ∀ (r : Mf.Rt) H', RtOk r → SB b H H' → Q (.int r.d) H'
def rootsUp (i : Nat) : List Int := ((List.range i).map fun j : Nat => (2 + (j : Int) : Int)).filter fun d => !(d == 4 || d == 9 || d == 16 || d == 25)
theorem rootsUp_succ (i : Nat) : rootsUp (i + 1) = if (!((2 + (i : Int)) == 4 || (2 + (i : Int)) == 9 || (2 + (i : Int)) == 16 || (2 + (i : Int)) == 25)) = true then rootsUp i ++ [2 + (i : Int)] else rootsUp i := by
  unfold rootsUp
  rw [List.range_succ, List.map_append, List.filter_append, List.map_singleton]
  cases e : (!((2 + (i : Int)) == 4 || (2 + (i : Int)) == 9 || (2 + (i : Int)) == 16 || (2 + (i : Int)) == 25)) with
  | true => rw [List.filter_cons_of_pos (by exact e), List.filter_nil, if_pos rfl]
  | false => rw [List.filter_cons_of_neg (by rw [e]; decide), List.filter_nil, List.append_nil, if_neg (by decide)]
theorem rootsUp_le (i : Nat) : (rootsUp i).length ≤ i := by
  unfold rootsUp
  refine Nat.le_trans (List.length_filter_le _ _) ?_
  rw [List.length_map, List.length_range]
  exact Nat.le_refl _
theorem rootsUp_29 : rootsUp 29 = Mf.roots := by decide
theorem ok_root (T : Txt K mg) (D : Df K mg "_law_root" 56) (c_law_take : C8.Cal P w K mg base 1 "_law_take" spTake []) : C8.Cal P w K mg base 2 "_law_root" spRoot [] := by
  refine mk_cal D sc__law_root (fun vs H Q E h => ?_) (fun _ _ _ _ _ _ us hl => match us, hl with | [_], _ => rfl) (fun cdv A outer s f H vs Q E hr h => ?_)
  · obtain ⟨b, rfl, _⟩ := h
    rfl
  · obtain ⟨b, rfl, hB, q⟩ := h
    refine ⟨_, (pss_cons (ps_if (pt_cmpR op_eq (C8.pe_c c_law_take hr (by decide) (by rfl) (pa_cons (pv 0) (pa_cons pe_int pa_nil))) pe_int (nomark _)) (pss_one (ps_ret (pe_ix ix_list (pe_lst (pa_cons pe_int (pa_cons pe_int (pa_cons pe_int pa_nil)))) (C8.pe_c c_law_take hr (by decide) (by rfl) (pa_cons (pv 0) (pa_cons pe_int pa_nil))) (fun _ _ => rfl)))) pss_nil)
      (pss_cons (ps_setLc (i := 1) (own := [("_law_d", 2)]) (by rfl) sc__law_root.nd rfl rfl (sw_true rfl rfl rfl (by decide +kernel)) (pi_range2 (by rfl) T.range (pa_cons pe_int (pa_cons pe_int pa_nil))) (blkOk_by (own := [("_law_d", 2)]) (N := N__law_root) (sc := defScope (top 56)) (by decide +kernel)) (fun _ _ _ _ _ => (pg_name (i := 2) sc__law_root.nd rfl (Or.inl rfl))) (fun _ _ _ _ _ => (pts_one (pt_cmpR (r := rIn K true) (by exact op_notIn_seq) (pv 2) (pe_lst (pa_cons pe_int (pa_cons pe_int (pa_cons pe_int (pa_cons pe_int pa_nil))))) (by rfl)))) (fun _ _ _ _ _ => (pv 2)))
      (pss_one (ps_ret (pe_ix ix_list (pv 1) (C8.pe_c c_law_take hr (by decide) (by rfl) (pa_cons (pv 0) (pa_cons pe_int pa_nil))) (fun _ _ => rfl)))))), ?_⟩
    refine ⟨_, rfl, b, 2, rfl, hB, by decide, by decide, fun x1 H1 _ _ s1 => ⟨rfl, _, rfl, ?_⟩⟩
    refine ifB (fun c => ?_) (fun c => ?_)
    · refine ⟨by show 3 ≤ sizeLine; decide, fun p np => ?_⟩
      have hp := s1.1.ne np
      have s2 := SB.new s1.1 (o := .lst [V.int 2, .int 3, .int 5]) np
      refine ⟨_, rfl, b, 3, rfl, s2.1, by decide, by decide, fun x H2 x0 x3 s3 => ?_⟩
      obtain ⟨v, e, r, hd, rfl⟩ := pick (xs := [V.int 2, .int 3, .int 5]) (C := fun v => ∃ r : Mf.Rt, r.d ≤ 30 ∧ v = .int r.d) (fun v hv => by
        simp only [List.mem_cons, List.not_mem_nil, or_false] at hv
        rcases hv with rfl | rfl | rfl
        · obtain ⟨r, e, h⟩ := Mf.root_ok (d := 2) (by decide)
          exact ⟨r, h, by rw [e]⟩
        · obtain ⟨r, e, h⟩ := Mf.root_ok (d := 3) (by decide)
          exact ⟨r, h, by rw [e]⟩
        · obtain ⟨r, e, h⟩ := Mf.root_ok (d := 5) (by decide)
          exact ⟨r, h, by rw [e]⟩) x0 x3
      exact ⟨p, _, x, _, rfl, rfl, SqL.of (s3.2 p _ hp upd_same), e, q r _ ⟨hd⟩ ((s1.trans s2).trans s3)⟩
    · refine ⟨2, 31, rfl, ⟨by decide, by decide, by decide, by decide⟩, fun D hD => ?_⟩
      have hDb := s1.1.ne hD
      refine lc_range (fun i H2 => H2 D = some (.lst ((rootsUp i).map V.int)) ∧ SB b H1 H2) ⟨upd_same, SB.new s1.1 hD⟩ (fun i H2 hi ⟨e, s2⟩ => ?_) (fun H2 ⟨e, s2⟩ => ?_)
      · refine ⟨rfl, _, rfl, by show 4 ≤ sizeLine; decide, fun p np => ?_⟩
        have s3 := SB.new s2.1 (o := .lst [V.int 4, .int 9, .int 16, .int 25]) np
        refine ⟨p, _, rfl, .inl (SqL.of upd_same), rfl, rfl, _, rfl, ?_⟩
        have e3 : upd H2 p (.lst [V.int 4, .int 9, .int 16, .int 25]) D = some (.lst ((rootsUp i).map V.int)) := same_new np _ _ e
        have eb : (if true then !inV (.int (2 + (i : Int))) [V.int 4, .int 9, .int 16, .int 25] else inV (.int (2 + (i : Int))) [V.int 4, .int 9, .int 16, .int 25]) = !((2 + (i : Int)) == 4 || (2 + (i : Int)) == 9 || (2 + (i : Int)) == 16 || (2 + (i : Int)) == 25) := by
          rw [if_pos rfl]
          unfold inV
          simp only [List.any_cons, List.any_nil, Bool.or_false, eqV, Bool.or_assoc]
          congr 1
          rw [Bool.eq_iff_iff]
          simp only [Bool.or_eq_true, beq_iff_eq]
          omega
        rw [eb]
        refine ifB (fun hc => ?_) (fun hc => ?_)
        · refine ⟨_, rfl, _, e3, by rw [List.length_map]; have := rootsUp_le i; have := sizeLine_eq; omega, ?_, ?_⟩
          · rw [upd_same, rootsUp_succ, if_pos hc, List.map_append]
            rfl
          · have s4 := s2.trans s3
            refine ⟨?_, fun a o ne ea => ?_⟩
            · obtain ⟨g, m, hb, z⟩ := s4.1
              exact ⟨g, m, by rw [upd_ne (fun z => hDb z.symm)]; exact hb, z⟩
            · rw [upd_ne (ne_of_none ea hD)]
              exact s4.2 a o ne ea
        · refine ⟨?_, s2.trans s3⟩
          rw [rootsUp_succ, if_neg (by rw [hc]; decide)]
          exact e3
      · refine ⟨_, rfl, _, rfl, b, 25, rfl, s2.1, by decide, by decide, fun x H3 x0 x3 s3 => ?_⟩
        have e' := s3.2 D _ hDb e
        have e29 : ((31 : Int) - 2).toNat = 29 := by decide
        rw [e29, rootsUp_29] at e'
        obtain ⟨v, ev, r, hd, rfl⟩ := pick (xs := Mf.roots.map V.int) (C := fun v => ∃ r : Mf.Rt, r.d ≤ 30 ∧ v = .int r.d) (fun v hv => by
          obtain ⟨d, hd, rfl⟩ := List.mem_map.mp hv
          obtain ⟨r, e, h⟩ := Mf.root_ok hd
          exact ⟨r, h, by rw [e]⟩) x0 x3
        exact ⟨D, _, x, _, rfl, rfl, SqL.of e', ev, q r _ ⟨hd⟩ ((s1.trans s2).trans s3)⟩
end
end MfW
namespace MfW
open PySem PySem.Spec PyProof.Rows L2
section
variable {P : Program} {w : World} {K : PySem.W.Frag} {mg : Str → Option Value} {base : Heap}
theorem SB.nuH {b : Addr} {H H' : Hp} {v : V} {x : Mf.N3} (s : SB b H H') (hB : Bag H b) (h : NuH H v x) : NuH H' v x := (s.tl hB).nuH h
abbrev N__law_number : List Str := ["_law_bag_here", "_law_wide", "_law_a", "_law_b", "_law_c", "_law_way"]
theorem sc__law_number : FnScope N__law_number ["_law_bag_here"] (defScope (top 57)) := ⟨rfl, rfl, rfl, by decide +kernel, rfl, by decide +kernel, by decide +kernel⟩

def spLNum : Sp := fun vs H Q _ => ∃ b : Addr, vs = [.ref b] ∧ Bag H b ∧ ∀ (v : V) (x : Mf.N3) H', SB b H H' → NuH H' v x → Mf.Nm x → Mf.Sm 20 x → Q v H'
def IntUp (M : Nat) (v : V) : Prop := ∃ i : Int, v = .int i ∧ i.natAbs ≤ M
def IntPos (M : Nat) (v : V) : Prop := ∃ i : Int, v = .int i ∧ 0 < i ∧ i.natAbs ≤ M
theorem ok_lnum (T : Txt K mg) (D : Df K mg "_law_number" 57) (c_law_take : C8.Cal P w K mg base 1 "_law_take" spTake []) (c_law_low : C8.Cal P w K mg base 2 "_law_low" spLLow []) : C8.Cal P w K mg base 3 "_law_number" spLNum [] := by
  refine mk_cal D sc__law_number (fun vs H Q E h => ?_) (fun _ _ _ _ _ _ us hl => match us, hl with | [_], _ => rfl) (fun cdv A outer s f H vs Q E hr h => ?_)
  · obtain ⟨b, rfl, _⟩ := h
    rfl
  · obtain ⟨b, rfl, hB, q⟩ := h
    refine ⟨_, (pss_cons (ps_set (i := 1) sc__law_number.nd rfl (Or.inl rfl) (pe_ix ix_list (pe_lst (pa_cons pe_int (pa_cons pe_int (pa_cons pe_int (pa_cons pe_int pa_nil))))) (C8.pe_c c_law_take hr (by decide) (by rfl) (pa_cons (pv 0) (pa_cons pe_int pa_nil))) (fun _ _ => rfl)))
      (pss_cons (ps_par (i := 2) (j := 3) (by rfl) sc__law_number.nd rfl rfl (by decide) rfl rfl (pa_cons (pe_op op_sub (C8.pe_c c_law_take hr (by decide) (by rfl) (pa_cons (pv 0) (pa_cons (pv 1) pa_nil))) (pe_op op_fdiv (pv 1) pe_int)) (pa_cons (pe_op op_sub (C8.pe_c c_law_take hr (by decide) (by rfl) (pa_cons (pv 0) (pa_cons (pv 1) pa_nil))) (pe_op op_fdiv (pv 1) pe_int)) pa_nil)) (by rfl))
      (pss_cons (ps_set (i := 4) sc__law_number.nd rfl (Or.inl rfl) (pe_op op_add pe_int (C8.pe_c c_law_take hr (by decide) (by rfl) (pa_cons (pv 0) (pa_cons (pe_op op_sub (pv 1) pe_int) pa_nil)))))
      (pss_cons (ps_set (i := 5) sc__law_number.nd rfl (Or.inl rfl) (C8.pe_c c_law_take hr (by decide) (by rfl) (pa_cons (pv 0) (pa_cons pe_int pa_nil))))
      (pss_one (ps_ret (C8.pe_c c_law_low hr (by decide) (by rfl) (pa_cons (pe_ix ix_list (pe_lst (pa_cons (pv 2) (pa_cons (pv 2) (pa_cons (pv 2) (pa_cons (pv 2) (pa_cons (pv 2) (pa_cons (pv 2) (pa_cons (pv 2) (pa_cons pe_int pa_nil))))))))) (pv 5) (fun _ _ => rfl)) (pa_cons (pe_ix ix_list (pe_lst (pa_cons (pv 3) (pa_cons (pv 3) (pa_cons (pv 3) (pa_cons (pv 3) (pa_cons (pv 3) (pa_cons pe_int (pa_cons pe_int (pa_cons (pv 3) pa_nil))))))))) (pv 5) (fun _ _ => rfl)) (pa_cons (pe_ix ix_list (pe_lst (pa_cons (pv 4) (pa_cons (pv 4) (pa_cons pe_int (pa_cons (pv 4) (pa_cons pe_int (pa_cons (pv 4) (pa_cons pe_int (pa_cons (pv 4) pa_nil))))))))) (pv 5) (fun _ _ => rfl)) pa_nil)))))))))), ?_⟩
    refine ⟨by show 4 ≤ sizeLine; decide, fun p np => ?_⟩
    have hp := hB.ne np
    have s0 := SB.new hB (o := .lst [V.int 4, .int 10, .int 100, .int 1000000]) np
    refine ⟨_, rfl, b, 4, rfl, s0.1, by decide, by decide, fun x1 H1 x10 x14 s1 => ?_⟩
    obtain ⟨v, e, W, rfl, W0, W1⟩ := pick (xs := [V.int 4, .int 10, .int 100, .int 1000000]) (C := fun v => ∃ W : Int, v = .int W ∧ 4 ≤ W ∧ W ≤ 1000000) (fun v hv => by
        simp only [List.mem_cons, List.not_mem_nil, or_false] at hv
        rcases hv with rfl | rfl | rfl | rfl <;> exact ⟨_, rfl, by decide, by decide⟩) x10 x14
    refine ⟨p, _, x1, _, rfl, rfl, SqL.of (s1.2 p _ hp upd_same), e, ?_⟩
    have s2 := s0.trans s1
    refine ⟨_, rfl, _, rfl, b, W, rfl, s2.1, by omega, by omega, fun a H3 a0 a1 s3 => ⟨_, rfl, _, _, rfl, rfl, ⟨by decide, by decide⟩, _, _, rfl, rfl, ?_⟩⟩
    refine ⟨_, rfl, _, rfl, b, W, rfl, s3.1, by omega, by omega, fun a' H4 a0' a1' s4 => ⟨_, rfl, _, _, rfl, rfl, ⟨by decide, by decide⟩, _, _, rfl, rfl, ?_⟩⟩
    refine ⟨_, _, rfl, _, rfl, _, rfl, _, _, rfl, rfl, b, W - 1, rfl, s4.1, by omega, by omega, fun c H5 c0 c1 s5 => ⟨_, _, rfl, rfl, ?_⟩⟩
    refine ⟨_, rfl, b, 8, rfl, s5.1, by decide, by decide, fun y H6 y0 y1 s6 => ?_⟩
    have s6' := (((s2.trans s3).trans s4).trans s5).trans s6
    have HA : (a - W / 2).natAbs ≤ 500000 := by omega
    have HB : (a' - W / 2).natAbs ≤ 500000 := by omega
    have HC : 0 < (1 + c) ∧ (1 + c).natAbs ≤ 1000000 := by omega
    refine ⟨_, rfl, _, rfl, _, rfl, _, rfl, _, rfl, _, rfl, _, rfl, by show 8 ≤ sizeLine; decide, fun p1 np1 => ?_⟩
    have s7 := SB.new s6.1 (o := .lst [V.int (a - W / 2), .int (a - W / 2), .int (a - W / 2), .int (a - W / 2), .int (a - W / 2), .int (a - W / 2), .int (a - W / 2), .int 0]) np1
    obtain ⟨_, e1, A1, rfl, hA1⟩ := pick (xs := [V.int (a - W / 2), .int (a - W / 2), .int (a - W / 2), .int (a - W / 2), .int (a - W / 2), .int (a - W / 2), .int (a - W / 2), .int 0]) (C := IntUp 500000) (fun v hv => by
        simp only [List.mem_cons, List.not_mem_nil, or_false] at hv
        rcases hv with rfl | rfl | rfl | rfl | rfl | rfl | rfl | rfl <;> exact ⟨_, rfl, by omega⟩) y0 y1
    refine ⟨_, rfl, p1, _, y, _, rfl, rfl, SqL.of upd_same, e1, ?_⟩
    refine ⟨_, rfl, _, rfl, _, rfl, _, rfl, _, rfl, _, rfl, by show 8 ≤ sizeLine; decide, fun p2 np2 => ?_⟩
    have s8 := SB.new s7.1 (o := .lst [V.int (a' - W / 2), .int (a' - W / 2), .int (a' - W / 2), .int (a' - W / 2), .int (a' - W / 2), .int 0, .int 0, .int (a' - W / 2)]) np2
    obtain ⟨_, e2, B1, rfl, hB1⟩ := pick (xs := [V.int (a' - W / 2), .int (a' - W / 2), .int (a' - W / 2), .int (a' - W / 2), .int (a' - W / 2), .int 0, .int 0, .int (a' - W / 2)]) (C := IntUp 500000) (fun v hv => by
        simp only [List.mem_cons, List.not_mem_nil, or_false] at hv
        rcases hv with rfl | rfl | rfl | rfl | rfl | rfl | rfl | rfl <;> exact ⟨_, rfl, by omega⟩) y0 y1
    refine ⟨_, rfl, p2, _, y, _, rfl, rfl, SqL.of upd_same, e2, ?_⟩
    refine ⟨_, rfl, _, rfl, _, rfl, _, rfl, _, rfl, by show 8 ≤ sizeLine; decide, fun p3 np3 => ?_⟩
    have s9 := SB.new s8.1 (o := .lst [V.int (1 + c), .int (1 + c), .int 1, .int (1 + c), .int 1, .int (1 + c), .int 1, .int (1 + c)]) np3
    obtain ⟨_, e3, C1, rfl, hC0, hC1⟩ := pick (xs := [V.int (1 + c), .int (1 + c), .int 1, .int (1 + c), .int 1, .int (1 + c), .int 1, .int (1 + c)]) (C := IntPos 1000000) (fun v hv => by
        simp only [List.mem_cons, List.not_mem_nil, or_false] at hv
        rcases hv with rfl | rfl | rfl | rfl | rfl | rfl | rfl | rfl <;> exact ⟨_, rfl, by omega, by omega⟩) y0 y1
    refine ⟨_, rfl, p3, _, y, _, rfl, rfl, SqL.of upd_same, e3, ?_⟩
    refine ⟨A1, B1, C1, rfl, .inr ⟨by omega, by omega⟩, fun H7 v sv nv => ?_⟩
    have hz : C1 ≠ 0 := by omega
    obtain ⟨l1, l2, l3, l4⟩ := Mf.low_le (a := A1) (b := B1) hz
    exact q v _ _ ((((s6'.trans s7).trans s8).trans s9).trans (SB.of s9.1 sv)) nv (Mf.low_nm hz) ⟨by omega, by omega, l4, by omega⟩
end
end MfW
namespace MfW
open PySem PySem.Spec PyProof.Rows L2
section
variable {P : Program} {w : World} {K : PySem.W.Frag} {mg : Str → Option Value} {base : Heap}
abbrev N__law_weigh : List Str := ["_law_d", "_law_weights", "_law_width", "_law_height", "_law_p", "_law_q", "_law_s", "_law_t", "_law_first", "_law_second"]
theorem sc__law_weigh : FnScope N__law_weigh ["_law_d", "_law_weights", "_law_width", "_law_height"] (defScope (top 61)) := ⟨rfl, rfl, rfl, by decide +kernel, rfl, by decide +kernel, by decide +kernel⟩

theorem ok_lweigh (D : Df K mg "_law_weigh" 61) (c_law_plus : C8.Cal P w K mg base 3 "_law_plus" (spPlus K) []) (c_law_times : C8.Cal P w K mg base 3 "_law_times" (spTimes K) []) (c_law_mate : C8.Cal P w K mg base 1 "_law_mate" (spMate K) []) : C8.Cal P w K mg base 4 "_law_weigh" (spWeighed K) [] := by
  refine mk_cal D sc__law_weigh (fun vs H Q E h => ?_) (fun _ _ _ _ _ _ us hl => match us, hl with | [_, _, _, _], _ => rfl) (fun cdv A outer s f H vs Q E hr h => ?_)
  · obtain ⟨d, vw, v1, v2, z, x, y, rfl, _⟩ := h
    rfl
  · obtain ⟨d, _, v1, v2, z, x, y, rfl, hd, ⟨p, w1, w2, w3, w4, rfl, h0, k1, k2, k3, k4⟩, ⟨⟨np, zp⟩, ⟨nq, zq⟩, ⟨ns, zs⟩, ⟨nu, zu⟩⟩, hx, hy, sx, sy, q⟩ := h
    refine ⟨_, (pss_cons (ps_asg (pv 1) (pg_tup rfl (pgs_cons (pg_name (i := 4) sc__law_weigh.nd rfl (Or.inl rfl)) (pgs_cons (pg_name (i := 5) sc__law_weigh.nd rfl (Or.inl rfl)) (pgs_cons (pg_name (i := 6) sc__law_weigh.nd rfl (Or.inl rfl)) (pgs_cons (pg_name (i := 7) sc__law_weigh.nd rfl (Or.inl rfl)) pgs_nil))))))
      (pss_cons (ps_set (i := 8) sc__law_weigh.nd rfl (Or.inl rfl) (C8.pe_c c_law_plus hr (by decide) (by rfl) (pa_cons (C8.pe_c c_law_times hr (by decide) (by rfl) (pa_cons (pv 0) (pa_cons (pv 4) (pa_cons (pv 3) pa_nil)))) (pa_cons (C8.pe_c c_law_times hr (by decide) (by rfl) (pa_cons (pv 0) (pa_cons (pv 5) (pa_cons (C8.pe_c c_law_mate hr (by decide) (by rfl) (pa_cons (pv 3) pa_nil)) pa_nil)))) pa_nil))))
      (pss_cons (ps_set (i := 9) sc__law_weigh.nd rfl (Or.inl rfl) (C8.pe_c c_law_plus hr (by decide) (by rfl) (pa_cons (C8.pe_c c_law_times hr (by decide) (by rfl) (pa_cons (pv 0) (pa_cons (pv 6) (pa_cons (pv 3) pa_nil)))) (pa_cons (C8.pe_c c_law_times hr (by decide) (by rfl) (pa_cons (pv 0) (pa_cons (pv 7) (pa_cons (C8.pe_c c_law_mate hr (by decide) (by rfl) (pa_cons (pv 3) pa_nil)) pa_nil)))) pa_nil))))
      (pss_one (ps_ret (C8.pe_c c_law_plus hr (by decide) (by rfl) (pa_cons (C8.pe_c c_law_times hr (by decide) (by rfl) (pa_cons (pv 0) (pa_cons (pv 2) (pa_cons (pv 8) pa_nil)))) (pa_cons (C8.pe_c c_law_times hr (by decide) (by rfl) (pa_cons (pv 0) (pa_cons (C8.pe_c c_law_mate hr (by decide) (by rfl) (pa_cons (pv 2) pa_nil)) (pa_cons (pv 9) pa_nil)))) pa_nil)))))))), ?_⟩
    have m2 : ∀ {n : Nat} {x : Mf.N3}, Mf.Sm n x → n ≤ 2000 → Mf.Sm 2000 x := fun h hn => sm_mono h hn
    refine ⟨_, rfl, p, _, rfl, SqT.of h0, rfl, _, _, rfl, _, _, rfl, _, _, rfl, _, _, rfl, rfl, ?_⟩
    -- first
    refine ⟨_, rfl, _, rfl, _, rfl, d, w1, v2, z.p, y, rfl, k1.nu, hy.nu, hd, m2 zp (by decide), m2 sy (by decide), fun H1 u1 s1 n1 => ?_⟩
    have l1 : TL H H1 := .of s1
    refine ⟨_, rfl, _, rfl, _, rfl, v2, y, rfl, (l1.nuH hy).nu, fun H2 u2 s2 n2 => ?_⟩
    have l2 : TL H H2 := .of (s1.trans s2)
    refine ⟨d, w2, u2, z.q, _, rfl, (l2.nuH k2).nu, n2.nu, hd, m2 zq (by decide), m2 (sm_mate sy) (by decide), fun H3 u3 s3 n3 => ?_⟩
    have t1 := times_smn hd zp sy
    have t2 := times_smn hd zq (sm_mate sy)
    refine ⟨u1, u3, _, _, rfl, (TL.nuH (.of (s2.trans s3)) n1).nu, n3.nu, m2 t1 (by decide), m2 t2 (by decide), fun H4 u4 s4 n4 => ?_⟩
    have l4 : TL H H4 := .of (s1.trans (s2.trans (s3.trans s4)))
    have p1 := plus_smn t1 t2
    -- second
    refine ⟨_, rfl, _, rfl, _, rfl, d, w3, v2, z.s, y, rfl, (l4.nuH k3).nu, (l4.nuH hy).nu, hd, m2 zs (by decide), m2 sy (by decide), fun H5 u5 s5 n5 => ?_⟩
    have l5 : TL H H5 := l4.trans (.of s5)
    refine ⟨_, rfl, _, rfl, _, rfl, v2, y, rfl, (l5.nuH hy).nu, fun H6 u6 s6 n6 => ?_⟩
    have l6 : TL H H6 := l5.trans (.of s6)
    refine ⟨d, w4, u6, z.u, _, rfl, (l6.nuH k4).nu, n6.nu, hd, m2 zu (by decide), m2 (sm_mate sy) (by decide), fun H7 u7 s7 n7 => ?_⟩
    have t3 := times_smn hd zs sy
    have t4 := times_smn hd zu (sm_mate sy)
    refine ⟨u5, u7, _, _, rfl, (TL.nuH (.of (s6.trans s7)) n5).nu, n7.nu, m2 t3 (by decide), m2 t4 (by decide), fun H8 u8 s8 n8 => ?_⟩
    have l8 : TL H H8 := l6.trans (.of (s7.trans s8))
    have p2 := plus_smn t3 t4
    have s48 := s5.trans (s6.trans (s7.trans s8))
    -- together
    refine ⟨_, rfl, _, rfl, _, rfl, d, v1, u4, x, _, rfl, (l8.nuH hx).nu, (TL.nuH (.of s48) n4).nu, hd, m2 sx (by decide), m2 p1 (by decide), fun H9 u9 s9 n9 => ?_⟩
    have l9 : TL H H9 := l8.trans (.of s9)
    refine ⟨_, rfl, _, rfl, v1, x, rfl, (l9.nuH hx).nu, fun H10 u10 s10 n10 => ?_⟩
    refine ⟨_, rfl, d, u10, u8, _, _, rfl, n10.nu, (TL.nuH (.of (s9.trans s10)) n8).nu, hd, m2 (sm_mate sx) (by decide), m2 p2 (by decide), fun H11 u11 s11 n11 => ?_⟩
    have q1 := times_smn hd sx p1
    have q2 := times_smn hd (sm_mate sx) p2
    refine ⟨u9, u11, _, _, rfl, (TL.nuH (.of (s10.trans s11)) n9).nu, n11.nu, m2 q1 (by decide), m2 q2 (by decide), fun H12 u12 s12 n12 => ?_⟩
    refine q _ _ ?_ n12
    exact s1.trans (s2.trans (s3.trans (s4.trans (s48.trans (s9.trans (s10.trans (s11.trans s12)))))))

/-! ### above nought -/
abbrev N__law_above : List Str := ["_law_bag_here", "_law_d", "_law_x", "_law_sign_here"]
theorem sc__law_above : FnScope N__law_above ["_law_bag_here", "_law_d"] (defScope (top 58)) := ⟨rfl, rfl, rfl, by decide +kernel, rfl, by decide +kernel, by decide +kernel⟩

def spLAb : Sp := fun vs H Q _ => ∃ (b : Addr) (r : Mf.Rt), vs = [.ref b, .int r.d] ∧ RtOk r ∧ Bag H b ∧ ∀ (v : V) (x : Mf.N3) H', SB b H H' → NuH H' v x → Mf.Nm x → Mf.Sm 20 x → 0 < Mf.val r x → Q v H'
theorem val_pos {r : Mf.Rt} {k : Int} (hk : 0 < k) : 0 < Mf.val r ⟨k, 0, 1⟩ := by
  refine (Mf.pos_val (by show (0 : Int) < 1; decide)).mpr (.inl ⟨?_, hk⟩)
  show r.d * (0 * 0) < k * k
  rw [Int.zero_mul, Int.mul_zero]
  exact Int.mul_pos hk hk
theorem nm_int {k : Int} (hk : 0 ≤ k) : Mf.Nm ⟨k, 0, 1⟩ := by
  obtain ⟨i, rfl⟩ : ∃ i : Nat, k = (i : Int) := ⟨k.toNat, by omega⟩
  exact Mf.nm_nat i
theorem ok_lab (D : Df K mg "_law_above" 58) (c_law_take : C8.Cal P w K mg base 1 "_law_take" spTake []) (c_law_number : C8.Cal P w K mg base 3 "_law_number" spLNum []) (c_law_sign : C8.Cal P w K mg base 1 "_law_sign" (spLSign K) []) (c_law_minus : C8.Cal P w K mg base 1 "_law_minus" (spNeg K) []) : C8.Cal P w K mg base 4 "_law_above" spLAb [] := by
  refine mk_cal D sc__law_above (fun vs H Q E h => ?_) (fun _ _ _ _ _ _ us hl => match us, hl with | [_, _], _ => rfl) (fun cdv A outer s f H vs Q E hr h => ?_)
  · obtain ⟨b, r, rfl, _⟩ := h
    rfl
  · obtain ⟨b, r, rfl, hd, hB, q⟩ := h
    refine ⟨_, (pss_cons (ps_set (i := 2) sc__law_above.nd rfl (Or.inl rfl) (C8.pe_c c_law_number hr (by decide) (by rfl) (pa_cons (pv 0) pa_nil)))
      (pss_cons (ps_set (i := 3) sc__law_above.nd rfl (Or.inl rfl) (C8.pe_c c_law_sign hr (by decide) (by rfl) (pa_cons (pv 1) (pa_cons (pv 2) pa_nil))))
      (pss_cons (ps_if (pt_cmpR op_eq (pv 3) pe_int (nomark _)) (pss_one (ps_ret (pe_tup (pa_cons (pe_op op_add pe_int (C8.pe_c c_law_take hr (by decide) (by rfl) (pa_cons (pv 0) (pa_cons pe_int pa_nil)))) (pa_cons pe_int (pa_cons pe_int pa_nil)))))) pss_nil)
      (pss_one (ps_ret (pe_ifExp (pt_cmpR op_gt (pv 3) pe_int (nomark _)) (pv 2) (C8.pe_c c_law_minus hr (by decide) (by rfl) (pa_cons (pv 2) pa_nil)))))))), ?_⟩
    refine ⟨_, rfl, b, rfl, hB, fun v x H1 s1 n1 nx sx => ?_⟩
    refine ⟨_, rfl, _, rfl, r.d, v, x, rfl, n1.nu, hd.d5, sm_mono sx (by decide), fun H2 s2 => ?_⟩
    have sb2 := s1.trans (SB.of s1.1 s2)
    have n2 : NuH H2 v x := TL.nuH (.of s2) n1
    rw [Mf.lsgn_eq nx.1]
    refine ⟨_, rfl, rfl, _, rfl, ?_⟩
    refine ifB (fun c => ?_) (fun c => ?_)
    · refine ⟨_, rfl, b, 5, rfl, sb2.1, by decide, by decide, fun y H3 y0 y1 s3 => ⟨_, _, rfl, rfl, by show 3 ≤ sizeLine; decide, fun p np => ?_⟩⟩
      have hk : 0 < 1 + y := by omega
      exact q (.ref p) ⟨1 + y, 0, 1⟩ _ (sb2.trans (s3.trans (SB.new s3.1 np))) ⟨p, rfl, upd_same⟩ (nm_int (by omega)) ⟨by show (1 + y).natAbs < 2 ^ 20; omega, by show (0 : Int).natAbs < 2 ^ 20; decide, by show (0 : Int) < 1; decide, by show (1 : Int).natAbs < 2 ^ 20; decide⟩ (val_pos hk)
    · refine ⟨_, rfl, _, _, rfl, rfl, _, rfl, ?_⟩
      have hne : ¬ Mf.sgnN r.d x = 0 := fun e => by
        rw [e] at c
        cases c
      refine ifB (fun c2 => ?_) (fun c2 => ?_)
      · have c2 := of_decide_eq_true c2
        exact ⟨_, rfl, q v x _ sb2 n2 nx sx ((Mf.sgn_pos nx.1).mp c2)⟩
      · have c3 : ¬ 0 < Mf.sgnN r.d x := fun h => by
          rw [decide_eq_true h] at c2
          cases c2
        refine ⟨_, rfl, v, x, rfl, n2.nu, fun H3 u s3 n3 => ?_⟩
        refine q u _ _ (sb2.trans (SB.of sb2.1 s3)) n3 (Mf.neg_nm nx) (sm_neg sx) ?_
        rw [Mf.neg_val nx.ne]
        exact Mf.neg_pos.mpr ((Mf.sgn_neg nx.1).mp (by omega))
/-! ### a part of one -/
abbrev N__law_between : List Str := ["_law_bag_here", "_law_d", "_law_z"]
theorem sc__law_between : FnScope N__law_between ["_law_bag_here", "_law_d"] (defScope (top 62)) := ⟨rfl, rfl, rfl, by decide +kernel, rfl, by decide +kernel, by decide +kernel⟩

def spBtw : Sp := fun vs H Q _ => ∃ (b : Addr) (r : Mf.Rt), vs = [.ref b, .int r.d] ∧ RtOk r ∧ Bag H b ∧ ∀ (v : V) (x : Mf.N3) H', SB b H H' → NuH H' v x → Mf.Btw r x → Q v H'
theorem ok_btw (D : Df K mg "_law_between" 62) (c_law_take : C8.Cal P w K mg base 1 "_law_take" spTake []) (c_law_low : C8.Cal P w K mg base 2 "_law_low" spLLow []) (c_law_sign : C8.Cal P w K mg base 1 "_law_sign" (spLSign K) []) (c_law_minus : C8.Cal P w K mg base 1 "_law_minus" (spNeg K) []) (c_law_plus : C8.Cal P w K mg base 3 "_law_plus" (spPlus K) []) (c_law_contrary : C8.Cal P w K mg base 3 "_law_contrary" (spCont K) []) : C8.Cal P w K mg base 4 "_law_between" spBtw [] := by
  refine mk_cal D sc__law_between (fun vs H Q E h => ?_) (fun _ _ _ _ _ _ us hl => match us, hl with | [_, _], _ => rfl) (fun cdv A outer s f H vs Q E hr h => ?_)
  · obtain ⟨b, r, rfl, _⟩ := h
    rfl
  · obtain ⟨b, r, rfl, hd, hB, q⟩ := h
    refine ⟨_, (pss_cons (ps_set (i := 2) sc__law_between.nd rfl (Or.inl rfl) (C8.pe_c c_law_low hr (by decide) (by rfl) (pa_cons (pe_op op_add pe_int (C8.pe_c c_law_take hr (by decide) (by rfl) (pa_cons (pv 0) (pa_cons pe_int pa_nil)))) (pa_cons (pe_ix ix_list (pe_lst (pa_cons pe_int (pa_cons (pe_op op_sub (C8.pe_c c_law_take hr (by decide) (by rfl) (pa_cons (pv 0) (pa_cons pe_int pa_nil))) pe_int) pa_nil))) (C8.pe_c c_law_take hr (by decide) (by rfl) (pa_cons (pv 0) (pa_cons pe_int pa_nil))) (fun _ _ => rfl)) (pa_cons (pe_op op_add pe_int (C8.pe_c c_law_take hr (by decide) (by rfl) (pa_cons (pv 0) (pa_cons pe_int pa_nil)))) pa_nil)))))
      (C8.pss_cut (ps_if (pt_cmpR op_lt (C8.pe_c c_law_sign hr (by decide) (by rfl) (pa_cons (pv 1) (pa_cons (pv 2) pa_nil))) pe_int (nomark _)) (pss_one (ps_set (i := 2) sc__law_between.nd rfl (Or.inl rfl) (C8.pe_c c_law_minus hr (by decide) (by rfl) (pa_cons (pv 2) pa_nil)))) pss_nil)
      (pss_one (ps_ret (C8.pe_c c_law_contrary hr (by decide) (by rfl) (pa_cons (pv 1) (pa_cons (C8.pe_c c_law_plus hr (by decide) (by rfl) (pa_cons (pe_tup (pa_cons pe_int (pa_cons pe_int (pa_cons pe_int pa_nil)))) (pa_cons (pv 2) pa_nil))) pa_nil))))))), ?_⟩
    refine ⟨_, rfl, b, 9, rfl, hB, by decide, by decide, fun x1 H1 a0 a1 s1 => ⟨_, _, rfl, rfl, ?_⟩⟩
    refine ⟨_, rfl, b, 7, rfl, s1.1, by decide, by decide, fun x2 H2 b0 b1 s2 => ⟨_, _, rfl, rfl, by show 2 ≤ sizeLine; decide, fun p np => ?_⟩⟩
    have hp := s2.1.ne np
    have s3 := SB.new s2.1 (o := .lst [V.int 0, .int (x2 - 3)]) np
    refine ⟨_, rfl, b, 2, rfl, s3.1, by decide, by decide, fun y H4 y0 y1 s4 => ?_⟩
    obtain ⟨_, e, B, rfl, hBb⟩ := pick (xs := [V.int 0, .int (x2 - 3)]) (C := IntUp 3) (fun v hv => by
        simp only [List.mem_cons, List.not_mem_nil, or_false] at hv
        rcases hv with rfl | rfl <;> exact ⟨_, rfl, by omega⟩) y0 y1
    refine ⟨p, _, y, _, rfl, rfl, SqL.of (s4.2 p _ hp upd_same), e, ?_⟩
    refine ⟨_, rfl, b, 4, rfl, s4.1, by decide, by decide, fun x5 H5 c0 c1 s5 => ⟨_, _, rfl, rfl, ?_⟩⟩
    refine ⟨1 + x1, B, 1 + x5, rfl, .inr ⟨by omega, by omega⟩, fun H6 v s6 n6 => ?_⟩
    have hc : 1 + x5 ≠ 0 := by omega
    obtain ⟨l1, l2, l3, l4⟩ := Mf.low_le (a := 1 + x1) (b := B) hc
    obtain ⟨g, g0, ea, eb, ec, hgp, _⟩ := Mf.low_eq (a := 1 + x1) (b := B) hc
    have nz := Mf.low_nm (a := 1 + x1) (b := B) hc
    have za : (Mf.low (1 + x1) B (1 + x5)).a ≠ 0 := fun z => by
      rw [z, Int.mul_zero] at ea
      omega
    generalize Mf.low (1 + x1) B (1 + x5) = z at *
    have s6' := ((((s1.trans s2).trans s3).trans s4).trans s5).trans (SB.of s5.1 s6)
    have hv0 : Mf.val r z ≠ 0 := fun h => za ((Mf.val_zero nz.ne).mp h).1
    have sz : Mf.Sm 20 z := ⟨by omega, by omega, l4, by omega⟩
    refine ⟨fun σ H7 => ∃ (v : V) (z : Mf.N3), σ = [some (.ref b), some (.int r.d), some v] ∧ SB b H H7 ∧ NuH H7 v z ∧ Mf.Nm z ∧ z.a.natAbs ≤ 9 ∧ z.b.natAbs ≤ 3 ∧ z.c ≤ 4 ∧ 0 < Mf.val r z, ?_, ?_⟩
    · refine ⟨_, rfl, _, rfl, r.d, v, z, rfl, n6.nu, hd.d5, sm_mono sz (by decide), fun H7 s7 => ?_⟩
      have n7 : NuH H7 v z := TL.nuH (.of s7) n6
      have s7' := s6'.trans (SB.of s6'.1 s7)
      rw [Mf.lsgn_eq nz.1]
      refine ⟨_, _, rfl, rfl, _, rfl, ?_⟩
      refine ifB (fun c => ?_) (fun c => ?_)
      · have c := of_decide_eq_true c
        refine ⟨_, rfl, v, z, rfl, n7.nu, fun H8 u s8 n8 => ?_⟩
        refine ⟨u, Mf.negN z, rfl, s7'.trans (SB.of s7'.1 s8), n8, Mf.neg_nm nz, ?_, ?_, ?_, ?_⟩
        · show (0 - z.a).natAbs ≤ 9
          omega
        · show (0 - z.b).natAbs ≤ 3
          omega
        · show z.c ≤ 4
          omega
        · rw [Mf.neg_val nz.ne]
          exact Mf.neg_pos.mpr ((Mf.sgn_neg nz.1).mp c)
      · have c3 : ¬ Mf.sgnN r.d z < 0 := fun h => by
          rw [decide_eq_true h] at c
          cases c
        refine ⟨v, z, rfl, s7', n7, nz, by omega, by omega, by omega, ?_⟩
        refine (Mf.sgn_pos nz.1).mp ?_
        have : Mf.sgnN r.d z ≠ 0 := fun e => hv0 ((Mf.sgn_zero nz.1).mp e)
        omega
    · rintro σ H7 ⟨v, z, rfl, s7, n7, nz, za, zb, zc, zp⟩
      obtain ⟨ny, sy, hy, hq⟩ := Mf.btw_of hd.le nz za zb zc zp
      have hz1 := nz.1
      refine ⟨_, rfl, by show 3 ≤ sizeLine; decide, fun p1 np1 => ?_⟩
      have s8 := same_new (o := .tup [V.int 1, .int 0, .int 1]) np1
      refine ⟨_, rfl, .ref p1, v, ⟨1, 0, 1⟩, z, rfl, NuH.nu ⟨p1, rfl, upd_same⟩, (TL.nuH (.of s8) n7).nu, ⟨by decide, by decide, by decide, by decide⟩, ⟨by omega, by omega, hz1, by omega⟩, fun H9 u s9 n9 => ?_⟩
      refine ⟨r.d, u, _, rfl, n9.nu, hd.d5, sy, hy, fun H10 u2 s10 n10 => ?_⟩
      exact q u2 _ _ (s7.trans (SB.of s7.1 (s8.trans (s9.trans s10)))) n10 hq
end
end MfW
namespace MfW
open PySem PySem.Spec PyProof.Rows L2
section
variable {P : Program} {w : World} {K : PySem.W.Frag} {mg : Str → Option Value} {base : Heap}
theorem Els.cons {α : Type} {R : Hp → V → α → Prop} {H : Hp} {v : V} {x : α} {vs : List V} {xs : List α} (q : R H v x) (h : Els R H vs xs) : Els R H (v :: vs) (x :: xs) := by
  refine ⟨by rw [List.length_cons, List.length_cons, h.1], fun i u e => ?_⟩
  cases i with
  | zero =>
    cases e
    exact ⟨x, rfl, q⟩
  | succ i => exact h.2 i u e
theorem Els.app {α : Type} {R : Hp → V → α → Prop} {H : Hp} {vs us : List V} {xs ys : List α} (h : Els R H vs xs) (k : Els R H us ys) : Els R H (vs ++ us) (xs ++ ys) := by
  refine ⟨by rw [List.length_append, List.length_append, h.1, k.1], fun i u e => ?_⟩
  by_cases hi : i < vs.length
  · rw [List.getElem?_append_left hi] at e
    rw [List.getElem?_append_left (by rw [← h.1]; exact hi)]
    exact h.2 i u e
  · rw [List.getElem?_append_right (by omega)] at e
    rw [List.getElem?_append_right (by rw [← h.1]; omega), ← h.1]
    exact k.2 _ u e
/-- over a range, turns that change nothing that stood -/
theorem lc_rangeM {lo : Int} {n : Nat} {g : TG} {te : TE} {vs : List Nat} {σ : L2.St} {H1 : Hp} {D : Addr} {Qd : Hp → Prop} (Y : Nat → V → Hp → Prop) (hY : ∀ i v H H', TL H H' → Y i v H → Y i v H') (hD : H1 D = none) (hn : n < sizeLine)
    (hs : ∀ (i : Nat) (H : Hp) (N : V → Hp → Prop), i < n → Same H1 H → (∀ y H4, Same H H4 → Y i y H4 → N y H4) → g (.int (lo + i)) (wipe σ vs) H fun σ2 H2 => wipe σ2 vs = wipe σ vs ∧ te σ2 H2 N)
    (hd : ∀ H, Same H1 H → Made Y D n H → Qd H) :
    ∃ W : Nat → Nat → Hp → Prop, (∃ m, W 0 m (upd H1 D (.lst []))) ∧ ∀ i m H, W i m H →
      ((Itr lo n).stop i H ∧ Qd H) ∨ ((Itr lo n).go i H ∧ ∃ Nx : Hp → Prop, (∀ H', Nx H' → ∃ m', m' < m ∧ W (i + 1) m' H') ∧ ∀ x H', (Itr lo n).yld i H x H' → g x (wipe σ vs) H' fun σ2 H2 => wipe σ2 vs = wipe σ vs ∧ tYes σ2 H2 fun b H3 =>
        if b = true then te σ2 H3 fun y H4 => ∃ acc, H4 D = some (.lst acc) ∧ acc.length < sizeLine ∧ Nx (upd H4 D (.lst (acc ++ [y]))) else Nx H3) := by
  refine lc_range (fun i H => Same H1 H ∧ Made Y D i H) ⟨same_new hD, made_nil⟩ (fun i H hlt ⟨s, acc, h1, h2, h3⟩ => ?_) fun H ⟨s, m⟩ => hd H s m
  have q := hs i H (fun y H4 => ∃ acc, H4 D = some (.lst acc) ∧ acc.length < sizeLine ∧ (Same H1 (upd H4 D (.lst (acc ++ [y]))) ∧ Made Y D (i + 1) (upd H4 D (.lst (acc ++ [y]))))) hlt s fun y H4 s4 hy =>
    ⟨acc, s4 _ _ h1, by omega, same_put s s4 hD, made_more hY h1 h2 h3 s4 hy⟩
  simpa only [tYes, if_true] using q
theorem tile_new {H : Hp} {p : Addr} {v1 v2 v3 v4 : V} {x y u z : Mf.N3} (np : H p = none) (h1 : NuH H v1 x) (h2 : NuH H v2 y) (h3 : NuH H v3 u) (h4 : NuH H v4 z) : TileAt (upd H p (.tup [v1, v2, v3, v4])) (.ref p) ⟨x, y, u, z⟩ :=
  ⟨p, v1, v2, v3, v4, rfl, upd_same, (TL.new np).nuH h1, (TL.new np).nuH h2, (TL.new np).nuH h3, (TL.new np).nuH h4⟩
theorem Odd.sb {b : Addr} {H H' : Hp} {v : V} (h : Odd H v) (s : SB b H H') (hB : Bag H b) : Odd H' v := by
  cases h with
  | non => exact .non
  | bl b => exact .bl b
  | int i => exact .int i
  | str x => exact .str x
  | @lst a xs e =>
    by_cases h : a = b
    · subst h
      obtain ⟨ys, hy⟩ := s.1.tl
      exact .lst hy
    · exact .lst (s.2 a _ h e)
  | tup e n => exact .tup (s.tl hB _ _ e) n
abbrev N__law_odd : List Str := ["_law_bag_here", "_law_some"]
theorem sc__law_odd : FnScope N__law_odd ["_law_bag_here"] (defScope (top 59)) := ⟨rfl, rfl, rfl, by decide +kernel, rfl, by decide +kernel, by decide +kernel⟩

def spOdd : Sp := fun vs H Q _ => ∃ b : Addr, vs = [.ref b] ∧ Bag H b ∧ ∀ (v : V) H', SB b H H' → Odd H' v → Q v H'
theorem ok_odd (T : Txt K mg) (D : Df K mg "_law_odd" 59) (c_law_take : C8.Cal P w K mg base 1 "_law_take" spTake []) : C8.Cal P w K mg base 2 "_law_odd" spOdd [] := by
  refine mk_cal D sc__law_odd (fun vs H Q E h => ?_) (fun _ _ _ _ _ _ us hl => match us, hl with | [_], _ => rfl) (fun cdv A outer s f H vs Q E hr h => ?_)
  · obtain ⟨b, rfl, _⟩ := h
    rfl
  · obtain ⟨b, rfl, hB, q⟩ := h
    refine ⟨_, (pss_cons (ps_set (i := 1) sc__law_odd.nd rfl (Or.inl rfl) (pe_lst (pa_cons pe_non (pa_cons pe_bl (pa_cons pe_bl (pa_cons pe_str (pa_cons pe_str (pa_cons (pe_un un_neg pe_int) (pa_cons pe_int (pa_cons pe_int (pa_cons (pe_op op_pow pe_int pe_int) (pa_cons (pe_tup pa_nil) (pa_cons (pe_lst pa_nil) (pa_cons (pe_lst (pa_cons pe_int pa_nil)) (pa_cons (pe_tup (pa_cons pe_int (pa_cons pe_int pa_nil))) (pa_cons (pe_tup (pa_cons pe_int (pa_cons pe_int (pa_cons pe_int pa_nil)))) (pa_cons (pe_tup (pa_cons pe_int (pa_cons pe_int (pa_cons pe_int pa_nil)))) (pa_cons (pe_tup (pa_cons pe_int (pa_cons pe_bl (pa_cons pe_int pa_nil)))) (pa_cons (pe_tup (pa_cons pe_int (pa_cons pe_int (pa_cons (pe_un un_neg pe_int) pa_nil)))) (pa_cons (pe_lst (pa_cons pe_int (pa_cons pe_int (pa_cons pe_int pa_nil)))) (pa_cons (pe_tup (pa_cons pe_int (pa_cons pe_int pa_nil))) (pa_cons pe_str pa_nil))))))))))))))))))))))
      (pss_one (ps_ret (pe_ix ix_list (pv 1) (C8.pe_c c_law_take hr (by decide) (by rfl) (pa_cons (pv 0) (pa_cons pe_int pa_nil))) (fun _ _ => rfl))))), ?_⟩
    refine ⟨_, rfl, _, _, rfl, rfl, ⟨by decide, by decide, by decide⟩, ?_⟩
    refine ⟨by show 0 ≤ sizeLine; decide, fun p1 np1 => ?_⟩
    have s1 := same_new (o := .tup ([] : List V)) np1
    refine ⟨by show 0 ≤ sizeLine; decide, fun p2 np2 => ?_⟩
    have s2 := same_new (o := .lst ([] : List V)) np2
    refine ⟨by show 1 ≤ sizeLine; decide, fun p3 np3 => ?_⟩
    have s3 := same_new (o := .lst ([V.int 0] : List V)) np3
    refine ⟨by show 2 ≤ sizeLine; decide, fun p4 np4 => ?_⟩
    have s4 := same_new (o := .tup ([V.int 0, .int 0] : List V)) np4
    refine ⟨by show 3 ≤ sizeLine; decide, fun p5 np5 => ?_⟩
    have s5 := same_new (o := .tup ([V.int 1, .int 0, .int 0] : List V)) np5
    refine ⟨by show 3 ≤ sizeLine; decide, fun p6 np6 => ?_⟩
    have s6 := same_new (o := .tup ([V.int 2, .int 0, .int 2] : List V)) np6
    refine ⟨by show 3 ≤ sizeLine; decide, fun p7 np7 => ?_⟩
    have s7 := same_new (o := .tup ([V.int 1, .bl true, .int 1] : List V)) np7
    refine ⟨_, rfl, by show 3 ≤ sizeLine; decide, fun p8 np8 => ?_⟩
    have s8 := same_new (o := .tup ([V.int 1, .int 1, .int (-1)] : List V)) np8
    refine ⟨by show 3 ≤ sizeLine; decide, fun p9 np9 => ?_⟩
    have s9 := same_new (o := .lst ([V.int 1, .int 0, .int 1] : List V)) np9
    refine ⟨by show 2 ≤ sizeLine; decide, fun p10 np10 => ?_⟩
    have s10 := same_new (o := .tup ([V.int 1, .int 0] : List V)) np10
    refine ⟨by show 20 ≤ sizeLine; decide, fun pL npL => ?_⟩
    have t10 := same_new (o := .lst ([V.non, .bl true, .bl false, .str "1", .str "", .int (-1), .int 0, .int 1, .int (10 ^ 59), .ref p1, .ref p2, .ref p3, .ref p4, .ref p5, .ref p6, .ref p7, .ref p8, .ref p9, .ref p10, .str "a"])) npL
    have t9 := s10.trans t10
    have t8 := s9.trans t9
    have t7 := s8.trans t8
    have t6 := s7.trans t7
    have t5 := s6.trans t6
    have t4 := s5.trans t5
    have t3 := s4.trans t4
    have t2 := s3.trans t3
    have t1 := s2.trans t2
    have sL := SB.of hB (s1.trans t1)
    refine ⟨_, rfl, _, rfl, b, 20, rfl, sL.1, by decide, by decide, fun x H1 x0 x1 s20 => ?_⟩
    have hpL : pL ≠ b := (SB.of hB (s1.trans (s2.trans (s3.trans (s4.trans (s5.trans (s6.trans (s7.trans (s8.trans (s9.trans s10)))))))))).1.ne npL
    have o1 : Odd _ (.ref p1) := Odd.same (.tup upd_same (by decide)) t1
    have o2 : Odd _ (.ref p2) := Odd.same (.lst upd_same) t2
    have o3 : Odd _ (.ref p3) := Odd.same (.lst upd_same) t3
    have o4 : Odd _ (.ref p4) := Odd.same (.tup upd_same (by decide)) t4
    have o5 : Odd _ (.ref p5) := Odd.same (.tup upd_same (by decide)) t5
    have o6 : Odd _ (.ref p6) := Odd.same (.tup upd_same (by decide)) t6
    have o7 : Odd _ (.ref p7) := Odd.same (.tup upd_same (by decide)) t7
    have o8 : Odd _ (.ref p8) := Odd.same (.tup upd_same (by decide)) t8
    have o9 : Odd _ (.ref p9) := Odd.same (.lst upd_same) t9
    have o10 : Odd _ (.ref p10) := Odd.same (.tup upd_same (by decide)) t10
    have mk : ∀ HL : Hp, Odd HL (.ref p1) → Odd HL (.ref p2) → Odd HL (.ref p3) → Odd HL (.ref p4) → Odd HL (.ref p5) → Odd HL (.ref p6) → Odd HL (.ref p7) → Odd HL (.ref p8) → Odd HL (.ref p9) → Odd HL (.ref p10) → ∀ v ∈ ([V.non, .bl true, .bl false, .str "1", .str "", .int (-1), .int 0, .int 1, .int (10 ^ 59), .ref p1, .ref p2, .ref p3, .ref p4, .ref p5, .ref p6, .ref p7, .ref p8, .ref p9, .ref p10, .str "a"] : List V), Odd HL v := by
      intro HL o1 o2 o3 o4 o5 o6 o7 o8 o9 o10 v hv
      simp only [List.mem_cons, List.not_mem_nil, or_false] at hv
      rcases hv with rfl | rfl | rfl | rfl | rfl | rfl | rfl | rfl | rfl | rfl | rfl | rfl | rfl | rfl | rfl | rfl | rfl | rfl | rfl | rfl
      · exact .non
      · exact .bl _
      · exact .bl _
      · exact .str _
      · exact .str _
      · exact .int _
      · exact .int _
      · exact .int _
      · exact .int _
      · exact o1
      · exact o2
      · exact o3
      · exact o4
      · exact o5
      · exact o6
      · exact o7
      · exact o8
      · exact o9
      · exact o10
      · exact .str _
    obtain ⟨v, e, ho⟩ := pick (mk _ o1 o2 o3 o4 o5 o6 o7 o8 o9 o10) x0 x1
    exact ⟨pL, _, x, _, rfl, rfl, SqL.of (s20.2 pL _ hpL upd_same), e, q v _ (sL.trans s20) (ho.sb s20 sL.1)⟩
end
end MfW
namespace MfW
open PySem PySem.Spec PyProof.Rows L2
section
variable {P : Program} {w : World} {K : PySem.W.Frag} {mg : Str → Option Value} {base : Heap}
theorem none_sb {b : Addr} {H H' : Hp} {p : Addr} (s : SB b H H') (h : H' p = none) : H p = none := by
  have ne := s.1.ne h
  cases e : H p with
  | none => rfl
  | some o =>
    rw [s.2 _ _ ne e] at h
    cases h
theorem btw_sm {r : Mf.Rt} {z : Mf.N3} (h : Mf.Btw r z) : Mf.Sm 10 z := by
  have h1 := h.a
  have h2 := h.b
  have h3 := h.c
  have h4 := h.nm.1
  exact ⟨by omega, by omega, h4, by omega⟩
theorem nuh_of {H : Hp} {p : Addr} {x : Mf.N3} {l : List V} (h : H p = some (.tup l)) (e : l = n3v x) : NuH H (.ref p) x := ⟨p, rfl, by rw [h, e]⟩
abbrev N__law_cut : List Str := ["_law_bag_here", "_law_d", "_law_tile", "_law_x", "_law_y", "_law_w", "_law_h", "_law_way", "_law_u", "_law_v", "_law_wide", "_law_high", "_law_found", "_law_row", "_law_up", "_law_one", "_law_w2", "_law_h2", "_law_w1", "_law_h1", "_law_right", "_law_x2", "_law_y2", "_law_x1", "_law_y1", "_law_middle"]
theorem sc__law_cut : FnScope N__law_cut ["_law_bag_here", "_law_d", "_law_tile"] (defScope (top 63)) := ⟨rfl, rfl, rfl, by decide +kernel, rfl, by decide +kernel, by decide +kernel⟩

def spCut : Sp := fun vs H Q _ => ∃ (b : Addr) (r : Mf.Rt) (v : V) (t : Mf.T4), vs = [.ref b, .int r.d, v] ∧ RtOk r ∧ Bag H b ∧ TileAt H v t ∧ t.nm ∧ 0 < t.W r ∧ 0 < t.H r ∧ SmT 401 t ∧
  ∀ (D : Addr) (us : List V) (ts : List Mf.T4) H', SB b H H' → H D = none → H' D = some (.lst us) → Els TileAt H' us ts → Mf.CutOk r t ts → Q (.ref D) H'
theorem ok_cut (T : Txt K mg) (D : Df K mg "_law_cut" 63) (c_law_take : C8.Cal P w K mg base 1 "_law_take" spTake []) (c_law_times : C8.Cal P w K mg base 3 "_law_times" (spTimes K) []) (c_law_plus : C8.Cal P w K mg base 3 "_law_plus" (spPlus K) []) (c_law_minus : C8.Cal P w K mg base 1 "_law_minus" (spNeg K) []) (c_law_between : C8.Cal P w K mg base 4 "_law_between" spBtw []) : C8.Cal P w K mg base 5 "_law_cut" spCut [] := by
  refine mk_cal D sc__law_cut (fun vs H Q E h => ?_) (fun _ _ _ _ _ _ us hl => match us, hl with | [_, _, _], _ => rfl) (fun cdv A outer s f H vs Q E hr h => ?_)
  · obtain ⟨b, r, v, t, rfl, _⟩ := h
    rfl
  · obtain ⟨b, r, _, t, rfl, hd, hB, ⟨p0, v1, v2, v3, v4, rfl, hp0, k1, k2, k3, k4⟩, hn, hw, hh, ⟨z1, z2, z3, z4⟩, q⟩ := h
    refine ⟨_, (pss_cons (ps_asg (pv 2) (pg_tup rfl (pgs_cons (pg_name (i := 3) sc__law_cut.nd rfl (Or.inr rfl)) (pgs_cons (pg_name (i := 4) sc__law_cut.nd rfl (Or.inl rfl)) (pgs_cons (pg_name (i := 5) sc__law_cut.nd rfl (Or.inl rfl)) (pgs_cons (pg_name (i := 6) sc__law_cut.nd rfl (Or.inl rfl)) pgs_nil))))))
      (C8.pss_cut (ps_set (i := 7) sc__law_cut.nd rfl (Or.inl rfl) (C8.pe_c c_law_take hr (by decide) (by rfl) (pa_cons (pv 0) (pa_cons pe_int pa_nil))))
      (C8.pss_cut (ps_if (pt_cmpR op_eq (pv 7) pe_int (nomark _)) (pss_cons (ps_par (i := 8) (j := 9) (by rfl) sc__law_cut.nd rfl rfl (by decide) rfl rfl (pa_cons (pe_op op_add pe_int (C8.pe_c c_law_take hr (by decide) (by rfl) (pa_cons (pv 0) (pa_cons pe_int pa_nil)))) (pa_cons (pe_op op_add pe_int (C8.pe_c c_law_take hr (by decide) (by rfl) (pa_cons (pv 0) (pa_cons pe_int pa_nil)))) pa_nil)) (by rfl))
      (pss_cons (ps_asg (pe_tup (pa_cons (C8.pe_c c_law_times hr (by decide) (by rfl) (pa_cons (pv 1) (pa_cons (pv 5) (pa_cons (pe_tup (pa_cons pe_int (pa_cons pe_int (pa_cons (pv 8) pa_nil)))) pa_nil)))) (pa_cons (C8.pe_c c_law_times hr (by decide) (by rfl) (pa_cons (pv 1) (pa_cons (pv 6) (pa_cons (pe_tup (pa_cons pe_int (pa_cons pe_int (pa_cons (pv 9) pa_nil)))) pa_nil)))) pa_nil))) (pg_tup rfl (pgs_cons (pg_name (i := 10) sc__law_cut.nd rfl (Or.inr rfl)) (pgs_cons (pg_name (i := 11) sc__law_cut.nd rfl (Or.inr rfl)) pgs_nil))))
      (pss_cons (ps_set (i := 12) sc__law_cut.nd rfl (Or.inl rfl) (pe_lst pa_nil))
      (pss_cons (ps_for PassesOwn.never rfl (pi_range1 (by rfl) T.range (pa_cons (pv 9) pa_nil)) (pg_name (i := 13) sc__law_cut.nd rfl (Or.inl rfl))
      (pss_cons (ps_set (i := 14) sc__law_cut.nd rfl (Or.inr rfl) (C8.pe_c c_law_plus hr (by decide) (by rfl) (pa_cons (pv 4) (pa_cons (C8.pe_c c_law_times hr (by decide) (by rfl) (pa_cons (pv 1) (pa_cons (pv 11) (pa_cons (pe_tup (pa_cons (pv 13) (pa_cons pe_int (pa_cons pe_int pa_nil)))) pa_nil)))) pa_nil))))
      (pss_one (ps_expr (pe_bm PySem.F.plainAttrs_list PySem.F.slot_list_extend PySem.F.type_list_extend mt_extend (pv 12) (pa_cons (pe_lc (own := [("_law_one", 15)]) rfl sc__law_cut.nd (pi_range1 (by rfl) T.range (pa_cons (pv 8) pa_nil)) (blkOk_by (own := [("_law_one", 15)]) (N := N__law_cut) (sc := defScope (top 63)) (by decide +kernel)) (fun _ _ _ _ _ => (pg_name (i := 15) sc__law_cut.nd rfl (Or.inl rfl))) (fun _ _ _ _ _ => pts_nil) (fun _ _ _ _ _ => (pe_tup (pa_cons (C8.pe_c c_law_plus hr (by decide) (by rfl) (pa_cons (pv 3) (pa_cons (C8.pe_c c_law_times hr (by decide) (by rfl) (pa_cons (pv 1) (pa_cons (pv 10) (pa_cons (pe_tup (pa_cons (pv 15) (pa_cons pe_int (pa_cons pe_int pa_nil)))) pa_nil)))) pa_nil))) (pa_cons (pv 14) (pa_cons (pv 10) (pa_cons (pv 11) pa_nil))))))) pa_nil))))))
      (pss_one (ps_ret (pv 12))))))) pss_nil)
      (C8.pss_cut (ps_par (i := 16) (j := 17) (by rfl) sc__law_cut.nd rfl rfl (by decide) rfl rfl (pa_cons (C8.pe_c c_law_times hr (by decide) (by rfl) (pa_cons (pv 1) (pa_cons (pv 5) (pa_cons (C8.pe_c c_law_between hr (by decide) (by rfl) (pa_cons (pv 0) (pa_cons (pv 1) pa_nil))) pa_nil)))) (pa_cons (C8.pe_c c_law_times hr (by decide) (by rfl) (pa_cons (pv 1) (pa_cons (pv 6) (pa_cons (C8.pe_c c_law_between hr (by decide) (by rfl) (pa_cons (pv 0) (pa_cons (pv 1) pa_nil))) pa_nil)))) pa_nil)) (by rfl))
      (C8.pss_cut (ps_par (i := 18) (j := 19) (by rfl) sc__law_cut.nd rfl rfl (by decide) rfl rfl (pa_cons (C8.pe_c c_law_times hr (by decide) (by rfl) (pa_cons (pv 1) (pa_cons (pv 16) (pa_cons (C8.pe_c c_law_between hr (by decide) (by rfl) (pa_cons (pv 0) (pa_cons (pv 1) pa_nil))) pa_nil)))) (pa_cons (C8.pe_c c_law_times hr (by decide) (by rfl) (pa_cons (pv 1) (pa_cons (pv 17) (pa_cons (C8.pe_c c_law_between hr (by decide) (by rfl) (pa_cons (pv 0) (pa_cons (pv 1) pa_nil))) pa_nil)))) pa_nil)) (by rfl))
      (C8.pss_cut (ps_asg (pe_tup (pa_cons (C8.pe_c c_law_plus hr (by decide) (by rfl) (pa_cons (pv 5) (pa_cons (C8.pe_c c_law_minus hr (by decide) (by rfl) (pa_cons (pv 16) pa_nil)) pa_nil))) (pa_cons (C8.pe_c c_law_plus hr (by decide) (by rfl) (pa_cons (pv 6) (pa_cons (C8.pe_c c_law_minus hr (by decide) (by rfl) (pa_cons (pv 17) pa_nil)) pa_nil))) pa_nil))) (pg_tup rfl (pgs_cons (pg_name (i := 20) sc__law_cut.nd rfl (Or.inl rfl)) (pgs_cons (pg_name (i := 14) sc__law_cut.nd rfl (Or.inr rfl)) pgs_nil))))
      (C8.pss_cut (ps_par (i := 21) (j := 22) (by rfl) sc__law_cut.nd rfl rfl (by decide) rfl rfl (pa_cons (C8.pe_c c_law_plus hr (by decide) (by rfl) (pa_cons (pv 3) (pa_cons (pv 16) pa_nil))) (pa_cons (C8.pe_c c_law_plus hr (by decide) (by rfl) (pa_cons (pv 4) (pa_cons (pv 17) pa_nil))) pa_nil)) (by rfl))
      (C8.pss_cut (ps_if (pt_cmpR op_eq (pv 7) pe_int (nomark _)) (pss_one (ps_ret (pe_lst (pa_cons (pe_tup (pa_cons (pv 3) (pa_cons (pv 4) (pa_cons (pv 16) (pa_cons (pv 6) pa_nil))))) (pa_cons (pe_tup (pa_cons (pv 21) (pa_cons (pv 4) (pa_cons (pv 20) (pa_cons (pv 6) pa_nil))))) pa_nil))))) pss_nil)
      (C8.pss_cut (ps_if (pt_cmpR op_eq (pv 7) pe_int (nomark _)) (pss_one (ps_ret (pe_lst (pa_cons (pe_tup (pa_cons (pv 3) (pa_cons (pv 4) (pa_cons (pv 5) (pa_cons (pv 17) pa_nil))))) (pa_cons (pe_tup (pa_cons (pv 3) (pa_cons (pv 22) (pa_cons (pv 5) (pa_cons (pv 14) pa_nil))))) pa_nil))))) pss_nil)
      (C8.pss_cut (ps_if (pt_cmpR op_eq (pv 7) pe_int (nomark _)) (pss_one (ps_ret (pe_lst (pa_cons (pe_tup (pa_cons (pv 3) (pa_cons (pv 4) (pa_cons (pv 16) (pa_cons (pv 17) pa_nil))))) (pa_cons (pe_tup (pa_cons (pv 21) (pa_cons (pv 4) (pa_cons (pv 20) (pa_cons (pv 17) pa_nil))))) (pa_cons (pe_tup (pa_cons (pv 3) (pa_cons (pv 22) (pa_cons (pv 16) (pa_cons (pv 14) pa_nil))))) (pa_cons (pe_tup (pa_cons (pv 21) (pa_cons (pv 22) (pa_cons (pv 20) (pa_cons (pv 14) pa_nil))))) pa_nil))))))) pss_nil)
      (C8.pss_cut (ps_par (i := 23) (j := 24) (by rfl) sc__law_cut.nd rfl rfl (by decide) rfl rfl (pa_cons (C8.pe_c c_law_plus hr (by decide) (by rfl) (pa_cons (pv 3) (pa_cons (pv 18) pa_nil))) (pa_cons (C8.pe_c c_law_plus hr (by decide) (by rfl) (pa_cons (pv 4) (pa_cons (pv 19) pa_nil))) pa_nil)) (by rfl))
      (C8.pss_cut (ps_set (i := 25) sc__law_cut.nd rfl (Or.inl rfl) (pe_tup (pa_cons (pv 23) (pa_cons (pv 24) (pa_cons (C8.pe_c c_law_plus hr (by decide) (by rfl) (pa_cons (pv 16) (pa_cons (C8.pe_c c_law_minus hr (by decide) (by rfl) (pa_cons (pv 18) pa_nil)) pa_nil))) (pa_cons (C8.pe_c c_law_plus hr (by decide) (by rfl) (pa_cons (pv 17) (pa_cons (C8.pe_c c_law_minus hr (by decide) (by rfl) (pa_cons (pv 19) pa_nil)) pa_nil))) pa_nil))))))
      (pss_one (ps_ret (pe_lst (pa_cons (pe_tup (pa_cons (pv 3) (pa_cons (pv 4) (pa_cons (pv 16) (pa_cons (pv 19) pa_nil))))) (pa_cons (pe_tup (pa_cons (pv 21) (pa_cons (pv 4) (pa_cons (pv 20) (pa_cons (pv 17) pa_nil))))) (pa_cons (pe_tup (pa_cons (pv 23) (pa_cons (pv 22) (pa_cons (C8.pe_c c_law_plus hr (by decide) (by rfl) (pa_cons (pv 5) (pa_cons (C8.pe_c c_law_minus hr (by decide) (by rfl) (pa_cons (pv 18) pa_nil)) pa_nil))) (pa_cons (pv 14) pa_nil))))) (pa_cons (pe_tup (pa_cons (pv 3) (pa_cons (pv 24) (pa_cons (pv 18) (pa_cons (C8.pe_c c_law_plus hr (by decide) (by rfl) (pa_cons (pv 6) (pa_cons (C8.pe_c c_law_minus hr (by decide) (by rfl) (pa_cons (pv 19) pa_nil)) pa_nil))) pa_nil))))) (pa_cons (pv 25) pa_nil)))))))))))))))))))), ?_⟩
    have up : ∀ {n : Nat} {x : Mf.N3}, Mf.Sm n x → n ≤ 2000 → Mf.Sm 2000 x := fun h hn => sm_mono h hn
    have d5 := hd.d5
    refine ⟨_, rfl, p0, _, rfl, SqT.of hp0, rfl, _, _, rfl, _, _, rfl, _, _, rfl, _, _, rfl, rfl, ?_⟩
    refine ⟨(fun σ H1 => ∃ way : Int, σ = [some (.ref b), some (.int r.d), some (.ref p0), some v1, some v2, some v3, some v4, some (.int way), none, none, none, none, none, none, none, none, none, none, none, none, none, none, none, none, none, none] ∧ SB b H H1), ?_, ?_⟩
    · refine ⟨_, rfl, b, 5, rfl, hB, by decide, by decide, fun way H1 w0 w5 s1 => ⟨way, rfl, s1⟩⟩
    rintro σ H1 ⟨way, rfl, s1⟩
    refine ⟨(fun σ H1 => σ = [some (.ref b), some (.int r.d), some (.ref p0), some v1, some v2, some v3, some v4, some (.int way), none, none, none, none, none, none, none, none, none, none, none, none, none, none, none, none, none, none] ∧ SB b H H1), ?_, ?_⟩
    · refine ⟨_, rfl, rfl, _, rfl, ?_⟩
      refine ifB (fun c => ?_) (fun c => ⟨rfl, s1⟩)
      refine ⟨_, rfl, b, 3, rfl, s1.1, by decide, by decide, fun xu H2 u0 u3 s2 => ⟨_, _, rfl, rfl, ?_⟩⟩
      refine ⟨_, rfl, b, 3, rfl, s2.1, by decide, by decide, fun xv H3 v0 v3' s3 => ⟨_, _, rfl, rfl, _, _, rfl, ?_⟩⟩
      have sb := (s1.trans s2).trans s3
      obtain ⟨u, eu⟩ : ∃ u : Nat, 1 + xu = (u : Int) := ⟨(1 + xu).toNat, by omega⟩
      obtain ⟨v, ev⟩ : ∃ v : Nat, 1 + xv = (v : Int) := ⟨(1 + xv).toNat, by omega⟩
      have smu : ∀ {k : Nat}, 1 ≤ k → k ≤ 3 → Mf.Sm 2 ⟨1, 0, (k : Int)⟩ := fun {k} h1 h2 => ⟨by show (1 : Int).natAbs < 2 ^ 2; decide, by show (0 : Int).natAbs < 2 ^ 2; decide, by show (0 : Int) < (k : Int); omega, by show ((k : Nat) : Int).natAbs < 2 ^ 2; omega⟩
      have smi : ∀ {k : Nat}, k ≤ 3 → Mf.Sm 2 ⟨(k : Int), 0, 1⟩ := fun {k} h2 => ⟨by show ((k : Nat) : Int).natAbs < 2 ^ 2; omega, by show (0 : Int).natAbs < 2 ^ 2; decide, by show (0 : Int) < 1; decide, by show (1 : Int).natAbs < 2 ^ 2; decide⟩
      -- the sides
      refine ⟨_, rfl, _, rfl, _, rfl, by show 3 ≤ sizeLine; decide, fun p1 np1 => ?_⟩
      have s4 := same_new (o := .tup [V.int 1, .int 0, .int (1 + xu)]) np1
      refine ⟨r.d, v3, .ref p1, t.w, ⟨1, 0, (u : Int)⟩, rfl, (TL.nuH (TL.trans (s1.tl hB) (TL.trans (s2.tl s1.1) (TL.trans (s3.tl s2.1) (TL.of s4)))) k3).nu, (nuh_of upd_same (by show [V.int 1, .int 0, .int (1 + xu)] = _; rw [eu]; rfl)).nu, d5, up z3 (by decide), up (smu (by omega) (by omega)) (by decide), fun H5 wv s5 kw => ?_⟩
      refine ⟨_, rfl, _, rfl, _, rfl, by show 3 ≤ sizeLine; decide, fun p2 np2 => ?_⟩
      have s6 := same_new (o := .tup [V.int 1, .int 0, .int (1 + xv)]) np2
      refine ⟨r.d, v4, .ref p2, t.h, ⟨1, 0, (v : Int)⟩, rfl, (TL.nuH (TL.trans (s1.tl hB) (TL.trans (s2.tl s1.1) (TL.trans (s3.tl s2.1) (TL.trans (TL.of s4) (TL.trans (TL.of s5) (TL.of s6)))))) k4).nu, (nuh_of upd_same (by show [V.int 1, .int 0, .int (1 + xv)] = _; rw [ev]; rfl)).nu, d5, up z4 (by decide), up (smu (by omega) (by omega)) (by decide), fun H7 hv s7 kh => ?_⟩
      have sW := times_smn d5 z3 (smu (k := u) (by omega) (by omega))
      have sH := times_smn d5 z4 (smu (k := v) (by omega) (by omega))
      refine ⟨by show 2 ≤ sizeLine; decide, fun p3 np3 => ?_⟩
      have s8 := same_new (o := .tup [wv, hv]) np3
      refine ⟨p3, _, rfl, SqT.of upd_same, rfl, _, _, rfl, _, _, rfl, rfl, ?_⟩
      refine ⟨by show 0 ≤ sizeLine; decide, fun F nF => ?_⟩
      have sbF := sb.trans (SB.of sb.1 (s4.trans (s5.trans (s6.trans (s7.trans s8)))))
      have q1 : NuH _ v1 t.x := (TL.nuH (TL.trans (s1.tl hB) (TL.trans (s2.tl s1.1) (TL.trans (s3.tl s2.1) (TL.trans (TL.of s4) (TL.trans (TL.of s5) (TL.trans (TL.of s6) (TL.trans (TL.of s7) (TL.of s8)))))))) k1)
      have q2 : NuH _ v2 t.y := (TL.nuH (TL.trans (s1.tl hB) (TL.trans (s2.tl s1.1) (TL.trans (s3.tl s2.1) (TL.trans (TL.of s4) (TL.trans (TL.of s5) (TL.trans (TL.of s6) (TL.trans (TL.of s7) (TL.of s8)))))))) k2)
      have kw := (TL.nuH (TL.trans (TL.of s6) (TL.trans (TL.of s7) (TL.of s8))) kw)
      have kh := (TL.nuH (TL.of s8) kh)
      generalize upd H7 p3 (.tup [wv, hv]) = H8 at *
      generalize hWn : Mf.timesN r.d t.w ⟨1, 0, (u : Int)⟩ = wn at *
      generalize hHn : Mf.timesN r.d t.h ⟨1, 0, (v : Int)⟩ = hn' at *
      refine ⟨_, rfl, _, rfl, by show -(2 ^ 62) ≤ 1 + xv; omega, by show 1 + xv < 2 ^ 62; omega, ?_⟩
      have ej : (1 + xv).toNat = v := by omega
      refine for_range (lo := 0) (n := (1 + xv).toNat) (fun i σ H' => ∃ us o13 o14, σ = [some (.ref b), some (.int r.d), some (.ref p0), some v1, some v2, some v3, some v4, some (.int way), some (.int (1 + xu)), some (.int (1 + xv)), some wv, some hv, some (.ref F), o13, o14, none, none, none, none, none, none, none, none, none, none, none] ∧ H' F = some (.lst us) ∧ us.length ≤ 3 * i ∧ Els TileAt H' us ((List.range i).flatMap fun (row : Nat) => (List.range u).map fun (one : Nat) => (⟨Mf.plusN t.x (Mf.timesN r.d wn ⟨(one : Int), 0, 1⟩), Mf.plusN t.y (Mf.timesN r.d hn' ⟨(row : Int), 0, 1⟩), wn, hn'⟩ : Mf.T4)) ∧ Same H8 H')
        ⟨[], none, none, rfl, upd_same, by decide, Els.nil, same_new nF⟩ ?_ ?_
      · rintro row σ H9 hrow ⟨us, o13, o14, rfl, hF, hlen, hE, s9⟩
        refine ⟨_, rfl, _, rfl, _, rfl, _, rfl, by show 3 ≤ sizeLine; decide, fun p4 np4 => ?_⟩
        have s10 := same_new (o := .tup [V.int (0 + (row : Int)), .int 0, .int 1]) np4
        refine ⟨r.d, hv, .ref p4, hn', ⟨(row : Int), 0, 1⟩, rfl, (TL.nuH (TL.trans (TL.of s9) (TL.of s10)) kh).nu, (nuh_of upd_same (by show [V.int (0 + (row : Int)), .int 0, .int 1] = _; rw [Int.zero_add]; rfl)).nu, d5, up sH (by decide), up (smi (by omega)) (by decide), fun H11 y1 s11 ky1 => ?_⟩
        have sy1 := times_smn d5 sH (smi (k := row) (by omega))
        refine ⟨v2, y1, _, _, rfl, (TL.nuH (TL.trans (TL.of s9) (TL.trans (TL.of s10) (TL.of s11))) q2).nu, ky1.nu, up z2 (by decide), up sy1 (by decide), fun H12 y2 s12 ky2 => ?_⟩
        have s912 := s10.trans (s11.trans s12)
        refine ⟨_, rfl, .inl ⟨rfl, _, SqL.of (s912 _ _ hF)⟩, _, rfl, _, rfl, by show -(2 ^ 62) ≤ 1 + xu; omega, by show 1 + xu < 2 ^ 62; omega, fun D hD => ?_⟩
        have eu2 : (1 + xu).toNat = u := by omega
        refine lc_rangeM (n := (1 + xu).toNat) (fun i v H => ∃ x, ((List.range u).map fun (one : Nat) => (⟨Mf.plusN t.x (Mf.timesN r.d wn ⟨(one : Int), 0, 1⟩), Mf.plusN t.y (Mf.timesN r.d hn' ⟨(row : Int), 0, 1⟩), wn, hn'⟩ : Mf.T4))[i]? = some x ∧ TileAt H v x) (fun i v H H' l ⟨x, e, h⟩ => ⟨x, e, l.tile h⟩) hD (by have := sizeLine_eq; omega) (fun one H13 N hone s13 k => ?_) (fun H13 s13 m13 => ?_)
        · refine ⟨rfl, _, rfl, _, rfl, _, rfl, _, rfl, by show 3 ≤ sizeLine; decide, fun p5 np5 => ?_⟩
          have s14 := same_new (o := .tup [V.int (0 + (one : Int)), .int 0, .int 1]) np5
          refine ⟨r.d, wv, .ref p5, wn, ⟨(one : Int), 0, 1⟩, rfl, (TL.nuH (TL.trans (TL.of s9) (TL.trans (TL.of s10) (TL.trans (TL.of s11) (TL.trans (TL.of s12) (TL.trans (TL.of s13) (TL.of s14)))))) kw).nu, (nuh_of upd_same (by show [V.int (0 + (one : Int)), .int 0, .int 1] = _; rw [Int.zero_add]; rfl)).nu, d5, up sW (by decide), up (smi (by omega)) (by decide), fun H15 x1 s15 kx1 => ?_⟩
          have sx1 := times_smn d5 sW (smi (k := one) (by omega))
          refine ⟨v1, x1, _, _, rfl, (TL.nuH (TL.trans (TL.of s9) (TL.trans (TL.of s10) (TL.trans (TL.of s11) (TL.trans (TL.of s12) (TL.trans (TL.of s13) (TL.trans (TL.of s14) (TL.of s15))))))) q1).nu, kx1.nu, up z1 (by decide), up sx1 (by decide), fun H16 x2 s16 kx2 => ?_⟩
          refine ⟨_, rfl, _, rfl, _, rfl, by show 4 ≤ sizeLine; decide, fun p6 np6 => ?_⟩
          refine k _ _ (s14.trans (s15.trans (s16.trans (same_new np6)))) ⟨_, ?_, tile_new np6 kx2 (TL.nuH (TL.trans (TL.of s13) (TL.trans (TL.of s14) (TL.trans (TL.of s15) (TL.of s16)))) ky2) (TL.nuH (TL.trans (TL.of s9) (TL.trans (TL.of s10) (TL.trans (TL.of s11) (TL.trans (TL.of s12) (TL.trans (TL.of s13) (TL.trans (TL.of s14) (TL.trans (TL.of s15) (TL.of s16)))))))) kw) (TL.nuH (TL.trans (TL.of s9) (TL.trans (TL.of s10) (TL.trans (TL.of s11) (TL.trans (TL.of s12) (TL.trans (TL.of s13) (TL.trans (TL.of s14) (TL.trans (TL.of s15) (TL.of s16)))))))) kh)⟩
          rw [List.getElem?_map, List.getElem?_range (by omega)]
          rfl
        · obtain ⟨acc, hacc, hEa⟩ := Made.els m13 (by rw [List.length_map, List.length_range]; exact eu2)
          have e13 := s13 _ _ (s912 _ _ hF)
          have la : acc.length = u := by rw [hEa.1, List.length_map, List.length_range]
          have l9 : TL H9 H13 := TL.of (s912.trans s13)
          refine ⟨F, D, us, acc, rfl, rfl, e13, hacc, by have := sizeLine_eq; omega, ?_⟩
          have lp : TL H13 (upd H13 F (.lst (us ++ acc))) := TL.put e13
          refine ⟨us ++ acc, _, _, rfl, upd_same, by rw [List.length_append]; omega, ?_, same_put (s9.trans s912) s13 nF⟩
          rw [List.range_succ, List.flatMap_append, List.flatMap_singleton]
          exact (hE.mono fun v x h => lp.tile (l9.tile h)).app (hEa.mono fun v x h => lp.tile h)
      · rintro σ H9 ⟨us, o13, o14, rfl, hF, hlen, hE, s9⟩
        refine ⟨_, rfl, ?_⟩
        rw [ej, ← hWn, ← hHn] at hE
        exact q F us _ H9 (sbF.trans (SB.of sbF.1 s9)) (none_sb sbF nF) hF hE (Mf.cut3_ok hd.le hn hw hh (by omega) (by omega) (by omega) (by omega))
    rintro σ H1 ⟨rfl, sb⟩
    refine ⟨(fun σ H1 => ∃ (w2 h2 : V) (za zb : Mf.N3), σ = [some (.ref b), some (.int r.d), some (.ref p0), some v1, some v2, some v3, some v4, some (.int way), none, none, none, none, none, none, none, none, some w2, some h2, none, none, none, none, none, none, none, none] ∧ SB b H H1 ∧ Mf.Btw r za ∧ Mf.Btw r zb ∧ NuH H1 w2 (Mf.timesN r.d t.w za) ∧ NuH H1 h2 (Mf.timesN r.d t.h zb)), ?_, ?_⟩
    · skip
      refine ⟨_, rfl, _, rfl, _, rfl, _, rfl, b, r, rfl, hd, sb.1, fun zav za G2 za_s za_k za_b => ?_⟩
      have sbG2 := sb.trans za_s
      refine ⟨r.d, v3, zav, t.w, za, rfl, (TL.nuH (TL.trans (sb.tl hB) (za_s.tl sb.1)) k3).nu, za_k.nu, d5, up z3 (by decide), up (btw_sm za_b) (by decide), fun G3 w2 w2_s kw2 => ?_⟩
      have sbG3 := sbG2.trans (SB.of sbG2.1 w2_s)
      refine ⟨_, rfl, _, rfl, _, rfl, _, rfl, b, r, rfl, hd, sbG3.1, fun zbv zb G4 zb_s zb_k zb_b => ?_⟩
      have sbG4 := sbG3.trans zb_s
      refine ⟨r.d, v4, zbv, t.h, zb, rfl, (TL.nuH (TL.trans (sb.tl hB) (TL.trans (za_s.tl sb.1) (TL.trans (TL.of w2_s) (zb_s.tl sbG3.1)))) k4).nu, zb_k.nu, d5, up z4 (by decide), up (btw_sm zb_b) (by decide), fun G5 h2 h2_s kh2 => ?_⟩
      have sbG5 := sbG4.trans (SB.of sbG4.1 h2_s)
      exact ⟨_, _, rfl, w2, h2, za, zb, rfl, sbG5, za_b, zb_b, (TL.nuH (TL.trans (zb_s.tl sbG3.1) (TL.of h2_s)) kw2), kh2⟩
    rintro σ H1 ⟨w2, h2, za, zb, rfl, sb, za_b, zb_b, kw2, kh2⟩
    have Sw2 := times_smn d5 z3 (btw_sm za_b)
    have Sh2 := times_smn d5 z4 (btw_sm zb_b)
    refine ⟨(fun σ H1 => ∃ (w1 h1 : V) (zc zd : Mf.N3), σ = [some (.ref b), some (.int r.d), some (.ref p0), some v1, some v2, some v3, some v4, some (.int way), none, none, none, none, none, none, none, none, some w2, some h2, some w1, some h1, none, none, none, none, none, none] ∧ SB b H H1 ∧ Mf.Btw r zc ∧ Mf.Btw r zd ∧ NuH H1 w2 (Mf.timesN r.d t.w za) ∧ NuH H1 h2 (Mf.timesN r.d t.h zb) ∧ NuH H1 w1 (Mf.timesN r.d (Mf.timesN r.d t.w za) zc) ∧ NuH H1 h1 (Mf.timesN r.d (Mf.timesN r.d t.h zb) zd)), ?_, ?_⟩
    · skip
      refine ⟨_, rfl, _, rfl, _, rfl, _, rfl, b, r, rfl, hd, sb.1, fun zcv zc G6 zc_s zc_k zc_b => ?_⟩
      have sbG6 := sb.trans zc_s
      refine ⟨r.d, w2, zcv, _, zc, rfl, (TL.nuH (zc_s.tl sb.1) kw2).nu, zc_k.nu, d5, up Sw2 (by decide), up (btw_sm zc_b) (by decide), fun G7 w1 w1_s kw1 => ?_⟩
      have sbG7 := sbG6.trans (SB.of sbG6.1 w1_s)
      refine ⟨_, rfl, _, rfl, _, rfl, _, rfl, b, r, rfl, hd, sbG7.1, fun zdv zd G8 zd_s zd_k zd_b => ?_⟩
      have sbG8 := sbG7.trans zd_s
      refine ⟨r.d, h2, zdv, _, zd, rfl, (TL.nuH (TL.trans (zc_s.tl sb.1) (TL.trans (TL.of w1_s) (zd_s.tl sbG7.1))) kh2).nu, zd_k.nu, d5, up Sh2 (by decide), up (btw_sm zd_b) (by decide), fun G9 h1 h1_s kh1 => ?_⟩
      have sbG9 := sbG8.trans (SB.of sbG8.1 h1_s)
      exact ⟨_, _, rfl, w1, h1, zc, zd, rfl, sbG9, zc_b, zd_b, (TL.nuH (TL.trans (zc_s.tl sb.1) (TL.trans (TL.of w1_s) (TL.trans (zd_s.tl sbG7.1) (TL.of h1_s)))) kw2), (TL.nuH (TL.trans (zc_s.tl sb.1) (TL.trans (TL.of w1_s) (TL.trans (zd_s.tl sbG7.1) (TL.of h1_s)))) kh2), (TL.nuH (TL.trans (zd_s.tl sbG7.1) (TL.of h1_s)) kw1), kh1⟩
    rintro σ H1 ⟨w1, h1, zc, zd, rfl, sb, zc_b, zd_b, kw2, kh2, kw1, kh1⟩
    have Sw1 := times_smn d5 Sw2 (btw_sm zc_b)
    have Sh1 := times_smn d5 Sh2 (btw_sm zd_b)
    have PW := Mf.part_of hd.le hn.2.2.1 hw za_b zc_b
    have PH := Mf.part_of hd.le hn.2.2.2 hh zb_b zd_b
    generalize Mf.timesN r.d (Mf.timesN r.d t.w za) zc = w1n at *
    generalize Mf.timesN r.d (Mf.timesN r.d t.h zb) zd = h1n at *
    generalize Mf.timesN r.d t.w za = w2n at *
    generalize Mf.timesN r.d t.h zb = h2n at *
    refine ⟨(fun σ H1 => ∃ rt uu : V, σ = [some (.ref b), some (.int r.d), some (.ref p0), some v1, some v2, some v3, some v4, some (.int way), none, none, none, none, none, none, some uu, none, some w2, some h2, some w1, some h1, some rt, none, none, none, none, none] ∧ SB b H H1 ∧ NuH H1 w2 w2n ∧ NuH H1 h2 h2n ∧ NuH H1 w1 w1n ∧ NuH H1 h1 h1n ∧ NuH H1 rt (Mf.subN t.w w2n) ∧ NuH H1 uu (Mf.subN t.h h2n)), ?_, ?_⟩
    · skip
      refine ⟨_, rfl, ?_⟩
      refine ⟨_, rfl, w2, _, rfl, kw2.nu, fun G10 mrt mrt_s kmrt => ?_⟩
      have sbG10 := sb.trans (SB.of sb.1 mrt_s)
      refine ⟨v3, mrt, _, _, rfl, (TL.nuH (TL.trans (sb.tl hB) (TL.of mrt_s)) k3).nu, kmrt.nu, up z3 (by decide), up (sm_neg Sw2) (by decide), fun G11 rt rt_s krt => ?_⟩
      have sbG11 := sbG10.trans (SB.of sbG10.1 rt_s)
      refine ⟨_, rfl, ?_⟩
      refine ⟨_, rfl, h2, _, rfl, (TL.nuH (TL.trans (TL.of mrt_s) (TL.of rt_s)) kh2).nu, fun G12 muu muu_s kmuu => ?_⟩
      have sbG12 := sbG11.trans (SB.of sbG11.1 muu_s)
      refine ⟨v4, muu, _, _, rfl, (TL.nuH (TL.trans (sb.tl hB) (TL.trans (TL.of mrt_s) (TL.trans (TL.of rt_s) (TL.of muu_s)))) k4).nu, kmuu.nu, up z4 (by decide), up (sm_neg Sh2) (by decide), fun G13 uu uu_s kuu => ?_⟩
      have sbG13 := sbG12.trans (SB.of sbG12.1 uu_s)
      refine ⟨by show 2 ≤ sizeLine; decide, fun pp npp => ?_⟩
      have pp_s := same_new (o := .tup [rt, uu]) npp
      have sbpp := sbG13.trans (SB.of sbG13.1 pp_s)
      refine ⟨pp, _, rfl, SqT.of upd_same, rfl, _, _, rfl, _, _, rfl, rfl, ?_⟩
      exact ⟨rt, uu, rfl, sbpp, (TL.nuH (TL.trans (TL.of mrt_s) (TL.trans (TL.of rt_s) (TL.trans (TL.of muu_s) (TL.trans (TL.of uu_s) (TL.of pp_s))))) kw2), (TL.nuH (TL.trans (TL.of mrt_s) (TL.trans (TL.of rt_s) (TL.trans (TL.of muu_s) (TL.trans (TL.of uu_s) (TL.of pp_s))))) kh2), (TL.nuH (TL.trans (TL.of mrt_s) (TL.trans (TL.of rt_s) (TL.trans (TL.of muu_s) (TL.trans (TL.of uu_s) (TL.of pp_s))))) kw1), (TL.nuH (TL.trans (TL.of mrt_s) (TL.trans (TL.of rt_s) (TL.trans (TL.of muu_s) (TL.trans (TL.of uu_s) (TL.of pp_s))))) kh1), (TL.nuH (TL.trans (TL.of muu_s) (TL.trans (TL.of uu_s) (TL.of pp_s))) krt), (TL.nuH (TL.of pp_s) kuu)⟩
    rintro σ H1 ⟨rt, uu, rfl, sb, kw2, kh2, kw1, kh1, krt, kuu⟩
    refine ⟨(fun σ H1 => ∃ x2 y2 : V, σ = [some (.ref b), some (.int r.d), some (.ref p0), some v1, some v2, some v3, some v4, some (.int way), none, none, none, none, none, none, some uu, none, some w2, some h2, some w1, some h1, some rt, some x2, some y2, none, none, none] ∧ SB b H H1 ∧ NuH H1 w2 w2n ∧ NuH H1 h2 h2n ∧ NuH H1 w1 w1n ∧ NuH H1 h1 h1n ∧ NuH H1 rt (Mf.subN t.w w2n) ∧ NuH H1 uu (Mf.subN t.h h2n) ∧ NuH H1 x2 (Mf.plusN t.x w2n) ∧ NuH H1 y2 (Mf.plusN t.y h2n)), ?_, ?_⟩
    · skip
      refine ⟨_, rfl, _, rfl, v1, w2, _, _, rfl, (TL.nuH (sb.tl hB) k1).nu, kw2.nu, up z1 (by decide), up Sw2 (by decide), fun G14 x2 x2_s kx2 => ?_⟩
      have sbG14 := sb.trans (SB.of sb.1 x2_s)
      refine ⟨_, rfl, _, rfl, v2, h2, _, _, rfl, (TL.nuH (TL.trans (sb.tl hB) (TL.of x2_s)) k2).nu, (TL.nuH (TL.of x2_s) kh2).nu, up z2 (by decide), up Sh2 (by decide), fun G15 y2 y2_s ky2 => ?_⟩
      have sbG15 := sbG14.trans (SB.of sbG14.1 y2_s)
      refine ⟨_, _, rfl, ?_⟩
      exact ⟨x2, y2, rfl, sbG15, (TL.nuH (TL.trans (TL.of x2_s) (TL.of y2_s)) kw2), (TL.nuH (TL.trans (TL.of x2_s) (TL.of y2_s)) kh2), (TL.nuH (TL.trans (TL.of x2_s) (TL.of y2_s)) kw1), (TL.nuH (TL.trans (TL.of x2_s) (TL.of y2_s)) kh1), (TL.nuH (TL.trans (TL.of x2_s) (TL.of y2_s)) krt), (TL.nuH (TL.trans (TL.of x2_s) (TL.of y2_s)) kuu), (TL.nuH (TL.of y2_s) kx2), ky2⟩
    rintro σ H1 ⟨x2, y2, rfl, sb, kw2, kh2, kw1, kh1, krt, kuu, kx2, ky2⟩
    refine ⟨(fun σ H1 => σ = [some (.ref b), some (.int r.d), some (.ref p0), some v1, some v2, some v3, some v4, some (.int way), none, none, none, none, none, none, some uu, none, some w2, some h2, some w1, some h1, some rt, some x2, some y2, none, none, none] ∧ SB b H H1 ∧ NuH H1 w2 w2n ∧ NuH H1 h2 h2n ∧ NuH H1 w1 w1n ∧ NuH H1 h1 h1n ∧ NuH H1 rt (Mf.subN t.w w2n) ∧ NuH H1 uu (Mf.subN t.h h2n) ∧ NuH H1 x2 (Mf.plusN t.x w2n) ∧ NuH H1 y2 (Mf.plusN t.y h2n)), ?_, ?_⟩
    · refine ⟨_, rfl, rfl, _, rfl, ?_⟩
      refine ifB (fun c => ?_) (fun c => ⟨rfl, sb, kw2, kh2, kw1, kh1, krt, kuu, kx2, ky2⟩)
      refine ⟨_, rfl, _, rfl, _, rfl, _, rfl, by show 4 ≤ sizeLine; decide, fun pt0 pt0_np => ?_⟩
      have kt0 := tile_new pt0_np (TL.nuH (sb.tl hB) k1) (TL.nuH (sb.tl hB) k2) kw2 (TL.nuH (sb.tl hB) k4)
      have pt0_s := same_new (o := .tup [v1, v2, w2, v4]) pt0_np
      have sbG16 := sb.trans (SB.of sb.1 pt0_s)
      refine ⟨_, rfl, _, rfl, _, rfl, _, rfl, by show 4 ≤ sizeLine; decide, fun pt1 pt1_np => ?_⟩
      have kt1 := tile_new pt1_np (TL.nuH (TL.of pt0_s) kx2) (TL.nuH (TL.trans (sb.tl hB) (TL.of pt0_s)) k2) (TL.nuH (TL.of pt0_s) krt) (TL.nuH (TL.trans (sb.tl hB) (TL.of pt0_s)) k4)
      have pt1_s := same_new (o := .tup [x2, v2, rt, v4]) pt1_np
      have sbG17 := sbG16.trans (SB.of sbG16.1 pt1_s)
      refine ⟨by show 2 ≤ sizeLine; decide, fun D nD => ?_⟩
      exact q D _ _ _ (sbG17.trans (SB.new sbG17.1 nD)) (none_sb sbG17 nD) upd_same (Els.cons ((TL.new nD).tile (TL.tile (TL.of pt1_s) kt0)) (Els.cons ((TL.new nD).tile kt1) Els.nil)) (Mf.cut0_ok hn hh PW)
    rintro σ H1 ⟨rfl, sb, kw2, kh2, kw1, kh1, krt, kuu, kx2, ky2⟩
    refine ⟨(fun σ H1 => σ = [some (.ref b), some (.int r.d), some (.ref p0), some v1, some v2, some v3, some v4, some (.int way), none, none, none, none, none, none, some uu, none, some w2, some h2, some w1, some h1, some rt, some x2, some y2, none, none, none] ∧ SB b H H1 ∧ NuH H1 w2 w2n ∧ NuH H1 h2 h2n ∧ NuH H1 w1 w1n ∧ NuH H1 h1 h1n ∧ NuH H1 rt (Mf.subN t.w w2n) ∧ NuH H1 uu (Mf.subN t.h h2n) ∧ NuH H1 x2 (Mf.plusN t.x w2n) ∧ NuH H1 y2 (Mf.plusN t.y h2n)), ?_, ?_⟩
    · refine ⟨_, rfl, rfl, _, rfl, ?_⟩
      refine ifB (fun c => ?_) (fun c => ⟨rfl, sb, kw2, kh2, kw1, kh1, krt, kuu, kx2, ky2⟩)
      refine ⟨_, rfl, _, rfl, _, rfl, _, rfl, by show 4 ≤ sizeLine; decide, fun pt0 pt0_np => ?_⟩
      have kt0 := tile_new pt0_np (TL.nuH (sb.tl hB) k1) (TL.nuH (sb.tl hB) k2) (TL.nuH (sb.tl hB) k3) kh2
      have pt0_s := same_new (o := .tup [v1, v2, v3, h2]) pt0_np
      have sbG18 := sb.trans (SB.of sb.1 pt0_s)
      refine ⟨_, rfl, _, rfl, _, rfl, _, rfl, by show 4 ≤ sizeLine; decide, fun pt1 pt1_np => ?_⟩
      have kt1 := tile_new pt1_np (TL.nuH (TL.trans (sb.tl hB) (TL.of pt0_s)) k1) (TL.nuH (TL.of pt0_s) ky2) (TL.nuH (TL.trans (sb.tl hB) (TL.of pt0_s)) k3) (TL.nuH (TL.of pt0_s) kuu)
      have pt1_s := same_new (o := .tup [v1, y2, v3, uu]) pt1_np
      have sbG19 := sbG18.trans (SB.of sbG18.1 pt1_s)
      refine ⟨by show 2 ≤ sizeLine; decide, fun D nD => ?_⟩
      exact q D _ _ _ (sbG19.trans (SB.new sbG19.1 nD)) (none_sb sbG19 nD) upd_same (Els.cons ((TL.new nD).tile (TL.tile (TL.of pt1_s) kt0)) (Els.cons ((TL.new nD).tile kt1) Els.nil)) (Mf.cut1_ok hn hw PH)
    rintro σ H1 ⟨rfl, sb, kw2, kh2, kw1, kh1, krt, kuu, kx2, ky2⟩
    refine ⟨(fun σ H1 => σ = [some (.ref b), some (.int r.d), some (.ref p0), some v1, some v2, some v3, some v4, some (.int way), none, none, none, none, none, none, some uu, none, some w2, some h2, some w1, some h1, some rt, some x2, some y2, none, none, none] ∧ SB b H H1 ∧ NuH H1 w2 w2n ∧ NuH H1 h2 h2n ∧ NuH H1 w1 w1n ∧ NuH H1 h1 h1n ∧ NuH H1 rt (Mf.subN t.w w2n) ∧ NuH H1 uu (Mf.subN t.h h2n) ∧ NuH H1 x2 (Mf.plusN t.x w2n) ∧ NuH H1 y2 (Mf.plusN t.y h2n)), ?_, ?_⟩
    · refine ⟨_, rfl, rfl, _, rfl, ?_⟩
      refine ifB (fun c => ?_) (fun c => ⟨rfl, sb, kw2, kh2, kw1, kh1, krt, kuu, kx2, ky2⟩)
      refine ⟨_, rfl, _, rfl, _, rfl, _, rfl, by show 4 ≤ sizeLine; decide, fun pt0 pt0_np => ?_⟩
      have kt0 := tile_new pt0_np (TL.nuH (sb.tl hB) k1) (TL.nuH (sb.tl hB) k2) kw2 kh2
      have pt0_s := same_new (o := .tup [v1, v2, w2, h2]) pt0_np
      have sbG20 := sb.trans (SB.of sb.1 pt0_s)
      refine ⟨_, rfl, _, rfl, _, rfl, _, rfl, by show 4 ≤ sizeLine; decide, fun pt1 pt1_np => ?_⟩
      have kt1 := tile_new pt1_np (TL.nuH (TL.of pt0_s) kx2) (TL.nuH (TL.trans (sb.tl hB) (TL.of pt0_s)) k2) (TL.nuH (TL.of pt0_s) krt) (TL.nuH (TL.of pt0_s) kh2)
      have pt1_s := same_new (o := .tup [x2, v2, rt, h2]) pt1_np
      have sbG21 := sbG20.trans (SB.of sbG20.1 pt1_s)
      refine ⟨_, rfl, _, rfl, _, rfl, _, rfl, by show 4 ≤ sizeLine; decide, fun pt2 pt2_np => ?_⟩
      have kt2 := tile_new pt2_np (TL.nuH (TL.trans (sb.tl hB) (TL.trans (TL.of pt0_s) (TL.of pt1_s))) k1) (TL.nuH (TL.trans (TL.of pt0_s) (TL.of pt1_s)) ky2) (TL.nuH (TL.trans (TL.of pt0_s) (TL.of pt1_s)) kw2) (TL.nuH (TL.trans (TL.of pt0_s) (TL.of pt1_s)) kuu)
      have pt2_s := same_new (o := .tup [v1, y2, w2, uu]) pt2_np
      have sbG22 := sbG21.trans (SB.of sbG21.1 pt2_s)
      refine ⟨_, rfl, _, rfl, _, rfl, _, rfl, by show 4 ≤ sizeLine; decide, fun pt3 pt3_np => ?_⟩
      have kt3 := tile_new pt3_np (TL.nuH (TL.trans (TL.of pt0_s) (TL.trans (TL.of pt1_s) (TL.of pt2_s))) kx2) (TL.nuH (TL.trans (TL.of pt0_s) (TL.trans (TL.of pt1_s) (TL.of pt2_s))) ky2) (TL.nuH (TL.trans (TL.of pt0_s) (TL.trans (TL.of pt1_s) (TL.of pt2_s))) krt) (TL.nuH (TL.trans (TL.of pt0_s) (TL.trans (TL.of pt1_s) (TL.of pt2_s))) kuu)
      have pt3_s := same_new (o := .tup [x2, y2, rt, uu]) pt3_np
      have sbG23 := sbG22.trans (SB.of sbG22.1 pt3_s)
      refine ⟨by show 4 ≤ sizeLine; decide, fun D nD => ?_⟩
      exact q D _ _ _ (sbG23.trans (SB.new sbG23.1 nD)) (none_sb sbG23 nD) upd_same (Els.cons ((TL.new nD).tile (TL.tile (TL.trans (TL.of pt1_s) (TL.trans (TL.of pt2_s) (TL.of pt3_s))) kt0)) (Els.cons ((TL.new nD).tile (TL.tile (TL.trans (TL.of pt2_s) (TL.of pt3_s)) kt1)) (Els.cons ((TL.new nD).tile (TL.tile (TL.of pt3_s) kt2)) (Els.cons ((TL.new nD).tile kt3) Els.nil)))) (Mf.cut4_ok hn PW PH)
    rintro σ H1 ⟨rfl, sb, kw2, kh2, kw1, kh1, krt, kuu, kx2, ky2⟩
    refine ⟨(fun σ H1 => ∃ x1 y1 : V, σ = [some (.ref b), some (.int r.d), some (.ref p0), some v1, some v2, some v3, some v4, some (.int way), none, none, none, none, none, none, some uu, none, some w2, some h2, some w1, some h1, some rt, some x2, some y2, some x1, some y1, none] ∧ SB b H H1 ∧ NuH H1 w2 w2n ∧ NuH H1 h2 h2n ∧ NuH H1 w1 w1n ∧ NuH H1 h1 h1n ∧ NuH H1 rt (Mf.subN t.w w2n) ∧ NuH H1 uu (Mf.subN t.h h2n) ∧ NuH H1 x2 (Mf.plusN t.x w2n) ∧ NuH H1 y2 (Mf.plusN t.y h2n) ∧ NuH H1 x1 (Mf.plusN t.x w1n) ∧ NuH H1 y1 (Mf.plusN t.y h1n)), ?_, ?_⟩
    · skip
      refine ⟨_, rfl, _, rfl, v1, w1, _, _, rfl, (TL.nuH (sb.tl hB) k1).nu, kw1.nu, up z1 (by decide), up Sw1 (by decide), fun G24 x1 x1_s kx1 => ?_⟩
      have sbG24 := sb.trans (SB.of sb.1 x1_s)
      refine ⟨_, rfl, _, rfl, v2, h1, _, _, rfl, (TL.nuH (TL.trans (sb.tl hB) (TL.of x1_s)) k2).nu, (TL.nuH (TL.of x1_s) kh1).nu, up z2 (by decide), up Sh1 (by decide), fun G25 y1 y1_s ky1 => ?_⟩
      have sbG25 := sbG24.trans (SB.of sbG24.1 y1_s)
      refine ⟨_, _, rfl, ?_⟩
      exact ⟨x1, y1, rfl, sbG25, (TL.nuH (TL.trans (TL.of x1_s) (TL.of y1_s)) kw2), (TL.nuH (TL.trans (TL.of x1_s) (TL.of y1_s)) kh2), (TL.nuH (TL.trans (TL.of x1_s) (TL.of y1_s)) kw1), (TL.nuH (TL.trans (TL.of x1_s) (TL.of y1_s)) kh1), (TL.nuH (TL.trans (TL.of x1_s) (TL.of y1_s)) krt), (TL.nuH (TL.trans (TL.of x1_s) (TL.of y1_s)) kuu), (TL.nuH (TL.trans (TL.of x1_s) (TL.of y1_s)) kx2), (TL.nuH (TL.trans (TL.of x1_s) (TL.of y1_s)) ky2), (TL.nuH (TL.of y1_s) kx1), ky1⟩
    rintro σ H1 ⟨x1, y1, rfl, sb, kw2, kh2, kw1, kh1, krt, kuu, kx2, ky2, kx1, ky1⟩
    refine ⟨(fun σ H1 => ∃ pm : Addr, σ = [some (.ref b), some (.int r.d), some (.ref p0), some v1, some v2, some v3, some v4, some (.int way), none, none, none, none, none, none, some uu, none, some w2, some h2, some w1, some h1, some rt, some x2, some y2, some x1, some y1, some (.ref pm)] ∧ SB b H H1 ∧ NuH H1 w2 w2n ∧ NuH H1 h2 h2n ∧ NuH H1 w1 w1n ∧ NuH H1 h1 h1n ∧ NuH H1 rt (Mf.subN t.w w2n) ∧ NuH H1 uu (Mf.subN t.h h2n) ∧ NuH H1 x2 (Mf.plusN t.x w2n) ∧ NuH H1 y2 (Mf.plusN t.y h2n) ∧ NuH H1 x1 (Mf.plusN t.x w1n) ∧ NuH H1 y1 (Mf.plusN t.y h1n) ∧ TileAt H1 (.ref pm) ⟨Mf.plusN t.x w1n, Mf.plusN t.y h1n, Mf.subN w2n w1n, Mf.subN h2n h1n⟩), ?_, ?_⟩
    · skip
      refine ⟨_, rfl, _, rfl, ?_⟩
      refine ⟨_, rfl, ?_⟩
      refine ⟨_, rfl, w1, _, rfl, kw1.nu, fun G26 mmw mmw_s kmmw => ?_⟩
      have sbG26 := sb.trans (SB.of sb.1 mmw_s)
      refine ⟨w2, mmw, _, _, rfl, (TL.nuH (TL.of mmw_s) kw2).nu, kmmw.nu, up Sw2 (by decide), up (sm_neg Sw1) (by decide), fun G27 mw mw_s kmw => ?_⟩
      have sbG27 := sbG26.trans (SB.of sbG26.1 mw_s)
      refine ⟨_, rfl, ?_⟩
      refine ⟨_, rfl, h1, _, rfl, (TL.nuH (TL.trans (TL.of mmw_s) (TL.of mw_s)) kh1).nu, fun G28 mmh mmh_s kmmh => ?_⟩
      have sbG28 := sbG27.trans (SB.of sbG27.1 mmh_s)
      refine ⟨h2, mmh, _, _, rfl, (TL.nuH (TL.trans (TL.of mmw_s) (TL.trans (TL.of mw_s) (TL.of mmh_s))) kh2).nu, kmmh.nu, up Sh2 (by decide), up (sm_neg Sh1) (by decide), fun G29 mh mh_s kmh => ?_⟩
      have sbG29 := sbG28.trans (SB.of sbG28.1 mh_s)
      refine ⟨by show 4 ≤ sizeLine; decide, fun pm pm_np => ?_⟩
      have kpm := tile_new pm_np (TL.nuH (TL.trans (TL.of mmw_s) (TL.trans (TL.of mw_s) (TL.trans (TL.of mmh_s) (TL.of mh_s)))) kx1) (TL.nuH (TL.trans (TL.of mmw_s) (TL.trans (TL.of mw_s) (TL.trans (TL.of mmh_s) (TL.of mh_s)))) ky1) (TL.nuH (TL.trans (TL.of mmh_s) (TL.of mh_s)) kmw) kmh
      have pm_s := same_new (o := .tup [x1, y1, mw, mh]) pm_np
      have sbG30 := sbG29.trans (SB.of sbG29.1 pm_s)
      exact ⟨pm, rfl, sbG30, (TL.nuH (TL.trans (TL.of mmw_s) (TL.trans (TL.of mw_s) (TL.trans (TL.of mmh_s) (TL.trans (TL.of mh_s) (TL.of pm_s))))) kw2), (TL.nuH (TL.trans (TL.of mmw_s) (TL.trans (TL.of mw_s) (TL.trans (TL.of mmh_s) (TL.trans (TL.of mh_s) (TL.of pm_s))))) kh2), (TL.nuH (TL.trans (TL.of mmw_s) (TL.trans (TL.of mw_s) (TL.trans (TL.of mmh_s) (TL.trans (TL.of mh_s) (TL.of pm_s))))) kw1), (TL.nuH (TL.trans (TL.of mmw_s) (TL.trans (TL.of mw_s) (TL.trans (TL.of mmh_s) (TL.trans (TL.of mh_s) (TL.of pm_s))))) kh1), (TL.nuH (TL.trans (TL.of mmw_s) (TL.trans (TL.of mw_s) (TL.trans (TL.of mmh_s) (TL.trans (TL.of mh_s) (TL.of pm_s))))) krt), (TL.nuH (TL.trans (TL.of mmw_s) (TL.trans (TL.of mw_s) (TL.trans (TL.of mmh_s) (TL.trans (TL.of mh_s) (TL.of pm_s))))) kuu), (TL.nuH (TL.trans (TL.of mmw_s) (TL.trans (TL.of mw_s) (TL.trans (TL.of mmh_s) (TL.trans (TL.of mh_s) (TL.of pm_s))))) kx2), (TL.nuH (TL.trans (TL.of mmw_s) (TL.trans (TL.of mw_s) (TL.trans (TL.of mmh_s) (TL.trans (TL.of mh_s) (TL.of pm_s))))) ky2), (TL.nuH (TL.trans (TL.of mmw_s) (TL.trans (TL.of mw_s) (TL.trans (TL.of mmh_s) (TL.trans (TL.of mh_s) (TL.of pm_s))))) kx1), (TL.nuH (TL.trans (TL.of mmw_s) (TL.trans (TL.of mw_s) (TL.trans (TL.of mmh_s) (TL.trans (TL.of mh_s) (TL.of pm_s))))) ky1), kpm⟩
    rintro σ H1 ⟨pm, rfl, sb, kw2, kh2, kw1, kh1, krt, kuu, kx2, ky2, kx1, ky1, kpm⟩
    refine ⟨_, rfl, _, rfl, _, rfl, _, rfl, by show 4 ≤ sizeLine; decide, fun pt0 pt0_np => ?_⟩
    have kt0 := tile_new pt0_np (TL.nuH (sb.tl hB) k1) (TL.nuH (sb.tl hB) k2) kw2 kh1
    have pt0_s := same_new (o := .tup [v1, v2, w2, h1]) pt0_np
    have sbG31 := sb.trans (SB.of sb.1 pt0_s)
    refine ⟨_, rfl, _, rfl, _, rfl, _, rfl, by show 4 ≤ sizeLine; decide, fun pt1 pt1_np => ?_⟩
    have kt1 := tile_new pt1_np (TL.nuH (TL.of pt0_s) kx2) (TL.nuH (TL.trans (sb.tl hB) (TL.of pt0_s)) k2) (TL.nuH (TL.of pt0_s) krt) (TL.nuH (TL.of pt0_s) kh2)
    have pt1_s := same_new (o := .tup [x2, v2, rt, h2]) pt1_np
    have sbG32 := sbG31.trans (SB.of sbG31.1 pt1_s)
    refine ⟨_, rfl, _, rfl, ?_⟩
    refine ⟨_, rfl, ?_⟩
    refine ⟨_, rfl, w1, _, rfl, (TL.nuH (TL.trans (TL.of pt0_s) (TL.of pt1_s)) kw1).nu, fun G33 mq1 mq1_s kmq1 => ?_⟩
    have sbG33 := sbG32.trans (SB.of sbG32.1 mq1_s)
    refine ⟨v3, mq1, _, _, rfl, (TL.nuH (TL.trans (sb.tl hB) (TL.trans (TL.of pt0_s) (TL.trans (TL.of pt1_s) (TL.of mq1_s)))) k3).nu, kmq1.nu, up z3 (by decide), up (sm_neg Sw1) (by decide), fun G34 q1 q1_s kq1 => ?_⟩
    have sbG34 := sbG33.trans (SB.of sbG33.1 q1_s)
    refine ⟨_, rfl, by show 4 ≤ sizeLine; decide, fun pt2 pt2_np => ?_⟩
    have kt2 := tile_new pt2_np (TL.nuH (TL.trans (TL.of pt0_s) (TL.trans (TL.of pt1_s) (TL.trans (TL.of mq1_s) (TL.of q1_s)))) kx1) (TL.nuH (TL.trans (TL.of pt0_s) (TL.trans (TL.of pt1_s) (TL.trans (TL.of mq1_s) (TL.of q1_s)))) ky2) kq1 (TL.nuH (TL.trans (TL.of pt0_s) (TL.trans (TL.of pt1_s) (TL.trans (TL.of mq1_s) (TL.of q1_s)))) kuu)
    have pt2_s := same_new (o := .tup [x1, y2, q1, uu]) pt2_np
    have sbG35 := sbG34.trans (SB.of sbG34.1 pt2_s)
    refine ⟨_, rfl, _, rfl, _, rfl, ?_⟩
    refine ⟨_, rfl, ?_⟩
    refine ⟨_, rfl, h1, _, rfl, (TL.nuH (TL.trans (TL.of pt0_s) (TL.trans (TL.of pt1_s) (TL.trans (TL.of mq1_s) (TL.trans (TL.of q1_s) (TL.of pt2_s))))) kh1).nu, fun G36 mq2 mq2_s kmq2 => ?_⟩
    have sbG36 := sbG35.trans (SB.of sbG35.1 mq2_s)
    refine ⟨v4, mq2, _, _, rfl, (TL.nuH (TL.trans (sb.tl hB) (TL.trans (TL.of pt0_s) (TL.trans (TL.of pt1_s) (TL.trans (TL.of mq1_s) (TL.trans (TL.of q1_s) (TL.trans (TL.of pt2_s) (TL.of mq2_s))))))) k4).nu, kmq2.nu, up z4 (by decide), up (sm_neg Sh1) (by decide), fun G37 q2 q2_s kq2 => ?_⟩
    have sbG37 := sbG36.trans (SB.of sbG36.1 q2_s)
    refine ⟨by show 4 ≤ sizeLine; decide, fun pt3 pt3_np => ?_⟩
    have kt3 := tile_new pt3_np (TL.nuH (TL.trans (sb.tl hB) (TL.trans (TL.of pt0_s) (TL.trans (TL.of pt1_s) (TL.trans (TL.of mq1_s) (TL.trans (TL.of q1_s) (TL.trans (TL.of pt2_s) (TL.trans (TL.of mq2_s) (TL.of q2_s)))))))) k1) (TL.nuH (TL.trans (TL.of pt0_s) (TL.trans (TL.of pt1_s) (TL.trans (TL.of mq1_s) (TL.trans (TL.of q1_s) (TL.trans (TL.of pt2_s) (TL.trans (TL.of mq2_s) (TL.of q2_s))))))) ky1) (TL.nuH (TL.trans (TL.of pt0_s) (TL.trans (TL.of pt1_s) (TL.trans (TL.of mq1_s) (TL.trans (TL.of q1_s) (TL.trans (TL.of pt2_s) (TL.trans (TL.of mq2_s) (TL.of q2_s))))))) kw1) kq2
    have pt3_s := same_new (o := .tup [v1, y1, w1, q2]) pt3_np
    have sbG38 := sbG37.trans (SB.of sbG37.1 pt3_s)
    refine ⟨_, rfl, by show 5 ≤ sizeLine; decide, fun D nD => ?_⟩
    exact q D _ _ _ (sbG38.trans (SB.new sbG38.1 nD)) (none_sb sbG38 nD) upd_same (Els.cons ((TL.new nD).tile (TL.tile (TL.trans (TL.of pt1_s) (TL.trans (TL.of mq1_s) (TL.trans (TL.of q1_s) (TL.trans (TL.of pt2_s) (TL.trans (TL.of mq2_s) (TL.trans (TL.of q2_s) (TL.of pt3_s))))))) kt0)) (Els.cons ((TL.new nD).tile (TL.tile (TL.trans (TL.of mq1_s) (TL.trans (TL.of q1_s) (TL.trans (TL.of pt2_s) (TL.trans (TL.of mq2_s) (TL.trans (TL.of q2_s) (TL.of pt3_s)))))) kt1)) (Els.cons ((TL.new nD).tile (TL.tile (TL.trans (TL.of mq2_s) (TL.trans (TL.of q2_s) (TL.of pt3_s))) kt2)) (Els.cons ((TL.new nD).tile kt3) (Els.cons ((TL.new nD).tile (TL.tile (TL.trans (TL.of pt0_s) (TL.trans (TL.of pt1_s) (TL.trans (TL.of mq1_s) (TL.trans (TL.of q1_s) (TL.trans (TL.of pt2_s) (TL.trans (TL.of mq2_s) (TL.trans (TL.of q2_s) (TL.of pt3_s)))))))) kpm)) Els.nil))))) (Mf.cut2_ok hn PW PH)
end
end MfW
namespace MfW
open PySem PySem.Spec PyProof.Rows L2
section
variable {P : Program} {w : World} {K : PySem.W.Frag} {mg : Str → Option Value} {base : Heap}
theorem eraseIdx_get {α : Type} : ∀ (l : List α) (k i : Nat), (l.eraseIdx k)[i]? = if i < k then l[i]? else l[i + 1]?
  | l, k, i => by
    by_cases h : i < k
    · rw [if_pos h, List.getElem?_eraseIdx_of_lt h]
    · rw [if_neg h, List.getElem?_eraseIdx_of_ge (by omega)]
theorem Els.erase {α : Type} {R : Hp → V → α → Prop} {H : Hp} {vs : List V} {xs : List α} (h : Els R H vs xs) {k : Nat} (hk : k < vs.length) : Els R H (vs.eraseIdx k) (xs.eraseIdx k) := by
  refine ⟨by rw [List.length_eraseIdx_of_lt hk, List.length_eraseIdx_of_lt (by rw [← h.1]; exact hk), h.1], fun i u e => ?_⟩
  rw [eraseIdx_get] at e
  rw [eraseIdx_get]
  split <;> rename_i c
  · rw [if_pos c] at e
    exact h.2 i u e
  · rw [if_neg c] at e
    exact h.2 _ u e
theorem SB.put {b : Addr} {H H' : Hp} {a : Addr} {o : HO} (s : SB b H H') (h : H a = none) (ne : a ≠ b) : SB b H (upd H' a o) := by
  refine ⟨?_, fun c x n e => ?_⟩
  · obtain ⟨g, m, hb, z⟩ := s.1
    exact ⟨g, m, by rw [upd_ne (fun z => ne z.symm)]; exact hb, z⟩
  · rw [upd_ne (ne_of_none e h)]
    exact s.2 c x n e
/-- an index drawn from a list -/
theorem pick_at {xs : List V} {x : Int} (h0 : 0 ≤ x) (h1 : x < xs.length) : ∃ k v, k < xs.length ∧ -(2 ^ 63) ≤ x ∧ (xs.length < 2 ^ 60 → x < 2 ^ 63) ∧ seqIndex? x xs.length = some k ∧ xs[k]? = some v := by
  obtain ⟨k, rfl⟩ : ∃ k : Nat, x = (k : Int) := ⟨x.toNat, by omega⟩
  have hk : k < xs.length := by omega
  refine ⟨k, xs[k], hk, by omega, fun h => by omega, ?_, List.getElem?_eq_getElem hk⟩
  unfold seqIndex?
  have c : ¬ (k : Int) < 0 := by omega
  simp only [if_neg c]
  rw [if_pos (by simp; omega)]
  rfl
/-- a laying: what the program looks at, and how it was made -/
structure LayAt (r : Mf.Rt) (H : Hp) (v : V) (W Hh : Mf.N3) (ts : List Mf.T4) : Prop where
  good : GoodLay r H v W Hh ts
  lay : Mf.Lay r W Hh ts
  sz : ∃ e m, Mf.Sz r e m W Hh ts ∧ e ≤ 128 ∧ m ≤ 164
  len : ts.length ≤ 59
theorem TL.layAt {r : Mf.Rt} {H H' : Hp} {v : V} {W Hh : Mf.N3} {ts : List Mf.T4} (l : TL H H') (h : LayAt r H v W Hh ts) : LayAt r H' v W Hh ts := ⟨l.good h.good, h.lay, h.sz, h.len⟩
theorem layAt_of {r : Mf.Rt} {H : Hp} {p a : Addr} {v1 v2 : V} {W Hh : Mf.N3} {ts : List Mf.T4} {e m : Nat} (hd : RtOk r) (L : Mf.Lay r W Hh ts) (S : Mf.Sz r e m W Hh ts) (he : e ≤ 128) (hm : m ≤ 164) (l1 : 1 ≤ ts.length) (l2 : ts.length ≤ 59)
    (hp : H p = some (.tup [v1, v2, .ref a])) (n1 : NuH H v1 W) (n2 : NuH H v2 Hh) (ha : TilesAt H a ts) : LayAt r H (.ref p) W Hh ts := by
  obtain ⟨sW, sH, sT⟩ := S.sm (by omega) (by omega) L.nm L.nW L.nH
  refine ⟨⟨⟨a, ⟨⟨p, v1, v2, rfl, hp, n1, n2⟩, L.nW, L.nH, sW, sH, L.pW, L.pH⟩, ha⟩, l1, by omega, ⟨L.nW, L.nH, sW, sH, L.nm, fun t ht => sT t ht, Mf.arOk_of hd.le S (by omega) (by omega) L.nm (by omega), by omega⟩, fun t ht => ?_, L.toCover⟩, L, ⟨e, m, S, he, hm⟩, l2⟩
  obtain ⟨i1, i2, i3, i4, i5, i6⟩ := L.inn t ht
  unfold tileB
  rw [abv_iff.mpr i3, abv_iff.mpr i6]
  have a1 : abv 0 (t.X r) = false := by
    cases h : abv 0 (t.X r) with
    | false => rfl
    | true =>
      have := abv_iff.mp h
      grind
  have a2 : abv 0 (t.Y r) = false := by
    cases h : abv 0 (t.Y r) with
    | false => rfl
    | true =>
      have := abv_iff.mp h
      grind
  rw [a1, a2]
  rfl
abbrev N__law_laying : List Str := ["_law_bag_here", "_law_d", "_law_width", "_law_height", "_law_tiles", "_law_turn", "_law_k"]
theorem sc__law_laying : FnScope N__law_laying ["_law_bag_here", "_law_d"] (defScope (top 64)) := ⟨rfl, rfl, rfl, by decide +kernel, rfl, by decide +kernel, by decide +kernel⟩

def spLayg : Sp := fun vs H Q _ => ∃ (b : Addr) (r : Mf.Rt), vs = [.ref b, .int r.d] ∧ RtOk r ∧ Bag H b ∧ ∀ (v : V) (W Hh : Mf.N3) (ts : List Mf.T4) H', SB b H H' → LayAt r H' v W Hh ts → Q v H'
theorem ok_layg (T : Txt K mg) (D : Df K mg "_law_laying" 64) (c_law_take : C8.Cal P w K mg base 1 "_law_take" spTake []) (c_law_above : C8.Cal P w K mg base 4 "_law_above" spLAb []) (c_law_cut : C8.Cal P w K mg base 5 "_law_cut" spCut []) : C8.Cal P w K mg base 6 "_law_laying" spLayg [] := by
  refine mk_cal D sc__law_laying (fun vs H Q E h => ?_) (fun _ _ _ _ _ _ us hl => match us, hl with | [_, _], _ => rfl) (fun cdv A outer s f H vs Q E hr h => ?_)
  · obtain ⟨b, r, rfl, _⟩ := h
    rfl
  · obtain ⟨b, r, rfl, hd, hB, q⟩ := h
    refine ⟨_, (pss_cons (ps_par (i := 2) (j := 3) (by rfl) sc__law_laying.nd rfl rfl (by decide) rfl rfl (pa_cons (C8.pe_c c_law_above hr (by decide) (by rfl) (pa_cons (pv 0) (pa_cons (pv 1) pa_nil))) (pa_cons (C8.pe_c c_law_above hr (by decide) (by rfl) (pa_cons (pv 0) (pa_cons (pv 1) pa_nil))) pa_nil)) (by rfl))
      (pss_cons (ps_set (i := 4) sc__law_laying.nd rfl (Or.inr rfl) (pe_lst (pa_cons (pe_tup (pa_cons (pe_tup (pa_cons pe_int (pa_cons pe_int (pa_cons pe_int pa_nil)))) (pa_cons (pe_tup (pa_cons pe_int (pa_cons pe_int (pa_cons pe_int pa_nil)))) (pa_cons (pv 2) (pa_cons (pv 3) pa_nil))))) pa_nil)))
      (pss_cons (ps_for PassesOwn.never rfl (pi_range1 (by rfl) T.range (pa_cons (C8.pe_c c_law_take hr (by decide) (by rfl) (pa_cons (pv 0) (pa_cons pe_int pa_nil))) pa_nil)) (pg_name (i := 5) sc__law_laying.nd rfl (Or.inl rfl))
      (pss_one (ps_if (pt_cmpR op_lt (pe_callB call_len (by rfl) T.len (by decide +kernel) (pa_cons (pv 4) pa_nil)) pe_int (nomark _)) (pss_one (ps_expr (pe_bm PySem.F.plainAttrs_list PySem.F.slot_list_extend PySem.F.type_list_extend mt_extend (pv 4) (pa_cons (C8.pe_c c_law_cut hr (by decide) (by rfl) (pa_cons (pv 0) (pa_cons (pv 1) (pa_cons (pe_bm PySem.F.plainAttrs_list PySem.F.slot_list_pop PySem.F.type_list_pop mt_popAt (pv 4) (pa_cons (C8.pe_c c_law_take hr (by decide) (by rfl) (pa_cons (pv 0) (pa_cons (pe_callB call_len (by rfl) T.len (by decide +kernel) (pa_cons (pv 4) pa_nil)) pa_nil))) pa_nil)) pa_nil)))) pa_nil)))) pss_nil)))
      (pss_one (ps_ret (pe_tup (pa_cons (pv 2) (pa_cons (pv 3) (pa_cons (pe_callTy call_tuple_of (by rfl) T.tuple (by decide +kernel) (pa_cons (pe_lc (own := [("_law_k", 6)]) (te := tBM K "list" rPopAt (tVar 4) (tCons (tCall spTake [] C8.E0 (tCons (tVar 0) (tCons (tCB (fun xs H Q => ∃ x n, xs = [x] ∧ LenV K x H n ∧ Q (.int n) H) (tCons (tVar 4) tNil)) tNil))) tNil)) rfl sc__law_laying.nd (pi_range1 (by rfl) T.range (pa_cons (pe_callB call_len (by rfl) T.len (by decide +kernel) (pa_cons (pv 4) pa_nil)) pa_nil)) (blkOk_by (own := [("_law_k", 6)]) (N := N__law_laying) (sc := defScope (top 64)) (by decide +kernel)) (fun _ _ _ _ _ => (pg_name (i := 6) sc__law_laying.nd rfl (Or.inl rfl))) (fun _ _ _ _ _ => pts_nil) (fun _ _ _ _ _ => (pe_bm PySem.F.plainAttrs_list PySem.F.slot_list_pop PySem.F.type_list_pop mt_popAt (pv 4) (pa_cons (C8.pe_c c_law_take hr (by decide) (by rfl) (pa_cons (pv 0) (pa_cons (pe_callB call_len (by rfl) T.len (by decide +kernel) (pa_cons (pv 4) pa_nil)) pa_nil))) pa_nil)))) pa_nil)) pa_nil))))))))), ?_⟩
    refine ⟨_, rfl, _, rfl, b, r, rfl, hd, hB, fun vw W H1 s1 kw nW sW pW => ?_⟩
    refine ⟨_, rfl, _, rfl, b, r, rfl, hd, s1.1, fun vh Hh H2 s2 kh nH sH pH => ⟨_, _, rfl, ?_⟩⟩
    refine ⟨by show 3 ≤ sizeLine; decide, fun p1 np1 => ?_⟩
    have s3 := same_new (o := .tup [V.int 0, .int 0, .int 1]) np1
    have ko1 : NuH (upd H2 p1 (.tup [V.int 0, .int 0, .int 1])) (.ref p1) Mf.N0 := nuh_of upd_same rfl
    refine ⟨by show 3 ≤ sizeLine; decide, fun p2 np2 => ?_⟩
    have s4 := same_new (o := .tup [V.int 0, .int 0, .int 1]) np2
    have ko2 : NuH (upd (upd H2 p1 (.tup [V.int 0, .int 0, .int 1])) p2 (.tup [V.int 0, .int 0, .int 1])) (.ref p2) Mf.N0 := nuh_of upd_same rfl
    have l24 : TL H2 _ := TL.of (s3.trans s4)
    have kw2 := l24.nuH ((s2.tl s1.1).nuH kw)
    have kh2 := l24.nuH kh
    refine ⟨_, rfl, _, rfl, by show 4 ≤ sizeLine; decide, fun p3 np3 => ?_⟩
    have k3 := tile_new np3 ((TL.of s4).nuH ko1) ko2 kw2 kh2
    have s5 := same_new (o := .tup [V.ref p1, .ref p2, vw, vh]) np3
    have kw3 := (TL.of s5).nuH kw2
    have kh3 := (TL.of s5).nuH kh2
    have sb5 := (s1.trans s2).trans (SB.of s2.1 (s3.trans (s4.trans s5)))
    refine ⟨by show 1 ≤ sizeLine; decide, fun F nF => ?_⟩
    have hFb := sb5.1.ne nF
    have k3' := (TL.new (o := .lst [V.ref p3]) nF).tile k3
    generalize upd (upd (upd H2 p1 (.tup [V.int 0, .int 0, .int 1])) p2 (.tup [V.int 0, .int 0, .int 1])) p3 (.tup [V.ref p1, .ref p2, vw, vh]) = H5 at *
    have s6 := SB.new sb5.1 (o := .lst [V.ref p3]) nF
    refine ⟨_, rfl, b, 7, rfl, s6.1, by decide, by decide, fun x H6 x0 x1 s7 => ?_⟩
    refine ⟨x, rfl, by omega, by omega, ?_⟩
    refine for_range (lo := 0) (n := x.toNat) (fun i σ H' => ∃ o5 us ts e m, σ = [some (.ref b), some (.int r.d), some vw, some vh, some (.ref F), o5, none] ∧ SB b H5 H' ∧ H' F = some (.lst us) ∧ Els TileAt H' us ts ∧ Mf.Lay r W Hh ts ∧ Mf.Sz r e m W Hh ts ∧ e ≤ 20 + 18 * i ∧ m ≤ 20 + 24 * i ∧ 1 ≤ ts.length ∧ ts.length ≤ 59)
      ⟨none, _, _, 20, 20, rfl, s6.trans s7, s7.2 F _ hFb upd_same, Els.mono (.cons k3' .nil) (fun v x h => (s7.tl s6.1).tile h), Mf.lay_start nW nH pW pH, Mf.sz_start nW nH sW sH, by decide, by decide, Nat.le_refl 1, Nat.le_add_right 1 58⟩ ?_ ?_
    · rintro i σ H9 hi ⟨o5, us, ts, e, m, rfl, s9, hF, hE, hL, hS, he, hm, l1, l2⟩
      have lu := hE.1
      refine ⟨_, rfl, _, _, rfl, .inl ⟨_, SqL.of hF, rfl⟩, _, _, rfl, rfl, _, rfl, ?_⟩
      refine ifB (fun c => ?_) (fun c => ⟨_, us, ts, e, m, rfl, s9, hF, hE, hL, hS, by omega, by omega, l1, l2⟩)
      have c := of_decide_eq_true c
      refine ⟨_, rfl, .inl ⟨rfl, _, SqL.of hF⟩, _, rfl, _, rfl, _, rfl, .inl ⟨rfl, _, SqL.of hF⟩, _, rfl, _, rfl, _, _, rfl, .inl ⟨_, SqL.of hF, rfl⟩, ?_⟩
      refine ⟨b, (us.length : Int), rfl, s9.1, by omega, by omega, fun y H10 y0 y1 s10 => ?_⟩
      obtain ⟨k, vt, hk, q1, q2, q3, q4⟩ := pick_at (xs := us) y0 y1
      have hF10 := s10.2 F _ hFb hF
      refine ⟨F, us, y, k, vt, rfl, rfl, hF10, q1, q2 (by omega), q3, q4, ?_⟩
      have lp : TL H10 (upd H10 F (.lst (us.eraseIdx k))) := TL.put hF10
      have l910 := s10.tl s9.1
      obtain ⟨t, et, kt⟩ := hE.2 k vt q4
      have mt := List.mem_of_getElem? et
      obtain ⟨sW9, sH9, sT9⟩ := hS.sm (by omega) (by omega) hL.nm hL.nW hL.nH
      have it := hL.inn t mt
      have s11 : SB b H5 (upd H10 F (.lst (us.eraseIdx k))) := (s9.trans s10).put nF hFb
      refine ⟨b, r, vt, t, rfl, hd, s11.1, lp.tile (l910.tile kt), hL.nm t mt, it.2.2.1, it.2.2.2.2.2, sT9 t mt, fun D ds dts H12 s12 nD hD hEd hC => ?_⟩
      have hF12 := s12.2 F _ hFb upd_same
      have cl := hC.len
      have ld := hEd.1
      have le := List.length_eraseIdx_of_lt hk
      refine ⟨F, D, us.eraseIdx k, ds, rfl, rfl, hF12, hD, by have := sizeLine_eq; omega, ?_⟩
      have lp2 : TL H12 (upd H12 F (.lst (us.eraseIdx k ++ ds))) := TL.put hF12
      have l12 := s12.tl s11.1
      refine ⟨_, us.eraseIdx k ++ ds, ts.eraseIdx k ++ dts, e + 18, m + 24, rfl, (s11.trans s12).put nF hFb, upd_same, ?_, Mf.lay_cut hL et hC, Mf.sz_cut hS et hC, by omega, by omega, ?_, ?_⟩
      · exact ((hE.erase hk).mono fun v x h => lp2.tile (l12.tile (lp.tile (l910.tile h)))).app (hEd.mono fun v x h => lp2.tile h)
      · rw [List.length_append]
        omega
      · rw [List.length_append, List.length_eraseIdx_of_lt (by omega)]
        omega
    · rintro σ H9 ⟨o5, us, ts, e, m, rfl, s9, hF, hE, hL, hS, he, hm, l1, l2⟩
      have lu := hE.1
      refine ⟨_, rfl, _, rfl, _, rfl, _, _, rfl, .inl ⟨_, SqL.of hF, rfl⟩, _, rfl, by omega, by omega, fun D hD => ?_⟩
      have hDF : D ≠ F := fun z => by
        rw [z, hF] at hD
        cases hD
      have hDb := s9.1.ne hD
      have lw9 := s9.tl sb5.1
      refine lc_range (lo := 0) (n := ((us.length : Nat) : Int).toNat) (fun i H' => ∃ vs xs acc ys, H' F = some (.lst vs) ∧ Els TileAt H' vs xs ∧ H' D = some (.lst acc) ∧ Els TileAt H' acc ys ∧ acc.length = i ∧ vs.length + i = us.length ∧ ts.Perm (ys ++ xs) ∧ Bag H' b ∧ ∀ a o, a ≠ b → a ≠ F → H9 a = some o → H' a = some o)
        ⟨us, ts, [], [], by rw [upd_ne (fun z => hDF z.symm)]; exact hF, hE.mono (fun v x h => (TL.new hD).tile h), upd_same, .nil, rfl, rfl, .refl _, (SB.new s9.1 hD).1, fun a o _ _ e => same_new hD _ _ e⟩ (fun i H10 hi ⟨vs, xs, acc, ys, gF, gE, gD, gA, ga, gl, gp, gB, gs⟩ => ?_) (fun H10 ⟨vs, xs, acc, ys, gF, gE, gD, gA, ga, gl, gp, gB, gs⟩ => ?_)
      · refine ⟨rfl, ?_⟩
        have lv := gE.1
        refine ⟨_, rfl, .inl ⟨rfl, _, SqL.of gF⟩, _, rfl, _, rfl, _, _, rfl, .inl ⟨_, SqL.of gF, rfl⟩, ?_⟩
        refine ⟨b, (vs.length : Int), rfl, gB, by omega, by omega, fun y H11 y0 y1 s11 => ?_⟩
        obtain ⟨k, vt, hk, q1, q2, q3, q4⟩ := pick_at (xs := vs) y0 y1
        have gF11 := s11.2 F _ hFb gF
        have gD11 := s11.2 D _ hDb gD
        refine ⟨F, vs, y, k, vt, rfl, rfl, gF11, q1, q2 (by omega), q3, q4, ?_⟩
        obtain ⟨t, et, kt⟩ := gE.2 k vt q4
        have lp : TL H11 (upd H11 F (.lst (vs.eraseIdx k))) := TL.put gF11
        have gD12 : (upd H11 F (.lst (vs.eraseIdx k))) D = some (.lst acc) := by
          rw [upd_ne hDF]
          exact gD11
        have lp2 : TL _ (upd (upd H11 F (.lst (vs.eraseIdx k))) D (.lst (acc ++ [vt]))) := TL.put gD12
        have lz := (TL.trans (s11.tl gB) lp).trans lp2
        refine ⟨acc, gD12, by have := sizeLine_eq; omega, vs.eraseIdx k, xs.eraseIdx k, acc ++ [vt], ys ++ [t], ?_, (gE.erase hk).mono (fun v x h => lz.tile h), upd_same, (gA.mono fun v x h => lz.tile h).snoc (lz.tile kt), by rw [List.length_append, ga, List.length_singleton], ?_, ?_, ?_, ?_⟩
        · rw [upd_ne (fun z => hDF z.symm), upd_same]
        · rw [List.length_eraseIdx_of_lt hk]
          omega
        · refine gp.trans ?_
          rw [List.append_assoc]
          exact (Mf.erase_perm et).append_left ys
        · obtain ⟨g, m, hb, z⟩ := s11.1
          exact ⟨g, m, by rw [upd_ne (fun z => hDb z.symm), upd_ne (fun z => hFb z.symm)]; exact hb, z⟩
        · intro a o n1 n2 e
          rw [upd_ne (ne_of_none e hD), upd_ne n2]
          exact s11.2 a o n1 (gs a o n1 n2 e)
      · have lv := gE.1
        have vs0 : xs = [] := List.eq_nil_of_length_eq_zero (by omega)
        subst vs0
        rw [List.append_nil] at gp
        have l910 : TL H9 H10 := fun a us e => by
          obtain ⟨zs, hb⟩ := s9.1.tl
          exact gs a _ (ne_of e hb (by intro z; cases z)) (ne_of e hF (by intro z; cases z)) e
        refine ⟨D, acc, rfl, .inl ⟨SqL.of gD, fun pt npt => ?_⟩⟩
        have l11 : TL H10 _ := TL.new (o := .tup acc) npt
        refine ⟨by show 3 ≤ sizeLine; decide, fun pz npz => ?_⟩
        have l12 : TL (upd H10 pt (.tup acc)) _ := TL.new (o := .tup [vw, vh, .ref pt]) npz
        have lz := (lw9.trans l910).trans (l11.trans l12)
        have pl := gp.length_eq
        refine q _ W Hh ys _ ?_ (layAt_of hd (hL.perm gp) (hS.perm gp) (by omega) (by omega) (by omega) (by omega) upd_same (lz.nuH kw3) (lz.nuH kh3) ⟨acc, l12 _ _ upd_same, gA.mono fun v x h => (l11.trans l12).tile h⟩)
        refine ⟨((SB.new gB npt).trans (SB.new (SB.new gB npt).1 npz)).1, fun a o n1 e => ?_⟩
        have e5 := sb5.2 a o n1 e
        have e9 := s9.2 a o n1 e5
        have e10 := gs a o n1 (ne_of_none e5 nF) e9
        exact same_new npz _ _ (same_new npt _ _ e10)
end
end MfW
namespace MfW
open PySem PySem.Spec PyProof.Rows L2
section
variable {X : Cx} {k j : Nat} {x : Str} {sp : Sp} {p pos : Pos} {e : Expr} {es : List Expr} {t : TA}
/-- a call of a def that may raise, where it does not -/
theorem pe_cX (c : CalX X.prog X.w X.K X.mg X.base k x sp) (hr : Room j X.A) (hk : k ≤ j) (hg : Gl X x) (ha : PA X (e :: es) t)
    (hdb : (x == ("__debug__" : Str)) = false := by decide) (he : starEach (e :: es) X.env = (false, eval e X.env) :: starEach es X.env := by rfl) (hpl : (backTo pos (starEach es X.env)).any (·.1) = false := by rfl) :
    PE X (.Call (.Name x p) (e :: es) [] pos) (tCall sp [] C8.E0 t) := by
  obtain ⟨f, fd, ps, F, hm, kp, b⟩ := c.ex
  exact pe_call F (hr.mono hk) hg hm kp b .nil (fun _ _ _ _ _ _ _ z => by
    obtain ⟨_, _, _, _, _, _, _, _, _, _, _, _, z⟩ := z
    exact z.elim) ha hdb he hpl
end
theorem d3s_lay (xs : List Mf.N3) : PyData.canLayAll0 (xs.map d3) = true ∧ PyData.depthAll (xs.map d3) ≤ 1 ∧ PyData.eqvAll (xs.map d3) (xs.map d3) = true := by
  induction xs with
  | nil => exact ⟨rfl, Nat.zero_le _, rfl⟩
  | cons x xs ih =>
    obtain ⟨a, b, c⟩ := ih
    have h1 : PyData.canLay0 (d3 x) = true := rfl
    have h2 : PyData.depth (d3 x) = 1 := rfl
    refine ⟨?_, ?_, ?_⟩
    · show (PyData.canLay0 (d3 x) && PyData.canLayAll0 (xs.map d3)) = true
      rw [h1, a]
      rfl
    · show max (PyData.depth (d3 x)) (PyData.depthAll (xs.map d3)) ≤ 1
      omega
    · show (PyData.eqv (d3 x) (d3 x) && PyData.eqvAll (xs.map d3) (xs.map d3)) = true
      rw [c, d3_eqv, decide_eq_true rfl]
      rfl
theorem d3s_shaped (xs : List Mf.N3) : SeqAt.shaped (.list (xs.map d3)) = true := by
  obtain ⟨a, b, c⟩ := d3s_lay xs
  unfold SeqAt.shaped
  have h1 : PyData.canLay0 (.list (xs.map d3)) = true := a
  have h2 : PyData.depth (.list (xs.map d3)) ≤ 64 := by
    show PyData.depthAll (xs.map d3) + 1 ≤ 64
    omega
  rw [h1, decide_eq_true h2]
  rfl
theorem d3s_eqv (xs : List Mf.N3) : PyData.eqv (.list (xs.map d3)) (.list (xs.map d3)) = true := (d3s_lay xs).2.2
theorem dp_all {K : PySem.W.Frag} {H : Hp} : ∀ {us : List V} {xs : List Mf.N3}, Els NuH H us xs → DpAll K H us (xs.map d3)
  | [], [], _ => .nil
  | [], x :: xs, h => by have := h.1; simp at this
  | u :: us, [], h => by have := h.1; simp at this
  | u :: us, x :: xs, h => by
    obtain ⟨y, e, q⟩ := h.2 0 u rfl
    cases e
    refine .cons q.nu.dp (dp_all ⟨by have := h.1; simpa using this, fun i v e => ?_⟩)
    exact h.2 (i + 1) v e
theorem dp_list {K : PySem.W.Frag} {H : Hp} {p : Addr} {us : List V} {xs : List Mf.N3} (hp : H p = some (.lst us)) (h : Els NuH H us xs) : Dp K H (.ref p) (.list (xs.map d3)) := .lst (SqL.of hp) (dp_all h)
section
variable {P : Program} {w : World} {K : PySem.W.Frag} {mg : Str → Option Value} {base : Heap}
abbrev N__law_is_told : List Str := ["_law_d", "_law_weights", "_law_laying_here", "_law_told", "_law_whole", "_law_parts", "_law_due", "_law_x", "_law_y", "_law_w", "_law_h", "_law_come", "_law_part"]
theorem sc__law_is_told : FnScope N__law_is_told ["_law_d", "_law_weights", "_law_laying_here"] (defScope (top 65)) := ⟨rfl, rfl, rfl, by decide +kernel, rfl, by decide +kernel, by decide +kernel⟩

def spTold : Sp := fun vs H Q _ => ∃ (r : Mf.Rt) (vw : V) (z : Mf.Wt) (v : V) (W Hh : Mf.N3) (ts : List Mf.T4), vs = [.int r.d, vw, v] ∧ RtOk r ∧ WtsAt H vw z ∧ z.ok ∧ LayAt r H v W Hh ts ∧ ∀ H', Same H H' → Q (.bl true) H'
theorem ok_told {CN : Addr} (T : Txt K mg) (D : Df K mg "_law_is_told" 65) (c_weighed_sums : CalX P w K mg base 10 "weighed_sums" (spSums CN)) (c_law_weigh : C8.Cal P w K mg base 4 "_law_weigh" (spWeighed K) []) (c_law_is_number : C8.Cal P w K mg base 2 "_law_is_number" spNumber []) (c_law_plus : C8.Cal P w K mg base 3 "_law_plus" (spPlus K) []) : C8.Cal P w K mg base 11 "_law_is_told" spTold [] := by
  refine mk_cal D sc__law_is_told (fun vs H Q E h => ?_) (fun _ _ _ _ _ _ us hl => match us, hl with | [_, _, _], _ => rfl) (fun cdv A outer s f H vs Q E hr h => ?_)
  · obtain ⟨r, vw, z, v, W, Hh, ts, rfl, _⟩ := h
    rfl
  · obtain ⟨r, vw, z, v, W, Hh, ts, rfl, hd, hw, hz, hL, q⟩ := h
    refine ⟨_, (pss_cons (ps_set (i := 3) sc__law_is_told.nd rfl (Or.inl rfl) (pe_cX c_weighed_sums hr (by decide) (by rfl) (pa_cons (pv 0) (pa_cons (pv 1) (pa_cons (pv 2) pa_nil)))))
      (pss_cons (ps_if (PW.pt (pw_or (pt_not (pt_val (pe_callB call_isi (by rfl) T.isi (by decide +kernel) (pa_cons (pv 3) (pa_cons (pe_bltn (v := .ty "tuple") (by rfl) T.tuple (by decide +kernel) rfl) pa_nil))))) (pw_or (pt_cmpR op_ne (pe_callB call_len (by rfl) T.len (by decide +kernel) (pa_cons (pv 3) pa_nil)) pe_int (nomark _)) (pw_or1 (pt_not (pt_val (pe_callB call_isi (by rfl) T.isi (by decide +kernel) (pa_cons (pe_ix ix_tup (pv 3) pe_int (fun _ _ => rfl)) (pa_cons (pe_bltn (v := .ty "list") (by rfl) T.list (by decide +kernel) rfl) pa_nil))))))))) (pss_one (ps_ret pe_bl)) pss_nil)
      (C8.pss_cut (ps_asg (pv 3) (pg_tup rfl (pgs_cons (pg_name (i := 4) sc__law_is_told.nd rfl (Or.inl rfl)) (pgs_cons (pg_name (i := 5) sc__law_is_told.nd rfl (Or.inl rfl)) pgs_nil))))
      (pss_cons (ps_setLc (i := 6) (own := [("_law_x", 7), ("_law_y", 8), ("_law_w", 9), ("_law_h", 10)]) (g := gTup K 4 (gCons (gName 7) (gCons (gName 8) (gCons (gName 9) (gCons (gName 10) gNil))))) (te := tCall (spWeighed K) [] C8.E0 (tCons (tVar 0) (tCons (tVar 1) (tCons (tVar 9) (tCons (tVar 10) tNil))))) (by rfl) sc__law_is_told.nd rfl rfl (sw_true rfl rfl rfl (by decide +kernel)) (pi_tup (pe_ix ix_tup (pv 2) pe_int (fun _ _ => rfl))) (blkOk_by (own := [("_law_x", 7), ("_law_y", 8), ("_law_w", 9), ("_law_h", 10)]) (N := N__law_is_told) (sc := defScope (top 65)) (by decide +kernel)) (fun _ _ _ _ _ => (by exact (pg_tup rfl (pgs_cons (pg_name (i := 7) sc__law_is_told.nd rfl (Or.inl rfl)) (pgs_cons (pg_name (i := 8) sc__law_is_told.nd rfl (Or.inl rfl)) (pgs_cons (pg_name (i := 9) sc__law_is_told.nd rfl (Or.inl rfl)) (pgs_cons (pg_name (i := 10) sc__law_is_told.nd rfl (Or.inl rfl)) pgs_nil))))))) (fun _ _ _ _ _ => pts_nil) (fun _ _ _ _ _ => (C8.pe_c c_law_weigh hr (by decide) (by rfl) (pa_cons (pv 0) (pa_cons (pv 1) (pa_cons (pv 9) (pa_cons (pv 10) pa_nil)))))))
      (pss_cons (ps_if (PW.pt (pw_or (pt_cmpR (op_neD hr.units) (pv 5) (pv 6) (nomark _)) (pw_or1 (pt_not (pt_val (C8.pe_c c_law_is_number hr (by decide) (by rfl) (pa_cons (pv 4) pa_nil))))))) (pss_one (ps_ret pe_bl)) pss_nil)
      (pss_cons (ps_set (i := 11) sc__law_is_told.nd rfl (Or.inl rfl) (pe_tup (pa_cons pe_int (pa_cons pe_int (pa_cons pe_int pa_nil)))))
      (pss_cons (ps_for PassesOwn.never rfl (pi_list (pv 5)) (pg_name (i := 12) sc__law_is_told.nd rfl (Or.inl rfl))
      (pss_one (ps_set (i := 11) sc__law_is_told.nd rfl (Or.inl rfl) (C8.pe_c c_law_plus hr (by decide) (by rfl) (pa_cons (pv 11) (pa_cons (pv 12) pa_nil))))))
      (pss_one (ps_ret (pe_and (pe_cmpR (op_eqD hr.units) (pv 4) (pv 11) (nomark _)) (pe_one (pe_cmpR (op_eqD hr.units) (pv 4) (C8.pe_c c_law_weigh hr (by decide) (by rfl) (pa_cons (pv 0) (pa_cons (pv 1) (pa_cons (pe_ix ix_tup (pv 2) pe_int (fun _ _ => rfl)) (pa_cons (pe_ix ix_tup (pv 2) pe_int (fun _ _ => rfl)) pa_nil))))) (nomark _))))))))))))), ?_⟩
    have hg := hL.good
    obtain ⟨e, m, hS, he, hm⟩ := hL.sz
    have G := Mf.wgOk_of hz hd.le hL.lay hS (by omega) (by omega) (by have := hg.n2; omega)
    have F := hg.fit
    have sl : sizeLine = 16777216 := sizeLine_eq
    refine ⟨_, rfl, _, rfl, _, rfl, r, vw, z, v, rfl, hd, hw, hz, .inl ⟨W, Hh, ts, hg, fun H1 p vF D us s1 _ hp nF hD hE => ?_⟩⟩
    refine ⟨_, rfl, _, _, .type "tuple", .type "tuple", true, rfl, .ty _, .base (.tup hp), kit_ty (by decide +kernel), _, rfl, iteF ?_⟩
    refine ⟨_, rfl, _, 2, rfl, .inr ⟨_, SqT.of hp, rfl⟩, rfl, _, rfl, iteNS rfl ?_⟩
    refine ⟨_, rfl, p, _, 1, _, rfl, rfl, SqT.of hp, atI_nat (j := 1) rfl, _, _, .type "list", .type "list", true, rfl, .ty _, .base (.lst hD), kit_ty (by decide +kernel), _, rfl, iteF ?_⟩
    refine ⟨fun σ H2 => σ = [some (.int r.d), some vw, some v, some (.ref p), some vF, some (.ref D), none, none, none, none, none, none, none] ∧ H2 = H1, ⟨_, rfl, p, _, rfl, SqT.of hp, rfl, _, _, rfl, _, _, rfl, rfl, rfl, rfl⟩, ?_⟩
    rintro σ H2 ⟨rfl, e2⟩
    subst e2
    -- what is due
    obtain ⟨⟨a, ⟨⟨pl, v1, v2, rfl, h0, hW, hH⟩, _⟩, ⟨ws, hu, hT⟩⟩, n1, n2, _, _, _⟩ := hg
    have l1 : TL H H2 := .of s1
    refine ⟨_, rfl, pl, _, 2, _, rfl, rfl, SqT.of (l1 _ _ h0), atI_nat (j := 2) rfl, a, rfl, ⟨_, SqT.of (l1 _ _ hu)⟩, fun D2 hD2 => ?_⟩
    refine lc_tupM (xs := ws) (fun i v H => ∃ x, (ts.map fun t => Mf.wgT r.d z t.w t.h)[i]? = some x ∧ NuH H v x) (fun i v H H' l ⟨x, e, h⟩ => ⟨x, e, l.nuH h⟩) hD2 (.inl (s1 _ _ hu)) (by rw [hT.1]; omega) (fun i y H3 N hy sm k => ?_) (fun H3 s3 m3 => ?_)
    · obtain ⟨t, et, p1, u1, u2, u3, u4, rfl, t0, t1, t2, t3, t4⟩ := hT.2 i y hy
      have mt := List.mem_of_getElem? et
      have l3 : TL H H3 := .of (s1.trans sm)
      obtain ⟨_, _, z3, z4⟩ := F.sm t mt
      refine ⟨p1, _, rfl, SqT.of (l3 _ _ t0), rfl, _, _, rfl, _, _, rfl, _, _, rfl, _, _, rfl, rfl, rfl, ?_⟩
      refine ⟨_, rfl, _, rfl, _, rfl, _, rfl, r.d, vw, u3, u4, z, t.w, t.h, rfl, hd.d5, l3.wts hw, hz, l3.nuH t3, l3.nuH t4, z3, z4, fun H4 v4 s4 n4 => ?_⟩
      exact k _ _ s4 ⟨_, by rw [List.getElem?_map, et]; rfl, n4⟩
    · obtain ⟨acc, h1, h2⟩ := m3.els (by rw [List.length_map, hT.1])
      have l3 : TL H2 H3 := .of s3
      have nF3 := l3.nuH nF
      have hD3 := s3 _ _ hD
      have hE3 : Els NuH H3 us (ts.map fun t => Mf.wgT r.d z t.w t.h) := hE.mono fun v x h => l3.nuH h
      refine ⟨_, rfl, _, rfl, _, _, dp_list hD3 hE3, dp_list h1 h2, d3s_shaped _, d3s_shaped _, _, rfl, ?_⟩
      rw [d3s_eqv]
      refine iteF ?_
      refine ⟨_, rfl, vF, _, rfl, nF3, G.nmW, fun H4 s4 => ⟨_, rfl, iteF ?_⟩⟩
      refine ⟨by show 3 ≤ sizeLine; decide, fun pn npn => ?_⟩
      have s5 := s4.trans (same_new (o := .tup [V.int 0, .int 0, .int 1]) npn)
      have hD5 := s5 _ _ hD3
      have hlen : us.length = ts.length := by rw [hE.1, List.length_map]
      refine ⟨_, rfl, D, rfl, ⟨_, SqL.of hD5⟩, for_list (K := K) (a := D) (xs := us) (fun i σ H' => ∃ vc o12, σ = [some (.int r.d), some vw, some (.ref pl), some (.ref p), some vF, some (.ref D), some (.ref D2), none, none, none, none, some vc, o12] ∧ Same H3 H' ∧ NuH H' vc (Mf.foldN ((ts.map fun t => Mf.wgT r.d z t.w t.h).take i)))
        ⟨.ref pn, none, rfl, s5, nuh_of upd_same rfl⟩ (fun i σ H' _ ⟨_, _, _, s6, _⟩ => SqL.of (s6 _ _ hD3)) ?_ ?_⟩
      · rintro i u σ H' hi ⟨vc, o12, rfl, s6, kc⟩
        obtain ⟨x, ex, kx⟩ := hE3.2 i u hi
        have l6 : TL H3 H' := .of s6
        have hi1 := (List.getElem?_eq_some_iff.mp hi).1
        obtain ⟨t, et, rfl⟩ : ∃ t ∈ ts, Mf.wgT r.d z t.w t.h = x := List.mem_map.mp (List.mem_of_getElem? ex)
        refine ⟨_, rfl, _, rfl, vc, u, _, _, rfl, kc.nu, (l6.nuH kx).nu, sm_mono (G.smf i (by omega)) (by decide), sm_mono (G.sm t et) (by decide), fun H7 v7 s7 n7 => ?_⟩
        refine ⟨v7, _, rfl, s6.trans s7, ?_⟩
        rw [List.take_add_one, ex, Option.toList_some, Mf.foldl_app]
        exact n7
      · rintro σ H' ⟨vc, o12, rfl, s6, kc⟩
        have e1 : (ts.map fun t => Mf.wgT r.d z t.w t.h).take us.length = ts.map fun t => Mf.wgT r.d z t.w t.h := by
          rw [hE.1, List.take_length]
        rw [e1, G.eq] at kc
        have l6 : TL H3 H' := .of s6
        refine ⟨_, rfl, _, rfl, _, _, (l6.nuH nF3).nu.dp, kc.nu.dp, d3_shaped _, d3_shaped _, ?_⟩
        rw [d3_eqv, decide_eq_true rfl]
        have l06 := (l1.trans l3).trans l6
        refine ⟨_, rfl, iteT ?_⟩
        refine ⟨_, rfl, _, rfl, _, rfl, _, rfl, pl, _, 0, _, rfl, rfl, SqT.of (l06 _ _ h0), atI_nat (j := 0) rfl, _, rfl, pl, _, 1, _, rfl, rfl, SqT.of (l06 _ _ h0), atI_nat (j := 1) rfl, r.d, vw, v1, v2, z, W, Hh, rfl, hd.d5, l06.wts hw, hz, l06.nuH hW, l06.nuH hH, F.sW, F.sH, fun H8 v8 s8 n8 => ?_⟩
        refine ⟨_, _, (TL.nuH (.of s8) (l6.nuH nF3)).nu.dp, n8.nu.dp, d3_shaped _, d3_shaped _, ?_⟩
        rw [d3_eqv, decide_eq_true rfl]
        exact q _ (s1.trans (s3.trans (s6.trans s8)))
end
end MfW
/-! walks and unpacking while an exception is handled -/
namespace Hotter
open PySem PySem.Spec PyProof.Rows HotX
section
variable {pr : Program} {ww : World} {Ar : Around} {Ex : Value → Shared → Prop} {st : Shared}
theorem list_end_hot {it l x1 : Addr} {k : Nat} {xs : List Value} {Q : Option Value → Shared → Prop} (hot : HotAt Ar x1 st.heap) (ne : x1 ≠ it) (hit : st.heap.IsListIter it l k) (hl : st.heap.IsList l xs.toArray) (hx : xs.length ≤ k)
    (hQ : ∀ h', Heap.ExtBut it st.heap h' → Q none { st with heap := h' }) : wpAny (model pr ww) Ar (pyNext (.ref it)) Q Ex st := by
  obtain ⟨hh, o1, v1, g1, d1, c1⟩ := hot
  obtain ⟨ob, ho, hc, hd⟩ := id hit
  obtain ⟨ol, hol, _, nl, hdl⟩ := hl
  have hnone : xs.toArray[k]? = none := by simp; omega
  unfold pyNext
  refine wpAny_bind (wpAny_attempt (wpAny_callSpecial?_slot (name := Str.ofString "__next__") hit.typeIs slot_listiter_next (wpAny_call_entry slot_listiter_next hit.typeIs entry_listiter_next ?_ (args_listiter_next _))))
  show wpAny _ _ (field (.ref it) 0 >>= _) _ _ st
  refine wpAny_bind (wpAny_field ho hd (x := .ref l) rfl ?_)
  show wpAny _ _ (if (Value.ref l == Value.none) = true then _ else _) _ _ st
  rw [if_neg (show ¬ ((Value.ref l == Value.none) = true) from Bool.false_ne_true)]
  show wpAny _ _ (field (.ref it) 1 >>= _) _ _ st
  refine wpAny_bind (wpAny_field ho hd (x := .int k 0) rfl ?_)
  show wpAny _ _ (seqItems? (.ref l) >>= _) _ _ st
  refine wpAny_bind (wpAny_seqItems hol hdl ?_)
  simp only [Int.toNat_natCast, hnone]
  refine wpAny_bind (wpAny_rule (wpAny_bind (wpAny_setField ho hd (by simp) ?_)))
  have g2 := (Heap.get?_update_other st.heap (Obj.mapFields (·.setIfInBounds 0 Value.none)) (Ne.symm ne)).trans g1
  show wpAny _ _ (newExc (.type "StopIteration") [] >>= _) _ _ _
  refine wpAny_bind ?_
  simp only [newExc, newTuple]
  refine wpAny_bind (wpAny_newObj_type ?_ (by size_fits))
  refine wpAny_bind (m := firstArgMember _ _) (wpAny_of_eq (a := Value.none) (by first | rfl | (simp only [firstArgMember]; rfl)) ?_)
  refine wpAny_newObj_type ?_ (by size_fits)
  refine raiseNew_hot ⟨hh, o1, v1, Heap.get?_push_of_some _ (Heap.get?_push_of_some _ g2), d1, c1⟩ (Nat.ne_of_lt (Heap.lt_size (Heap.get?_push_of_some _ g2))) (Heap.get?_push_size _ rfl) rfl (by first | (simp; done) | (simp; omega) | (simp only [Array.size_append]; simp; omega)) ?_
  refine wpAny_bind (wpAny_isInstance (T := "StopIteration") (b := true) ⟨_, Heap.get?_update_self _ (Heap.get?_push_size _ rfl) rfl, rfl⟩ isSubtype_stop ?_)
  refine wpAny_pure (hQ _ fun b ob' nb eb => ?_)
  have e2 := (Heap.get?_update_other st.heap (Obj.mapFields (·.setIfInBounds 0 Value.none)) (Ne.symm nb)).trans eb
  rw [Heap.get?_update_other _ _ (Nat.ne_of_gt (Heap.lt_size (Heap.get?_push_of_some _ e2)))]
  exact Heap.get?_push_of_some _ (Heap.get?_push_of_some _ e2)
theorem tup_end_hot {it t x1 : Addr} {k : Nat} {items : Array Value} {Q : Option Value → Shared → Prop} (hot : HotAt Ar x1 st.heap) (ne : x1 ≠ it) (hit : IsTupIter st.heap it t k) (ht : IsTup st.heap t items) (hx : items[k]? = none)
    (hQ : ∀ h', Heap.ExtBut it st.heap h' → Q none { st with heap := h' }) : wpAny (model pr ww) Ar (pyNext (.ref it)) Q Ex st := by
  obtain ⟨hh, o1, v1, g1, d1, c1⟩ := hot
  obtain ⟨ob, ho, hc, hd⟩ := id hit
  obtain ⟨ol, hol, _, nl, hdl⟩ := ht
  unfold pyNext
  refine wpAny_bind (wpAny_attempt (wpAny_callSpecial?_slot (name := Str.ofString "__next__") hit.typeIs slot_tupleiter_next (wpAny_call_entry slot_tupleiter_next hit.typeIs entry_tupleiter_next ?_ (args_tupleiter_next _))))
  show wpAny _ _ (field (.ref it) 0 >>= _) _ _ st
  refine wpAny_bind (wpAny_field ho hd (x := .ref t) rfl ?_)
  show wpAny _ _ (if (Value.ref t == Value.none) = true then _ else _) _ _ st
  rw [if_neg (show ¬ ((Value.ref t == Value.none) = true) from Bool.false_ne_true)]
  show wpAny _ _ (field (.ref it) 1 >>= _) _ _ st
  refine wpAny_bind (wpAny_field ho hd (x := .int k 0) rfl ?_)
  show wpAny _ _ (seqItems? (.ref t) >>= _) _ _ st
  refine wpAny_bind (wpAny_seqItems hol hdl ?_)
  simp only [Int.toNat_natCast, hx]
  refine wpAny_bind (wpAny_rule (wpAny_bind (wpAny_setField ho hd (by simp) ?_)))
  have g2 := (Heap.get?_update_other st.heap (Obj.mapFields (·.setIfInBounds 0 Value.none)) (Ne.symm ne)).trans g1
  show wpAny _ _ (newExc (.type "StopIteration") [] >>= _) _ _ _
  refine wpAny_bind ?_
  simp only [newExc, newTuple]
  refine wpAny_bind (wpAny_newObj_type ?_ (by size_fits))
  refine wpAny_bind (m := firstArgMember _ _) (wpAny_of_eq (a := Value.none) (by first | rfl | (simp only [firstArgMember]; rfl)) ?_)
  refine wpAny_newObj_type ?_ (by size_fits)
  refine raiseNew_hot ⟨hh, o1, v1, Heap.get?_push_of_some _ (Heap.get?_push_of_some _ g2), d1, c1⟩ (Nat.ne_of_lt (Heap.lt_size (Heap.get?_push_of_some _ g2))) (Heap.get?_push_size _ rfl) rfl (by first | (simp; done) | (simp; omega) | (simp only [Array.size_append]; simp; omega)) ?_
  refine wpAny_bind (wpAny_isInstance (T := "StopIteration") (b := true) ⟨_, Heap.get?_update_self _ (Heap.get?_push_size _ rfl) rfl, rfl⟩ isSubtype_stop ?_)
  refine wpAny_pure (hQ _ fun b ob' nb eb => ?_)
  have e2 := (Heap.get?_update_other st.heap (Obj.mapFields (·.setIfInBounds 0 Value.none)) (Ne.symm nb)).trans eb
  rw [Heap.get?_update_other _ _ (Nat.ne_of_gt (Heap.lt_size (Heap.get?_push_of_some _ e2)))]
  exact Heap.get?_push_of_some _ (Heap.get?_push_of_some _ e2)
theorem unpack_hot {t x1 : Addr} {items : Array Value} {Q : List Value → Shared → Prop} (hot : HotAt Ar x1 st.heap) (ht : IsTup st.heap t items) (hQ : ∀ h', Heap.ExtBut st.heap.objs.size st.heap h' → Q items.toList { st with heap := h' }) :
    wpAny (model pr ww) Ar (unpackItems (.ref t) items.size none) Q Ex st := by
  obtain ⟨hh, o1, v1, g1, d1, c1⟩ := hot
  have lt : t ≠ st.heap.objs.size := by
    obtain ⟨z, hz, _⟩ := ht
    exact Nat.ne_of_lt (Heap.lt_size hz)
  have lx : x1 ≠ st.heap.objs.size := Nat.ne_of_lt (Heap.lt_size g1)
  unfold unpackItems
  refine wpAny_bind ?_
  unfold notIterableAtAll
  refine wpAny_bind (wpAny_specialOf ht.typeIs slot_tuple_iter.lookup (wpAny_pure ?_))
  simp only [Bool.false_eq_true, if_false]
  refine wpAny_bind (wpAny_holding (iter_tuple ht ?_))
  refine wpAny_bind (wpAny_holding (draw_tuple lt items.size 0 _ _ ⟨_, Heap.get?_push_size _ rfl, rfl, rfl⟩ (ht.push _) (by omega) fun ha hita hsa => ?_))
  rw [show List.take items.size (List.drop 0 items.toList) = items.toList by rw [List.drop_zero]; exact List.take_of_length_le (by simp), if_neg (by simp)]
  have hta : IsTup ha t items := (ht.push _).extBut hsa.extBut lt
  refine wpAny_bind (wpAny_holding (tup_end_hot ⟨hh, o1, v1, (hsa.2 x1 lx).trans (Heap.get?_push_of_some _ g1), d1, c1⟩ lx hita hta (by simp) fun hb heb => ?_))
  simp only [Option.isSome_none, Bool.false_eq_true, if_false]
  exact wpAny_pure (hQ hb fun c oc nc ec => heb c oc nc (hsa.extBut c oc nc (Heap.get?_push_of_some _ ec)))
theorem assign_tup_hot {env : Env} {elts : List Expr} {kx} {pos : Pos} {t x1 : Addr} {items : Array Value} {Q : Unit → Shared → Prop} (hot : HotAt Ar x1 st.heap) (ht : IsTup st.heap t items) (hn : (assignEach elts env).length = items.size) (hst : (assignEach elts env).findIdx? (·.1) = none)
    (h : ∀ h', Heap.ExtBut st.heap.objs.size st.heap h' → wpAny (model pr ww) Ar (assignInOrder ((assignEach elts env).map (·.2)) items.toList) Q Ex { st with heap := h' }) : wpAny (model pr ww) Ar (assign (.Tuple elts kx pos) env (.ref t)) Q Ex st := by
  rw [assign_Tuple]
  refine wpAny_bind (wpAny_standAt ?_)
  unfold unpack
  rw [hn, hst]
  exact wpAny_bind (wpAny_holding (unpack_hot hot ht h))
end
end Hotter
/-! a list comprehension within an except suite -/
namespace Hotter
open PySem PySem.Spec PyProof.Rows L2 HotX L2H
section
variable {X : Cx} {tg : Expr} {pos : Pos}
theorem pg_tup_hot {es : List Expr} {kx : Nat} {t : TGs} {n : Nat} (hot : HotC X) (h : PGs X es t) (hn : (assignEach es X.env).length = n := by rfl) (hst : (assignEach es X.env).findIdx? (·.1) = none := by rfl) : PG X (.Tuple es kx pos) (gTup X.K n t) := by
  refine ⟨fun pp st sg Hh v u Q J r hw => ?_⟩
  obtain ⟨a, xs, rfl, hq, hl, hw⟩ := hw
  cases r
  obtain ⟨its, rv, ht, hz⟩ := J.tuple hq
  obtain ⟨x1, hx⟩ := hot.at J
  refine assign_tup_hot hx ht (by simp [hn, ← hl, rv.length]) hst fun h2 hx2 => ?_
  have J2 : Inv X pp sg Hh { st with heap := h2 } := J.kept (t' := st.toks) fun b o e => hx2 b o (Nat.ne_of_lt (Heap.lt_size e)) e
  exact h.run pp _ sg Hh xs _ Q J2 (by simpa using rv) hw
/-- the list's iterator, walked where an exception is handled; p0 is that exception's object -/
structure TurnL (P : Program) (w : World) (K : PySem.W.Frag) (tg : Expr) (J : It) (it : Addr) (tn : Nat → Heap → Prop) : Prop where
  obj : ∀ i h, tn i h → ∃ o, h.get? it = some o ∧ ∀ v, o.data ≠ .cell v
  keep : ∀ i h h2, tn i h → (∀ o, h.get? it = some o → h2.get? it = some o) → tn i h2
  item : ∀ (X : Cx), X.prog = P → X.w = w → X.K = K → ∀ (i : Nat) (pp : List (Addr × Obj)) (st : Shared) (sg : L2.St) (H : Hp) (E : Value → Shared → Prop), Inv X pp sg H st → FpOk X pp H it → tn i st.heap → J.go i H →
    wpAny (model P w) X.A (pyNext (.ref it)) (fun r s1 => ∃ u, r = some u ∧ wpAny (model P w) X.A (letOwnedTupleGo tg (.ref it) u) (fun _ s2 => ∃ x H2, Inv X pp sg H2 s2 ∧ RelV x u ∧ J.yld i H x H2 ∧ tn (i + 1) s2.heap ∧ H2 it = none) E s1) E st
  done : ∀ (X : Cx), X.prog = P → X.w = w → X.K = K → HotC X → ∀ (i : Nat) (pp : List (Addr × Obj)) (st : Shared) (sg : L2.St) (H : Hp) (E : Value → Shared → Prop), Inv X pp sg H st → FpOk X pp H it → tn i st.heap → J.stop i H →
    wpAny (model P w) X.A (pyNext (.ref it)) (fun r s1 => r = none ∧ Inv X pp sg H s1) E st
  self : ∀ (A : Around) (i : Nat) (st : Shared) (Q : Value → Shared → Prop) (E : Value → Shared → Prop), tn i st.heap → Q (.ref it) st → wpAny (model P w) A (pyIter (.ref it)) Q E st
theorem turn_l {P : Program} {w : World} {K : PySem.W.Frag} (a it : Addr) : TurnL P w K tg (Itl K a) it (fun i h => h.IsListIter it a i) where
  obj := fun i h z => by
    obtain ⟨o, e, c, d⟩ := z
    exact ⟨o, e, fun v y => by rw [d] at y; cases y⟩
  keep := fun i h h2 z k => z.at k
  item := by
    rintro X rfl rfl rfl i pp st sg H E J hf z hg
    obtain ⟨xs, x, hq, hx⟩ := hg
    obtain ⟨its, rv, p, hz⟩ := J.list hq
    obtain ⟨u, hu, ru⟩ := rv.get hx
    obtain ⟨f0, f1, f2, f3, f4, f5⟩ := hf
    refine wpAny_pyNext_list_item z p.isList (x := u) (by simpa using hu) fun h2 z2 sb => ?_
    have J1 : Inv X pp sg H { st with heap := h2 } := J.turned (t' := st.toks) (fun b o hb e => (sb.2 b hb).trans e) f0 f1 f3 f4 f5
    obtain ⟨o, e, c, d⟩ := id z2
    refine ⟨u, rfl, go_of (s := { st with heap := h2 }) e c d (by decide) ⟨x, H, J1, ru, ⟨rfl, fun ys hy => ?_⟩, z2, f0⟩⟩
    rw [J.list_inj hy hq]
    exact hx
  done := by
    rintro X rfl rfl rfl hot i pp st sg H E J hf z hg
    obtain ⟨xs, hq, hx⟩ := hg
    obtain ⟨its, rv, p, hz⟩ := J.list hq
    have hl := rv.length
    obtain ⟨f0, f1, f2, f3, f4, f5⟩ := hf
    obtain ⟨p0, ⟨hh, v1, e1, c1⟩, hp⟩ := hot
    have g0 := (J.pin p0 (List.mem_append_left _ hp)).1
    exact list_end_hot ⟨hh, p0.2, v1, g0, e1, c1⟩ (f5 p0 (List.mem_append_left _ hp)) z p.isList (by omega) fun h2 eb => ⟨rfl, J.turned (t' := st.toks) (fun b o hb e => eb b o hb e) f0 f1 f3 f4 f5⟩
  self := fun _ _ _ _ _ z h => wpAny_pyIter_listiter z h
/-- the block's context, the handled exception's object in sight -/
abbrev hblk (X : Cx) (p0 : Addr × Obj) (st : Shared) (H : Hp) (scope : Scope) (ce : Env) (it : Addr) : Cx := (X.blk st H scope ce [it]).tr [p0] (fun _ _ => False)
/-- name = [elt for target in a list if ..] within an except suite, the name a local -/
theorem ps_setLc_hot {i : Nat} {y : Str} {py : Pos} {elt iter : Expr} {ifs : List Expr} {scope : Scope} {own : List (Str × Nat)} {spos : Pos} {tl : TE} {g : TG} {tt : TT} {te : TE} {p0 : Addr × Obj} (hot : Hot1 X.A p0) (hp0 : p0 ∈ X.pn) (hN : X.N.Nodup) (hy : X.N[i]? = some y) (hyl : X.env.scope.names.lookup y = some .local)
    (hsw : swapsWith (.ListComp elt [⟨tg, iter, ifs, 0⟩] scope pos) (some (.Name y py)) spos.line X.env = pure true) (hi : PE X iter tl) (ok : BlkOk X.N X.env.scope scope own)
    (hg : ∀ (st : Shared) (H : Hp) (C : Addr) (cl : List (Str × Addr)) (it : Addr), PG (hblk X p0 st H scope (compEnvC scope cl C X.env) it) tg g) (ht : ∀ (st : Shared) (H : Hp) (C : Addr) (cl : List (Str × Addr)) (it : Addr), PTs (hblk X p0 st H scope (compEnvC scope cl C X.env) it) ifs tt)
    (he : ∀ (st : Shared) (H : Hp) (C : Addr) (cl : List (Str × Addr)) (it : Addr), PE (hblk X p0 st H scope (compEnvC scope cl C X.env) it) elt te) (hs : ∀ x, foldedSetIterable iter X.env x = pure x := by intro _; rfl) :
    PS X (.Assign [.Name y py] (.ListComp elt [⟨tg, iter, ifs, 0⟩] scope pos) spos) (tAsg (tLc (iList X.K tl) g tt te (own.map (·.2))) (gName i)) := by
  refine ⟨fun pp st sg H D J h => ?_⟩
  rw [exec_Assign_Name_used _ _ _ _ hsw]
  refine wpAny_bind (wpAny_standAt (wpAny_bind ?_))
  show wpAny _ X.A (do let _ ← comprehension (.ListComp elt [⟨tg, iter, ifs, 0⟩] scope pos) scope X.env (firstIterPos [⟨tg, iter, ifs, 0⟩] pos) (newList []) false (eval iter X.env) (some (assign (.Name y py) X.env)); _) _ _ st
  have h : tLc (iList X.K tl) g tt te (own.map (·.2)) sg H (fun x H1 => gName i x sg H1 D.nx) := h
  have hfree : ∀ z ∈ scope.names, z.2 = .free → ∃ c, X.env.cells.lookup z.1 = some c := fun z hz e => (ok.free z hz e).elim (fun k => J.ok.has _ (.inl k)) fun k => J.ok.has _ (.inr k)
  refine wpAny_bind (thn (Q := fun _ s2 => SP X pp D .next s2) ?_ fun _ _ hq => wpAny_pure (wpAny_pure hq))
  refine wpAny_comprehension_free (use := some (assign (.Name y py) X.env)) rfl hs (closure_ok hfree) ok.kind (fun z hz e => by rw [ok.uniq z hz, e]) ?_
  refine thn (hi.run pp st sg H _ J h) fun v t1 ⟨x, H1, J1, r1, a, ea, ⟨xs, hxs⟩, q⟩ => ?_
  subst ea
  cases r1
  obtain ⟨its, rv, pl, hz⟩ := J1.list hxs
  refine wpAny_pyIter_list pl.isList ?_
  generalize hit : t1.heap.objs.size = it
  generalize ht2 : ({ t1 with heap := t1.heap.push { cls := .type "list_iterator", data := .fields #[.ref a, .int 0 0] } } : Shared) = t2
  have hh2 : t2.heap = t1.heap.push { cls := .type "list_iterator", data := .fields #[.ref a, .int 0 0] } := by rw [← ht2]
  have J2 : Inv X pp sg H1 t2 := by
    rw [← ht2]
    exact J1.kept (t' := t1.toks) fun b o e => Heap.get?_push_of_some _ e
  have TL : TurnL X.prog X.w X.K tg (Itl X.K a) it (fun i h => h.IsListIter it a i) := turn_l a it
  have n2 : t2.heap.IsListIter it a 0 := by
    rw [hh2, ← hit]
    exact ⟨_, Heap.get?_push_size _ rfl, rfl, rfl⟩
  have f2 : FpOk X pp H1 it := J1.fpOk (Nat.le_of_eq hit) (J1.hok.fresh (Nat.le_of_eq hit))
  refine wpAny_newObj_type (newEnv_comp ?_) (by show 0 ≤ sizeLine; decide)
  generalize hD : t2.heap.objs.size = L
  have hLn : H1 L = none := J2.hok.fresh (Nat.le_of_eq hD)
  obtain ⟨W, ⟨m0, w0⟩, turn⟩ := q L hLn
  generalize ht3 : ({ t2 with heap := t2.heap.push { cls := .type "list", data := .seq ([] : List Value).toArray } } : Shared) = t3
  have hh3 : t3.heap = t2.heap.push { cls := .type "list", data := .seq ([] : List Value).toArray } := by rw [← ht3]
  have J3 : Inv X pp sg (upd H1 L (.lst [])) t3 := by
    rw [← ht3]
    refine J2.laid (t' := t2.toks) (fun b o e => Heap.get?_push_of_some _ e) (Nat.le_of_eq hD) ⟨Nat.zero_le _, [], 0, .nil, ?_⟩
    rw [← hD]
    exact Heap.get?_push_size _ rfl
  have hlt : it < t2.heap.objs.size := by
    obtain ⟨o, e, _⟩ := TL.obj _ _ n2
    exact Heap.lt_size e
  have f3 : FpOk X pp (upd H1 L (.lst [])) it := ⟨by rw [upd_ne (by rw [← hD]; exact Nat.ne_of_lt hlt)]; exact f2.1, f2.2⟩
  have lt3 : it < t3.heap.objs.size := by rw [hh3, Heap.size_push]; exact Nat.lt_succ_of_lt hlt
  have n3 : t3.heap.IsListIter it a 0 := TL.keep _ _ _ n2 fun o e => by rw [hh3]; exact Heap.get?_push_of_some _ e
  have J4 := block_start (fp := [it]) J3 ok hN fun b hb => by
    rw [List.mem_singleton.mp hb]
    exact ⟨f3, lt3⟩
  have pg := hg t3 (upd H1 L (.lst [])) t3.heap.objs.size (cellsFrom (t3.heap.objs.size + 1) scope.names (cloFrom X.env.cells scope.names [])) it
  have pt := ht t3 (upd H1 L (.lst [])) t3.heap.objs.size (cellsFrom (t3.heap.objs.size + 1) scope.names (cloFrom X.env.cells scope.names [])) it
  have pe := he t3 (upd H1 L (.lst [])) t3.heap.objs.size (cellsFrom (t3.heap.objs.size + 1) scope.names (cloFrom X.env.cells scope.names [])) it
  show codeAny _ _ (.compStart (.ListComp elt [⟨tg, iter, ifs, 0⟩] scope pos) 0 (.ref it) (.ref L) (compEnvC scope (cellsFrom (t3.heap.objs.size + 1) scope.names (cloFrom X.env.cells scope.names [])) t3.heap.objs.size X.env)) (compPost (model X.prog X.w) X.A X.xe (some (assign (.Name y py) X.env)) (fun _ s2 => SP X pp D .next s2) (.ref L) t3.heap.objs.size) { t3 with heap := pushCells (t3.heap.push { cls := .type "dict", data := .dict #[] }) scope.names }
  generalize hce : compEnvC scope (cellsFrom (t3.heap.objs.size + 1) scope.names (cloFrom X.env.cells scope.names [])) t3.heap.objs.size X.env = ce at J4 pg pt pe ⊢
  have cL : ce.locals = t3.heap.objs.size := by subst hce; rfl
  generalize hH3 : upd H1 L (.lst []) = H3 at J3 J4 pg pt pe w0 f3
  generalize ht4 : ({ t3 with heap := pushCells (t3.heap.push { cls := .type "dict", data := .dict #[] }) scope.names } : Shared) = t4 at J4 ⊢
  have kp4 : ∀ b o, t3.heap.get? b = some o → t4.heap.get? b = some o := fun b o e => by rw [← ht4]; exact pushCells_keeps _ _ _ _ (Heap.get?_push_of_some _ e)
  have n4 : t4.heap.IsListIter it a 0 := TL.keep _ _ _ n3 fun o e => kp4 _ _ e
  -- the exception's object is in the block's sight
  obtain ⟨z1, z2, z3, z4, z5⟩ := J3.pin p0 (List.mem_append_left _ hp0)
  have zlt := Heap.lt_size z1
  have zst : p0.1 ∉ frs X.stack := fun hm => by
    rcases J3.ok.stk with e | ⟨e, ef⟩
    · rw [e] at hm
      exact z4 hm
    · rw [e] at hm
      obtain ⟨en, hen, q2⟩ := List.mem_filterMap.mp hm
      rcases List.mem_cons.mp hen with rfl | hen
      · rw [ef] at q2
        exact z3 (Option.some.inj q2).symm
      · exact z4 (List.mem_filterMap.mpr ⟨en, hen, q2⟩)
  have J5 : Inv (hblk X p0 t3 H3 scope ce it) [] (wipe sg (own.map (·.2))) H3 t4 := by
    refine ⟨J4.ok.toTry _ _, J4.os, J4.bare, J4.base, J4.loc, J4.cell, J4.free, J4.freeC, fun p hp => ?_, J4.hok, J4.len⟩
    have ep : p = p0 := List.mem_singleton.mp (by simpa using hp)
    subst ep
    exact ⟨kp4 _ _ z1, z2, by show p.1 ≠ ce.locals; rw [cL]; exact Nat.ne_of_lt zlt, zst, z5⟩
  have hotB : HotC (hblk X p0 t3 H3 scope ce it) := ⟨p0, hot, List.mem_singleton.mpr rfl⟩
  have itp : ∀ p ∈ X.pn ++ pp, p.1 ≠ it := f3.2.2.2.2.2
  have stat : ∀ {sg2 : L2.St} {H2 : Hp} {s2 : Shared}, Inv (hblk X p0 t3 H3 scope ce it) [] sg2 H2 s2 → H2 it = none → FpOk (hblk X p0 t3 H3 scope ce it) [] H2 it := fun {sg2 H2 s2} K2 hn => by
    have me : it ∈ (hblk X p0 t3 H3 scope ce it).ex := List.mem_singleton.mpr rfl
    refine ⟨hn, (K2.ok.exf it me).1, K2.ok.exfs it me, .inl me, fun x c e => (K2.ok.exf it me).2 x c e, fun p hp => ?_⟩
    have ep : p = p0 := List.mem_singleton.mp (by simpa using hp)
    rw [ep]
    exact itp p0 (List.mem_append_left _ hp0)
  have loop : codeAny (model X.prog X.w) X.A (.compLoop (.ListComp elt [⟨tg, iter, ifs, 0⟩] scope pos) 0 (.ref it) (.ref L) ce) (compPost (model X.prog X.w) X.A X.xe (some (assign (.Name y py) X.env)) (fun _ s2 => SP X pp D .next s2) (.ref L) t3.heap.objs.size) t4 := by
    refine compLoop_any (fun n s2 => ∃ i2 H2, Inv (hblk X p0 t3 H3 scope ce it) [] (wipe sg (own.map (·.2))) H2 s2 ∧ s2.heap.IsListIter it a i2 ∧ H2 it = none ∧ W i2 n H2) ?_ m0 ⟨0, H3, J5, n4, f3.1, w0⟩
    rintro n t5 ⟨i5, H5, K5, n5, z5, w5⟩
    rcases turn i5 n H5 w5 with ⟨stop, qq⟩ | ⟨go, Nx, hNx, step⟩
    · refine thnF (TL.done (hblk X p0 t3 H3 scope ce it) rfl rfl rfl hotB i5 [] t5 _ H5 (fun _ _ => False) K5 (stat K5 z5) n5 stop) fun r t6 ⟨hr, K6⟩ => ?_
      subst hr
      have J7 : Inv X pp sg H5 t6 := J3.call' (ch := [it]) K6.os K6.base K6.hok K6.bare fun b hb => by
        rw [List.mem_singleton.mp hb]
        exact ⟨f3.2.2.2.1, f3.2.1, f3.2.2.2.2.1, f3.2.2.2.2.2⟩
      have nC : H5 t3.heap.objs.size = none := by
        have z : H5 ce.locals = none := K6.free
        rw [cL] at z
        exact z
      obtain ⟨m, hn, _⟩ := K6.loc
      have hn : t6.heap.Ns ce.locals m := hn
      rw [cL] at hn
      obtain ⟨f0, f1, f2', f3', f4, f5⟩ := J3.fpOk (Nat.le_refl t3.heap.objs.size) nC
      show wpAny _ _ (assign (.Name y py) X.env (.ref L)) _ _ _
      refine wpAny_assign_Name (store_ok2 (v := V.ref L) J7 hN hy (.inl hyl) rfl (fun t7 J8 ⟨ad, sb, ha⟩ => ?_) (.inr hyl))
      have hac : t3.heap.objs.size ≠ ad := by
        rcases ha with z | z
        · rw [z]
          exact f1
        · exact fun e => f4 y ad z e.symm
      exact ⟨m, hn.sameBut sb hac, fun h8 sb8 => ⟨_, H5, J8.turned (t' := t7.toks) (fun b o hb e => (sb8.2 b hb).trans e) f0 f1 f3' f4 f5, qq⟩⟩
    · refine thnF (TL.item (hblk X p0 t3 H3 scope ce it) rfl rfl rfl i5 [] t5 _ H5 (fun _ _ => False) K5 (stat K5 z5) n5 go) fun r t6 ⟨u, hr, h6⟩ => ?_
      subst hr
      refine thnF h6 fun _ t7 ⟨x, H7, K7, r7, y7, n7, z7⟩ => ?_
      have K7' := K7.pinned (fp := [it]) (fun b hb => by rw [List.mem_singleton.mp hb]; exact stat K7 z7) (fun b hb => by rw [List.mem_singleton.mp hb]; exact TL.obj _ _ n7)
      refine thnF (pg.run _ t7 _ H7 x u _ K7' r7 (step x H7 y7)) fun _ t8 ⟨sg8, H8, K8, hw8, q8⟩ => ?_
      refine thnF (pt.run _ t8 sg8 H8 _ K8 q8) fun b t9 ⟨H9, K9, q9⟩ => ?_
      have fin : ∀ {s2 : Shared} {H2 : Hp}, Inv (hblk X p0 t3 H3 scope ce it) ([] ++ pinsAt [it] t7.heap) sg8 H2 s2 → Nx H2 → ∃ m, m < n ∧ ∃ i2 H4, Inv (hblk X p0 t3 H3 scope ce it) [] (wipe sg (own.map (·.2))) H4 s2 ∧ s2.heap.IsListIter it a i2 ∧ H4 it = none ∧ W i2 m H4 := fun {s2 H2} K2 nx => by
        obtain ⟨m2, hm, w2⟩ := hNx H2 nx
        have pin2 : ∀ o, t7.heap.get? it = some o → s2.heap.get? it = some o ∧ H2 it = none := fun o e =>
          let z := K2.pin (it, o) (List.mem_append_right _ (List.mem_append_right _ (mem_pinsAt (List.mem_singleton.mpr rfl) e)))
          ⟨z.1, z.2.1⟩
        have hl : (wipe sg (own.map (·.2))).length = sg8.length := by rw [← hw8, wipe_length]
        obtain ⟨o, eo, _⟩ := TL.obj _ _ n7
        refine ⟨m2, hm, i5 + 1, H2, (K2.unpinned (pins := [])).weak hl (fun j v e => ?_), TL.keep _ _ _ n7 fun o e => (pin2 o e).1, (pin2 o eo).2, w2⟩
        rw [← hw8] at e
        exact (wipe_some e).1
      cases b with
      | false =>
        simp only [Bool.false_eq_true, if_false] at q9 ⊢
        exact fin K9 q9
      | true =>
        simp only [if_true] at q9 ⊢
        refine thnF (pe.run _ t9 sg8 H9 _ K9 q9) fun z t10 ⟨yv, H10, K10, r10, acc, hD10, hz10, nx⟩ => ?_
        exact app_ok (X := hblk X p0 t3 H3 scope ce it) K10 hD10 hz10 r10 fun t11 K11 => fin K11 nx
  exact codeAny_compStart_list loop (TL.self X.A 0 _ _ _ n4 loop)
end
end Hotter
/-! a lambda without parameters handed to a def; what it raises has no context -/
namespace LamN
open PySem PySem.Spec PyProof.Rows L2 LamX
/-- the lambda's body, entered at st -/
abbrev lamN (X : Cx) (A : Around) (outer : List Env) (st : Shared) (H : Hp) (E : XK) (scope : Scope) (f c2 : Addr) : Cx := (lamCx X A outer st H E scope f c2).tr [] (fun e s2 =>
  wpAny (model X.prog X.w) (A.deeper (lamEnv X scope st.heap.objs.size f c2)) (leaving (lamEnv X scope st.heap.objs.size f c2) e) (fun _ s3 => L2N.CX X.prog X.w outer H st E e s3) (fun e2 s3 => L2N.CX X.prog X.w outer H st E e2 s3) s2)
/-- the def that calls what it got -/
def Gives (X : Cx) (Ng : List Str) (x : Str) (sg : Scope) (g : Addr) (cdg : Value) (bg : List Stmt) (a : Str) (q : Str) (TT : (XK → Hp → VK → Prop) → Hp → VK → Prop) : Prop :=
  ∀ (f c2 : Addr) (st : Shared) (H : Hp) (Q : VK) (tl : XK → Hp → VK → Prop),
    (∀ (W : WX) (pn : List (Addr × Obj)) (xe : Value → Shared → Prop) (E : XK) (sS : L2.St) (p1 p2 : Pos), L2N.Takes ((cxOf C8.CX0 X.prog X.w X.K X.mg X.base Ng x sg g cdg X.A X.stack st H C8.E0).tr pn xe) W → (∀ cls d H2, E cls d H2 → W cls d sS H2) →
      PE ((cxOf C8.CX0 X.prog X.w X.K X.mg X.base Ng x sg g cdg X.A X.stack st H C8.E0).tr pn xe) (.Call (.Name a p1) [] [] p2) (fun sZ HZ Q => sZ = sS ∧ sZ[0]? = some (some (.ref f)) ∧ HZ c2 = some (CodeO c2 q) ∧ tl E HZ Q)) →
    H c2 = some (CodeO c2 q) → TT tl H Q → ∃ t, PSs (cxOf C8.CX0 X.prog X.w X.K X.mg X.base Ng x sg g cdg X.A X.stack st H C8.E0).nox bg t ∧ t { nx := fun _ H2 => Q .non H2, rt := Q } (L2.start Ng [.ref f]) H
section
variable {X : Cx} {pins : List (Addr × Obj)} {sg0 : L2.St} {H : Hp} {st : Shared}
theorem act {Ng : List Str} {qg : Str} {sc : Scope} {g f c2 : Addr} {cdg pm ctv : Value} {params : Arguments} {body : Expr} {scope : Scope} {k i : Nat} {a : Str} {pn : List (Addr × Obj)} {xe : Value → Shared → Prop} {W : WX} {E : XK} {sS : L2.St} {tb : TE} {p1 p2 : Pos}
    (J : Inv X pins sg0 H st) (L : LamS X.env.scope scope) (hf : st.heap.get? f = some (PySem.W.kla_obj "<lambda>" (X.env.qual ++ "<lambda>") params body scope (cloFrom X.env.cells scope.names []) pm c2 ctv)) (hfn : H f = none) (hfr : f ∉ frs X.stack)
    (hbind : bindArgs (PySem.W.kla_fn "<lambda>" (X.env.qual ++ "<lambda>") params body scope (cloFrom X.env.cells scope.names []) pm (.ref c2) ctv) ⟨[], []⟩ = pure [])
    (tk : L2N.Takes ((cxOf C8.CX0 X.prog X.w X.K X.mg X.base Ng qg sc g cdg X.A X.stack st H C8.E0).tr pn xe) W) (hW : ∀ cls d H2, E cls d H2 → W cls d sS H2) (hr : Room (k + 1) (X.A.deeper (envOfC qg sc st.heap.objs.size g cdg)))
    (hbody : ∀ (A : Around) (outer : List Env) (st : Shared) (H : Hp), Room k (A.deeper (lamEnv X scope st.heap.objs.size f c2)) → PE (lamN X A outer st H E scope f c2) body tb)
    (hN : Ng[i]? = some a) (hv : Vis sc a) (hd : (a == ("__debug__" : Str)) = false) (hcd : (a == ("__classdict__" : Str)) = false) :
    PE ((cxOf C8.CX0 X.prog X.w X.K X.mg X.base Ng qg sc g cdg X.A X.stack st H C8.E0).tr pn xe) (.Call (.Name a p1) [] [] p2) (fun sZ HZ Q => sZ = sS ∧ sZ[i]? = some (some (.ref f)) ∧ HZ c2 = some (CodeO c2 (X.env.qual ++ "<lambda>")) ∧ tb sg0 HZ Q) := by
  refine ⟨fun pz stz sZ HZ Q JZ h => ?_⟩
  obtain ⟨rfl, hs, hc, hT⟩ := h
  have rd := (pe_var (X := (cxOf C8.CX0 X.prog X.w X.K X.mg X.base Ng qg sc g cdg X.A X.stack st H C8.E0).tr pn xe) (pos := p1) (i := i) hN hv hd hcd).run pz stz sZ HZ (fun v H1 => v = .ref f ∧ H1 = HZ) JZ ⟨.ref f, hs, rfl, rfl⟩
  refine wpAny_Call_Name_kw (thn rd fun u t1 ⟨v, H1, J1, r1, ev, eH⟩ => ?_)
  subst ev
  rw [eH] at J1
  have eu : u = Value.ref f := r1
  subst eu
  have of1 : t1.heap.get? f = some (PySem.W.kla_obj "<lambda>" (X.env.qual ++ "<lambda>") params body scope (cloFrom X.env.cells scope.names []) pm c2 ctv) := J1.base.keep f _ hf hfn hfr fun z => nomatch (show f ∈ ([] : List Addr) from z)
  refine PySem.W.callWith_F0 ⟨_, _, _, _, of1⟩ ?_
  have un : Un (frs X.stack) [] H HZ st.heap t1.heap := J1.base
  obtain ⟨⟨oc, vs, t, hoc, hdc, hvc⟩, _, _⟩ := J1.hok c2 _ hc
  have rc : codeAny (model X.prog X.w) (X.A.deeper (envOfC qg sc st.heap.objs.size g cdg)) (.call (.ref f) ⟨[], []⟩) (CR (L2N.CX X.prog X.w) (envOfC qg sc st.heap.objs.size g cdg :: X.stack) X.prog X.w HZ t1 Q E) t1 := by
    refine PySem.W.kla_callFunE hr.depth of1 rfl L.co L.gen rfl ⟨c2, oc, vs, t, rfl, hoc, hdc, hvc⟩ ?_
    rw [hbind]
    refine wpAny_pure (wpAny_newFunctionEnv (fun y hy => (L.own y hy).2) (fun y hy => absurd hy (by simp)) (fun h1 hns hsb => ⟨J1.nolimit.fresh _ hsb, ?_⟩) L.kind)
    show codeAny _ _ (.expr body (lamEnv X scope t1.heap.objs.size f c2)) _ _
    have kp : ∀ b o, t1.heap.get? b = some o → h1.get? b = some o := fun b o e => hsb.extBut b o (Nat.ne_of_lt (Heap.lt_size e)) (Heap.get?_push_of_some _ e)
    have K0 : Inv (lamCx X (X.A.deeper (envOfC qg sc st.heap.objs.size g cdg)) (envOfC qg sc st.heap.objs.size g cdg :: X.stack) t1 HZ E scope f c2) [] sg0 HZ { t1 with heap := h1, toks := t1.toks + ([] : List (Str × Value)).length } := lam_start2 J L J1.env0 hr.hd un hns kp
    have K1 := K0.toTry (lamN X (X.A.deeper (envOfC qg sc st.heap.objs.size g cdg)) (envOfC qg sc st.heap.objs.size g cdg :: X.stack) t1 HZ E scope f c2).xe
    refine PySem.W.kla_codeExpr (wpAny_mono ((hbody _ _ t1 HZ (hr.deeper _)).run [] _ _ HZ Q K1 hT) (fun v s2 hq => ?_) fun e s2 hq => hq)
    obtain ⟨w2, H2, K2, rv, q⟩ := hq
    exact ⟨w2, H2, K2.os, K2.bare, K2.base, K2.hok, rv, q⟩
  refine wpAny_call (codeAny_mono rc fun r s2 hq => ?_)
  cases r with
  | error e =>
    obtain ⟨ad, B, H2, cls, d, g1, g2, g3, g4, g5, g6, g7, hE⟩ := hq
    exact L2N.passAt tk sZ pz HZ t1 e s2 J1 ⟨ad, B, H2, cls, d, g1, g2, g3, g4, g5, g6, g7, hW _ _ _ hE⟩
  | ok fl =>
    cases fl with
    | ret u => exact J1.after hq
    | next => exact False.elim hq
    | brk => exact False.elim hq
    | cont => exact False.elim hq
end
section
variable {X : Cx}
/-- x(lambda: body) -/
theorem pe_lam {T : List (Addr × Str)} {TT : (XK → Hp → VK → Prop) → Hp → VK → Prop} {x a : Str} {g c P : Addr} {k : Nat} {pg : Arguments} {bg : List Stmt} {sg : Scope} {dV kV doc pm cdv ct oc : Value} {an od : Option Addr} {osl : Array (Option Value)} {Ng : List Str}
    {params : Arguments} {body : Expr} {scope : Scope} {t : XK → TE} {p lpos pos : Pos} (hg : Gl X x) (hm : X.mg x = some (.ref g)) (hk : PySem.W.keepIn X.K (.ref g) = true)
    (lk : X.K.lookup g = some ⟨oc, od, .func (PySem.W.fnOf x x pg bg sg dV kV doc pm an cdv ct), osl⟩) (hcg : PySem.W.codeIn X.K cdv x = true) (hb : L2.Binds X.K (PySem.W.fnOf x x pg bg sg dV kV doc pm an cdv ct) [a] []) (Sg : FnScope Ng [a] sg) (hNg : Ng[0]? = some a) (hva : Vis sg a)
    (hG : Gives X Ng x sg g cdv bg a (X.env.qual ++ "<lambda>") TT)
    (TB : TabB X.base X.mg c P) (hcode : X.env.code = .ref c) (hmT : (P, X.env.qual ++ "<lambda>") ∈ T) (hu : ∀ p ∈ T, p.1 = P → p.2 = X.env.qual ++ "<lambda>") (hr : Room (k + 2) X.A) (L : LamS X.env.scope scope) (hdef : defaultsOf params X.env = ([], []))
    (hbind : ∀ (q : Str) (cl : List (Str × Addr)) (pm cv ctv : Value), bindArgs (PySem.W.kla_fn "<lambda>" q params body scope cl pm cv ctv) ⟨[], []⟩ = pure [])
    (hbody : ∀ (A : Around) (outer : List Env) (st : Shared) (H : Hp) (E : XK) (f c2 : Addr), Room k (A.deeper (lamEnv X scope st.heap.objs.size f c2)) → PE (lamN X A outer st H E scope f c2) body (t E))
    (hdb : (x == ("__debug__" : Str)) = false) (hd : (a == ("__debug__" : Str)) = false) (hcd : (a == ("__classdict__" : Str)) = false) :
    PE X (.Call (.Name x p) [.Lambda params body scope lpos] [] pos) (tLam T TT t) := by
  refine ⟨fun pp st sg2 H Q J h => ?_⟩
  obtain ⟨hT, h⟩ := h
  refine wpAny_Call_Name_kw (ld_glob J hg hm (PySem.W.callWith_K (h₀ := X.base) J.ok.mod.kin hk ?_ (by rfl) (by rfl)) hdb)
  show wpAny _ _ (spliced ((false, eval (.Lambda params body scope lpos) X.env) :: backTo pos (starEach [] X.env))) _ _ st
  refine Calls.spliced_cons (lam_make2 J TB hcode hmT hu hT hdef (L.has J.ok) fun f c2 pm2 ctv H1 t1 J1 eN T1 hf hfn hfr hco => ?_)
  refine Calls.spliced_nil ⟨J1.kIn, ?_⟩
  have rc : codeAny (model X.prog X.w) X.A (.call (.ref g) ⟨[.ref f], []⟩) (CR C8.CX0 X.stack X.prog X.w H1 t1 Q C8.E0) t1 := by
    refine run_ofS (N := Ng) (ps := [a]) (us := [.ref f]) (vs := [.ref f]) lk hcg Sg hr J1.env0 (hb t1 [.ref f] J1.kIn rfl) (.cons rfl .nil) rfl fun hr2 => ?_
    obtain ⟨tg, htg, hq⟩ := hG f c2 t1 H1 Q (fun E H2 Q2 => t E sg2 H2 Q2) (fun W pn xe E sS p1 p2 tk hW => act (i := 0) J1 L hf hfn hfr (hbind _ _ _ _ _) tk hW hr2 (fun A outer st H hr3 => hbody A outer st H E f c2 hr3) hNg hva hd hcd) hco (h H1 eN T1)
    exact ⟨tg, htg.nox, hq⟩
  refine wpAny_call (codeAny_mono rc fun r s2 hq => ?_)
  cases r with
  | error e => exact (show False from hq).elim
  | ok fl =>
    cases fl with
    | ret u => exact J1.after hq
    | next => exact False.elim hq
    | brk => exact False.elim hq
    | cont => exact False.elim hq
theorem takes_none : L2N.Takes X (fun _ _ _ _ => False) := fun _ _ x => by
  obtain ⟨_, _, _, _, _, _, _, _, _, _, _, _, _, _, _, _, z⟩ := x
  exact z.elim
end
end LamN
namespace MfW
open PySem PySem.Spec PyProof.Rows L2
def excNames : List Str := ["NoRoot", "NoNumber", "NoLaying", "NoTile", "NoFit", "NoKinds", "NoPlan", "NoSpot", "NoNet", "NoText", "NoSaying", "NoName", "TooMany"]
/-- what the head says of the errors' classes -/
structure RefT (K : PySem.W.Frag) (mg : Str → Option Value) (CN CF : Addr) (C : Str → Addr) : Prop where
  gF : mg "FloorError" = some (.ref CF)
  em : PySem.W.exmOne K (.ref CN) (.ref CF) = some true
  ec : ExcC K CN
  kv : PySem.W.kitOne K (.ref CN) (.type "ValueError") = some true
  gc : ∀ x ∈ excNames, mg x = some (.ref (C x))
  kc : ∀ x ∈ excNames, PySem.W.kitOne K (.ref CN) (.ref (C x)) = some (decide (x = "NoLaying"))
abbrev N__law_refusal : List Str := ["_law_deed", "e", "_law_some", "_law_names", "_law_name", "_law_is_so"]
theorem sc__law_refusal : FnScope N__law_refusal ["_law_deed"] (defScope (top 60)) := ⟨rfl, rfl, rfl, by decide +kernel, rfl, by decide +kernel, by decide +kernel⟩

abbrev refCx (X : Cx) (g : Addr) (cdg : Value) (st : Shared) (H : Hp) : Cx := (cxOf C8.CX0 X.prog X.w X.K X.mg X.base N__law_refusal "_law_refusal" (defScope (top 60)) g cdg X.A X.stack st H C8.E0).nox
theorem pss_imp {X : Cx} {b : List Stmt} {t u : TS} (h : PSs X b t) (k : ∀ D σ H, u D σ H → t D σ H) : PSs X b u := ⟨fun pins s σ H D J z => h.run pins s σ H D J (k D σ H z)⟩
def TRef (CN : Addr) : (XK → Hp → VK → Prop) → Hp → VK → Prop := fun tl H Q => tl (fun cls d H2 => cls = .ref CN ∧ d = none ∧ ∀ H3, Same H2 H3 → Q (.str "NoLaying") H3) H (fun _ H2 => Q .non H2)
/-- a pair of a name and whether -/
def NameAt (H : Hp) (i : Nat) (v : V) : Prop := ∃ (p : Addr) (s : Str) (b : Bool), v = .ref p ∧ H p = some (.tup [.str s, .bl b]) ∧ (b = true ↔ i = 2) ∧ (i = 2 → s = "NoLaying")
theorem NameAt.mono {H H2 : Hp} {i : Nat} {v : V} (h : NameAt H i v) (s : Same H H2) : NameAt H2 i v := by
  obtain ⟨p, t, b, e, h1, h2⟩ := h
  exact ⟨p, t, b, e, s _ _ h1, h2⟩
theorem gives_ref {X : Cx} {CN CF g : Addr} {C : Str → Addr} {cdg : Value} {q : Str} (T : Txt X.K X.mg) (R : RefT X.K X.mg CN CF C) :
    LamN.Gives X N__law_refusal "_law_refusal" (defScope (top 60)) g cdg (defBody (top 60)) "_law_deed" q (TRef CN) := by
  intro f c2 st H Q tl act hc h
  have hgF : Gl (refCx X g cdg st H) "FloorError" := by rfl
  refine ⟨_, pss_cons (L2N.ps_try_as (X := refCx X g cdg st H) (i := 1) (c := .ref CF)
      (tb := fun W D σ H => ∃ Ech : XK, (∀ cls d H2, Ech cls d H2 → W cls d σ H2) ∧ σ[0]? = some (some (.ref f)) ∧ H c2 = some (LamX.CodeO c2 q) ∧ tl Ech H fun _ H2 => D.nx σ H2)
      (ts := fun a cls d D σ H => cls = .ref CN ∧ d = none ∧ H a = none ∧ σ = [some (.ref f), some (.ref a), none, none, none, none] ∧ ∀ H3, Same H H3 → D.rt (.str "NoLaying") H3)
      rfl rfl sc__law_refusal.nd rfl rfl ⟨hgF, by decide, .inl R.gF⟩ LamN.takes_none (fun W pn xe tk _ => ?_) (fun a oe cls d pn hz hf => ?_)) (pss_one (ps_ret pe_non)), ?_⟩
  · refine ⟨fun pins s2 σ H D J h2 => ?_⟩
    obtain ⟨Ech, hW, h1, h2, h3⟩ := h2
    exact (pss_one (ps_expr (act W pn xe Ech σ _ _ tk hW))).run pins s2 σ H D J ⟨rfl, h1, h2, h3⟩
  · by_cases hcls : cls = .ref CN ∧ d = none
    rotate_left
    · exact ⟨fun pins s2 σ H2 D J h2 => absurd ⟨h2.1, h2.2.1⟩ hcls⟩
    obtain ⟨rfl, rfl⟩ := hcls
    have hot : L2H.Hot1 ((refCx X g cdg st H).suite a ((a, oe) :: pn)).A (a, oe) := by
      obtain ⟨vs, e⟩ := hf
      exact ⟨rfl, vs, e, hz.2.2 vs e⟩
    refine pss_imp (X := (refCx X g cdg st H).suite a ((a, oe) :: pn)) (pss_cons (ps_set (i := 2) sc__law_refusal.nd rfl (Or.inl rfl) (pe_lst (pa_cons (pe_tup (pa_cons pe_str (pa_cons (pe_callB (call_isE (X := refCx X g cdg st H) R.ec hz.zc hf) (by rfl) T.isi (by decide +kernel) (pa_cons (pv 1) (pa_cons (pe_glob (v := .ref (C "NoRoot")) (by rfl) (R.gc "NoRoot" (by decide)) rfl) pa_nil))) pa_nil))) (pa_cons (pe_tup (pa_cons pe_str (pa_cons (pe_callB (call_isE (X := refCx X g cdg st H) R.ec hz.zc hf) (by rfl) T.isi (by decide +kernel) (pa_cons (pv 1) (pa_cons (pe_glob (v := .ref (C "NoNumber")) (by rfl) (R.gc "NoNumber" (by decide)) rfl) pa_nil))) pa_nil))) (pa_cons (pe_tup (pa_cons pe_str (pa_cons (pe_callB (call_isE (X := refCx X g cdg st H) R.ec hz.zc hf) (by rfl) T.isi (by decide +kernel) (pa_cons (pv 1) (pa_cons (pe_glob (v := .ref (C "NoLaying")) (by rfl) (R.gc "NoLaying" (by decide)) rfl) pa_nil))) pa_nil))) (pa_cons (pe_tup (pa_cons pe_str (pa_cons (pe_callB (call_isE (X := refCx X g cdg st H) R.ec hz.zc hf) (by rfl) T.isi (by decide +kernel) (pa_cons (pv 1) (pa_cons (pe_glob (v := .ref (C "NoTile")) (by rfl) (R.gc "NoTile" (by decide)) rfl) pa_nil))) pa_nil))) (pa_cons (pe_tup (pa_cons pe_str (pa_cons (pe_callB (call_isE (X := refCx X g cdg st H) R.ec hz.zc hf) (by rfl) T.isi (by decide +kernel) (pa_cons (pv 1) (pa_cons (pe_glob (v := .ref (C "NoFit")) (by rfl) (R.gc "NoFit" (by decide)) rfl) pa_nil))) pa_nil))) (pa_cons (pe_tup (pa_cons pe_str (pa_cons (pe_callB (call_isE (X := refCx X g cdg st H) R.ec hz.zc hf) (by rfl) T.isi (by decide +kernel) (pa_cons (pv 1) (pa_cons (pe_glob (v := .ref (C "NoKinds")) (by rfl) (R.gc "NoKinds" (by decide)) rfl) pa_nil))) pa_nil))) (pa_cons (pe_tup (pa_cons pe_str (pa_cons (pe_callB (call_isE (X := refCx X g cdg st H) R.ec hz.zc hf) (by rfl) T.isi (by decide +kernel) (pa_cons (pv 1) (pa_cons (pe_glob (v := .ref (C "NoPlan")) (by rfl) (R.gc "NoPlan" (by decide)) rfl) pa_nil))) pa_nil))) (pa_cons (pe_tup (pa_cons pe_str (pa_cons (pe_callB (call_isE (X := refCx X g cdg st H) R.ec hz.zc hf) (by rfl) T.isi (by decide +kernel) (pa_cons (pv 1) (pa_cons (pe_glob (v := .ref (C "NoSpot")) (by rfl) (R.gc "NoSpot" (by decide)) rfl) pa_nil))) pa_nil))) (pa_cons (pe_tup (pa_cons pe_str (pa_cons (pe_callB (call_isE (X := refCx X g cdg st H) R.ec hz.zc hf) (by rfl) T.isi (by decide +kernel) (pa_cons (pv 1) (pa_cons (pe_glob (v := .ref (C "NoNet")) (by rfl) (R.gc "NoNet" (by decide)) rfl) pa_nil))) pa_nil))) (pa_cons (pe_tup (pa_cons pe_str (pa_cons (pe_callB (call_isE (X := refCx X g cdg st H) R.ec hz.zc hf) (by rfl) T.isi (by decide +kernel) (pa_cons (pv 1) (pa_cons (pe_glob (v := .ref (C "NoText")) (by rfl) (R.gc "NoText" (by decide)) rfl) pa_nil))) pa_nil))) (pa_cons (pe_tup (pa_cons pe_str (pa_cons (pe_callB (call_isE (X := refCx X g cdg st H) R.ec hz.zc hf) (by rfl) T.isi (by decide +kernel) (pa_cons (pv 1) (pa_cons (pe_glob (v := .ref (C "NoSaying")) (by rfl) (R.gc "NoSaying" (by decide)) rfl) pa_nil))) pa_nil))) (pa_cons (pe_tup (pa_cons pe_str (pa_cons (pe_callB (call_isE (X := refCx X g cdg st H) R.ec hz.zc hf) (by rfl) T.isi (by decide +kernel) (pa_cons (pv 1) (pa_cons (pe_glob (v := .ref (C "NoName")) (by rfl) (R.gc "NoName" (by decide)) rfl) pa_nil))) pa_nil))) (pa_cons (pe_tup (pa_cons pe_str (pa_cons (pe_callB (call_isE (X := refCx X g cdg st H) R.ec hz.zc hf) (by rfl) T.isi (by decide +kernel) (pa_cons (pv 1) (pa_cons (pe_glob (v := .ref (C "TooMany")) (by rfl) (R.gc "TooMany" (by decide)) rfl) pa_nil))) pa_nil))) pa_nil)))))))))))))))
      (pss_cons (Hotter.ps_setLc_hot (i := 3) (own := [("_law_name", 4), ("_law_is_so", 5)]) (p0 := (a, oe)) (g := gTup X.K 2 (gCons (gName 4) (gCons (gName 5) gNil))) (tt := tTest (tVar 5)) hot (List.mem_cons_self ..) sc__law_refusal.nd rfl rfl (sw_true rfl rfl rfl (by decide +kernel)) (pv 2) (blkOk_by (own := [("_law_name", 4), ("_law_is_so", 5)]) (N := N__law_refusal) (sc := defScope (top 60)) (by decide +kernel)) (fun _ _ _ _ _ => (by exact Hotter.pg_tup_hot ⟨_, hot, List.mem_singleton.mpr rfl⟩ (pgs_cons (pg_name (i := 4) sc__law_refusal.nd rfl (Or.inl rfl)) (pgs_cons (pg_name (i := 5) sc__law_refusal.nd rfl (Or.inl rfl)) pgs_nil)))) (fun _ _ _ _ _ => (pts_one (pt_val (pv 5)))) (fun _ _ _ _ _ => (pv 4)))
      (pss_cons (ps_if (PW.pt (pw_and (pt_cmpR op_eq (pe_callB call_len (by rfl) T.len (by decide +kernel) (pa_cons (pv 3) pa_nil)) pe_int (nomark _)) (pw_and1 (pt_val (pe_callB (call_isE (X := refCx X g cdg st H) R.ec hz.zc hf) (by rfl) T.isi (by decide +kernel) (pa_cons (pv 1) (pa_cons (pe_bltn (v := .ty "ValueError") (by rfl) T.verr (by decide +kernel) rfl) pa_nil))))))) (pss_one (ps_ret (pe_ix ix_list (pv 3) pe_int (fun _ _ => rfl)))) pss_nil)
      (pss_one (ps_ret pe_str))))) (fun D σ H2 h2 => ?_)
    obtain ⟨_, _, na, rfl, h3⟩ := h2
    -- the pairs
    have b0 : PySem.W.kitOne X.K (.ref CN) (.ref (C "NoRoot")) = some false := R.kc "NoRoot" (by decide)
    refine ⟨_, rfl, _, _, _, rfl, fun u z => z, b0, by show 2 ≤ sizeLine; decide, fun p0 np0 => ?_⟩
    have s0 := same_new (o := .tup [V.str "NoRoot", .bl false]) np0
    have b1 : PySem.W.kitOne X.K (.ref CN) (.ref (C "NoNumber")) = some false := R.kc "NoNumber" (by decide)
    refine ⟨_, rfl, _, _, _, rfl, fun u z => z, b1, by show 2 ≤ sizeLine; decide, fun p1 np1 => ?_⟩
    have s1 := same_new (o := .tup [V.str "NoNumber", .bl false]) np1
    have b2 : PySem.W.kitOne X.K (.ref CN) (.ref (C "NoLaying")) = some true := R.kc "NoLaying" (by decide)
    refine ⟨_, rfl, _, _, _, rfl, fun u z => z, b2, by show 2 ≤ sizeLine; decide, fun p2 np2 => ?_⟩
    have s2 := same_new (o := .tup [V.str "NoLaying", .bl true]) np2
    have b3 : PySem.W.kitOne X.K (.ref CN) (.ref (C "NoTile")) = some false := R.kc "NoTile" (by decide)
    refine ⟨_, rfl, _, _, _, rfl, fun u z => z, b3, by show 2 ≤ sizeLine; decide, fun p3 np3 => ?_⟩
    have s3 := same_new (o := .tup [V.str "NoTile", .bl false]) np3
    have b4 : PySem.W.kitOne X.K (.ref CN) (.ref (C "NoFit")) = some false := R.kc "NoFit" (by decide)
    refine ⟨_, rfl, _, _, _, rfl, fun u z => z, b4, by show 2 ≤ sizeLine; decide, fun p4 np4 => ?_⟩
    have s4 := same_new (o := .tup [V.str "NoFit", .bl false]) np4
    have b5 : PySem.W.kitOne X.K (.ref CN) (.ref (C "NoKinds")) = some false := R.kc "NoKinds" (by decide)
    refine ⟨_, rfl, _, _, _, rfl, fun u z => z, b5, by show 2 ≤ sizeLine; decide, fun p5 np5 => ?_⟩
    have s5 := same_new (o := .tup [V.str "NoKinds", .bl false]) np5
    have b6 : PySem.W.kitOne X.K (.ref CN) (.ref (C "NoPlan")) = some false := R.kc "NoPlan" (by decide)
    refine ⟨_, rfl, _, _, _, rfl, fun u z => z, b6, by show 2 ≤ sizeLine; decide, fun p6 np6 => ?_⟩
    have s6 := same_new (o := .tup [V.str "NoPlan", .bl false]) np6
    have b7 : PySem.W.kitOne X.K (.ref CN) (.ref (C "NoSpot")) = some false := R.kc "NoSpot" (by decide)
    refine ⟨_, rfl, _, _, _, rfl, fun u z => z, b7, by show 2 ≤ sizeLine; decide, fun p7 np7 => ?_⟩
    have s7 := same_new (o := .tup [V.str "NoSpot", .bl false]) np7
    have b8 : PySem.W.kitOne X.K (.ref CN) (.ref (C "NoNet")) = some false := R.kc "NoNet" (by decide)
    refine ⟨_, rfl, _, _, _, rfl, fun u z => z, b8, by show 2 ≤ sizeLine; decide, fun p8 np8 => ?_⟩
    have s8 := same_new (o := .tup [V.str "NoNet", .bl false]) np8
    have b9 : PySem.W.kitOne X.K (.ref CN) (.ref (C "NoText")) = some false := R.kc "NoText" (by decide)
    refine ⟨_, rfl, _, _, _, rfl, fun u z => z, b9, by show 2 ≤ sizeLine; decide, fun p9 np9 => ?_⟩
    have s9 := same_new (o := .tup [V.str "NoText", .bl false]) np9
    have b10 : PySem.W.kitOne X.K (.ref CN) (.ref (C "NoSaying")) = some false := R.kc "NoSaying" (by decide)
    refine ⟨_, rfl, _, _, _, rfl, fun u z => z, b10, by show 2 ≤ sizeLine; decide, fun p10 np10 => ?_⟩
    have s10 := same_new (o := .tup [V.str "NoSaying", .bl false]) np10
    have b11 : PySem.W.kitOne X.K (.ref CN) (.ref (C "NoName")) = some false := R.kc "NoName" (by decide)
    refine ⟨_, rfl, _, _, _, rfl, fun u z => z, b11, by show 2 ≤ sizeLine; decide, fun p11 np11 => ?_⟩
    have s11 := same_new (o := .tup [V.str "NoName", .bl false]) np11
    have b12 : PySem.W.kitOne X.K (.ref CN) (.ref (C "TooMany")) = some false := R.kc "TooMany" (by decide)
    refine ⟨_, rfl, _, _, _, rfl, fun u z => z, b12, by show 2 ≤ sizeLine; decide, fun p12 np12 => ?_⟩
    have s12 := same_new (o := .tup [V.str "TooMany", .bl false]) np12
    refine ⟨by show 13 ≤ sizeLine; decide, fun pL npL => ?_⟩
    have t12 := same_new (o := .lst [V.ref p0, .ref p1, .ref p2, .ref p3, .ref p4, .ref p5, .ref p6, .ref p7, .ref p8, .ref p9, .ref p10, .ref p11, .ref p12]) npL
    have t11 := s12.trans t12
    have t10 := s11.trans t11
    have t9 := s10.trans t10
    have t8 := s9.trans t9
    have t7 := s8.trans t8
    have t6 := s7.trans t7
    have t5 := s6.trans t6
    have t4 := s5.trans t5
    have t3 := s4.trans t4
    have t2 := s3.trans t3
    have t1 := s2.trans t2
    have t0 := s1.trans t1
    have tA := s0.trans t0
    have n0 : NameAt _ 0 (.ref p0) := NameAt.mono ⟨p0, _, _, rfl, upd_same, by decide, by decide⟩ t0
    have n1 : NameAt _ 1 (.ref p1) := NameAt.mono ⟨p1, _, _, rfl, upd_same, by decide, by decide⟩ t1
    have n2 : NameAt _ 2 (.ref p2) := NameAt.mono ⟨p2, _, _, rfl, upd_same, by decide, by decide⟩ t2
    have n3 : NameAt _ 3 (.ref p3) := NameAt.mono ⟨p3, _, _, rfl, upd_same, by decide, by decide⟩ t3
    have n4 : NameAt _ 4 (.ref p4) := NameAt.mono ⟨p4, _, _, rfl, upd_same, by decide, by decide⟩ t4
    have n5 : NameAt _ 5 (.ref p5) := NameAt.mono ⟨p5, _, _, rfl, upd_same, by decide, by decide⟩ t5
    have n6 : NameAt _ 6 (.ref p6) := NameAt.mono ⟨p6, _, _, rfl, upd_same, by decide, by decide⟩ t6
    have n7 : NameAt _ 7 (.ref p7) := NameAt.mono ⟨p7, _, _, rfl, upd_same, by decide, by decide⟩ t7
    have n8 : NameAt _ 8 (.ref p8) := NameAt.mono ⟨p8, _, _, rfl, upd_same, by decide, by decide⟩ t8
    have n9 : NameAt _ 9 (.ref p9) := NameAt.mono ⟨p9, _, _, rfl, upd_same, by decide, by decide⟩ t9
    have n10 : NameAt _ 10 (.ref p10) := NameAt.mono ⟨p10, _, _, rfl, upd_same, by decide, by decide⟩ t10
    have n11 : NameAt _ 11 (.ref p11) := NameAt.mono ⟨p11, _, _, rfl, upd_same, by decide, by decide⟩ t11
    have n12 : NameAt _ 12 (.ref p12) := NameAt.mono ⟨p12, _, _, rfl, upd_same, by decide, by decide⟩ t12
    have mk : ∀ HL : Hp, NameAt HL 0 (.ref p0) → NameAt HL 1 (.ref p1) → NameAt HL 2 (.ref p2) → NameAt HL 3 (.ref p3) → NameAt HL 4 (.ref p4) → NameAt HL 5 (.ref p5) → NameAt HL 6 (.ref p6) → NameAt HL 7 (.ref p7) → NameAt HL 8 (.ref p8) → NameAt HL 9 (.ref p9) → NameAt HL 10 (.ref p10) → NameAt HL 11 (.ref p11) → NameAt HL 12 (.ref p12) → ∀ (i : Nat) (v : V), ([V.ref p0, .ref p1, .ref p2, .ref p3, .ref p4, .ref p5, .ref p6, .ref p7, .ref p8, .ref p9, .ref p10, .ref p11, .ref p12] : List V)[i]? = some v → NameAt HL i v := by
      intro HL n0 n1 n2 n3 n4 n5 n6 n7 n8 n9 n10 n11 n12 i v e
      match i, e with
      | 0, rfl => exact n0
      | 1, rfl => exact n1
      | 2, rfl => exact n2
      | 3, rfl => exact n3
      | 4, rfl => exact n4
      | 5, rfl => exact n5
      | 6, rfl => exact n6
      | 7, rfl => exact n7
      | 8, rfl => exact n8
      | 9, rfl => exact n9
      | 10, rfl => exact n10
      | 11, rfl => exact n11
      | 12, rfl => exact n12
      | i + 13, e => cases e
    have all := mk _ n0 n1 n2 n3 n4 n5 n6 n7 n8 n9 n10 n11 n12
    have eL : (upd (upd (upd (upd (upd (upd (upd (upd (upd (upd (upd (upd (upd (upd H2 p0 (.tup [V.str "NoRoot", .bl false])) p1 (.tup [V.str "NoNumber", .bl false])) p2 (.tup [V.str "NoLaying", .bl true])) p3 (.tup [V.str "NoTile", .bl false])) p4 (.tup [V.str "NoFit", .bl false])) p5 (.tup [V.str "NoKinds", .bl false])) p6 (.tup [V.str "NoPlan", .bl false])) p7 (.tup [V.str "NoSpot", .bl false])) p8 (.tup [V.str "NoNet", .bl false])) p9 (.tup [V.str "NoText", .bl false])) p10 (.tup [V.str "NoSaying", .bl false])) p11 (.tup [V.str "NoName", .bl false])) p12 (.tup [V.str "TooMany", .bl false])) pL (.lst [V.ref p0, .ref p1, .ref p2, .ref p3, .ref p4, .ref p5, .ref p6, .ref p7, .ref p8, .ref p9, .ref p10, .ref p11, .ref p12])) pL = some (.lst [V.ref p0, .ref p1, .ref p2, .ref p3, .ref p4, .ref p5, .ref p6, .ref p7, .ref p8, .ref p9, .ref p10, .ref p11, .ref p12]) := upd_same
    generalize (upd (upd (upd (upd (upd (upd (upd (upd (upd (upd (upd (upd (upd (upd H2 p0 (.tup [V.str "NoRoot", .bl false])) p1 (.tup [V.str "NoNumber", .bl false])) p2 (.tup [V.str "NoLaying", .bl true])) p3 (.tup [V.str "NoTile", .bl false])) p4 (.tup [V.str "NoFit", .bl false])) p5 (.tup [V.str "NoKinds", .bl false])) p6 (.tup [V.str "NoPlan", .bl false])) p7 (.tup [V.str "NoSpot", .bl false])) p8 (.tup [V.str "NoNet", .bl false])) p9 (.tup [V.str "NoText", .bl false])) p10 (.tup [V.str "NoSaying", .bl false])) p11 (.tup [V.str "NoName", .bl false])) p12 (.tup [V.str "TooMany", .bl false])) pL (.lst [V.ref p0, .ref p1, .ref p2, .ref p3, .ref p4, .ref p5, .ref p6, .ref p7, .ref p8, .ref p9, .ref p10, .ref p11, .ref p12])) = HL at all tA eL ⊢
    refine ⟨_, rfl, pL, rfl, ⟨_, SqL.of eL⟩, fun D2 hD2 => ?_⟩
    have nDL : pL ≠ D2 := ne_of_none eL hD2
    refine lc_list (xs := [V.ref p0, .ref p1, .ref p2, .ref p3, .ref p4, .ref p5, .ref p6, .ref p7, .ref p8, .ref p9, .ref p10, .ref p11, .ref p12]) (fun i H4 => (∃ acc, H4 D2 = some (.lst acc) ∧ acc = if i ≤ 2 then [] else [V.str "NoLaying"]) ∧ Same HL H4) ⟨⟨[], upd_same, rfl⟩, same_new hD2⟩ (fun i H4 _ z => SqL.of (z.2 _ _ eL)) (fun i x H4 hx z => ?_) (fun H4 z => ?_)
    · obtain ⟨⟨acc, e1, e2⟩, k⟩ := z
      obtain ⟨p, s, b, rfl, hp, hb, hs⟩ := all i x hx
      have hi := (List.getElem?_eq_some_iff.mp hx).1
      refine ⟨p, _, rfl, SqT.of (k _ _ hp), rfl, _, _, rfl, _, _, rfl, rfl, rfl, _, rfl, _, rfl, ?_⟩
      cases b with
      | true =>
        have h2 : i = 2 := hb.mp rfl
        subst h2
        refine ifT rfl ⟨_, rfl, acc, e1, by rw [e2]; show 0 < sizeLine; have := sizeLine_eq; omega, ⟨_, upd_same, ?_⟩, same_put k (Same.refl _) hD2⟩
        rw [e2, hs rfl]
        rfl
      | false =>
        have h2 : i ≠ 2 := fun z => by
          have := hb.mpr z
          cases this
        refine ifF rfl ⟨⟨acc, e1, ?_⟩, k⟩
        rw [e2]
        by_cases c : i ≤ 2
        · rw [if_pos c, if_pos (by omega)]
        · rw [if_neg c, if_neg (by omega)]
    · obtain ⟨⟨acc, e1, e2⟩, k⟩ := z
      have e2 : acc = [V.str "NoLaying"] := e2
      subst e2
      refine ⟨_, rfl, _, 1, rfl, .inl ⟨_, SqL.of e1, rfl⟩, rfl, _, rfl, ifT rfl ?_⟩
      refine ⟨_, rfl, _, _, _, rfl, fun u z => z, R.kv, _, rfl, ifT rfl ?_⟩
      exact ⟨_, rfl, D2, _, 0, _, rfl, rfl, SqL.of e1, atI_nat (j := 0) rfl, h3 _ (tA.trans k)⟩
  · refine ⟨fun cls d H3 => cls = .ref CN ∧ d = none ∧ ∀ H4, Same H3 H4 → Q (.str "NoLaying") H4, fun cls d H3 hE => ⟨true, ?_, fun _ a na => ?_, fun z => (by cases z)⟩, rfl, hc, h⟩
    · rw [hE.1]
      exact R.em
    · exact ⟨hE.1, hE.2.1, na, rfl, hE.2.2⟩
end MfW
namespace MfW
open PySem PySem.Spec PyProof.Rows L2
section
variable {P : Program} {w : World} {K : PySem.W.Frag} {mg : Str → Option Value} {base : Heap}
/-- a value is a tuple of these -/
def TupIs (H : Hp) (v : V) (xs : List V) : Prop := ∃ p, v = .ref p ∧ H p = some (.tup xs)
theorem TL.tupIs {H H2 : Hp} {v : V} {xs : List V} (l : TL H H2) (h : TupIs H v xs) : TupIs H2 v xs := by
  obtain ⟨p, e, h⟩ := h
  exact ⟨p, e, l _ _ h⟩
theorem sl_use {H : Hp} {v : V} {xs ys : List V} {lo hi : Option Int} {Q : VK} (h : TupIs H v xs) (e : cutV xs lo hi = ys) (q : ∀ v2 H2, Same H H2 → TupIs H2 v2 ys → Q v2 H2) : rSlA K v lo hi H Q := by
  obtain ⟨p, rfl, hp⟩ := h
  refine ⟨p, xs, rfl, SqT.of hp, fun z => ?_, fun _ p2 np => ?_⟩
  · refine q _ _ (Same.refl _) ⟨p, rfl, ?_⟩
    rw [hp, ← e]
    unfold cutV
    rw [z.1, z.2, List.drop_zero, Nat.sub_zero, List.take_length]
  · rw [e]
    exact q _ _ (same_new np) ⟨p2, rfl, upd_same⟩
theorem sl_to {H : Hp} {v : V} {xs : List V} {i : Int} {k : Nat} {Q : VK} (h : TupIs H v xs) (e : i = (k : Int)) (q : ∀ v2 H2, Same H H2 → TupIs H2 v2 (xs.take k) → Q v2 H2) : rSlA K v none (some i) H Q := by
  refine sl_use h ?_ q
  rw [e]
  unfold cutV
  rw [HT.sIx_none, HT.sIx_nat, List.drop_zero, Nat.sub_zero]
  by_cases c : k ≤ xs.length
  · rw [Nat.min_eq_left c]
  · rw [Nat.min_eq_right (by omega), List.take_length, List.take_of_length_le (by omega)]
theorem sl_from {H : Hp} {v : V} {xs : List V} {i : Int} {k : Nat} {Q : VK} (h : TupIs H v xs) (e : i = (k : Int)) (q : ∀ v2 H2, Same H H2 → TupIs H2 v2 (xs.drop k) → Q v2 H2) {σ : L2.St} : tNoPart σ H fun u H3 => rSlA K v (some i) u H3 Q := by
  show rSlA K v (some i) none H Q
  refine sl_use h ?_ q
  rw [e]
  unfold cutV
  rw [HT.sIx_none, HT.sIx_nat]
  by_cases c : k ≤ xs.length
  · rw [Nat.min_eq_left c, List.take_of_length_le (by rw [List.length_drop]; exact Nat.le_refl _)]
  · rw [Nat.min_eq_right (by omega), Nat.sub_self, List.take_zero, List.drop_of_length_le (by omega)]
theorem cat_use {H : Hp} {v u : V} {xs ys : List V} {Q : VK} (h : TupIs H v xs) (h2 : TupIs H u ys) (l : xs.length + ys.length ≤ sizeLine) (q : ∀ v2 H2, Same H H2 → TupIs H2 v2 (xs ++ ys) → Q v2 H2) : rCatA K v u H Q := by
  obtain ⟨p, rfl, hp⟩ := h
  obtain ⟨p2, rfl, hp2⟩ := h2
  refine ⟨p, p2, xs, ys, rfl, rfl, SqT.of hp, SqT.of hp2, l, fun z => ?_, fun _ z => ?_, fun _ _ p3 np => q _ _ (same_new np) ⟨p3, rfl, upd_same⟩⟩
  · exact q _ _ (Same.refl _) ⟨p2, rfl, by rw [hp2, z, List.nil_append]⟩
  · exact q _ _ (Same.refl _) ⟨p, rfl, by rw [hp, z, List.append_nil]⟩
theorem Els.take {α : Type} {R : Hp → V → α → Prop} {H : Hp} {vs : List V} {xs : List α} (h : Els R H vs xs) (k : Nat) : Els R H (vs.take k) (xs.take k) := by
  refine ⟨by rw [List.length_take, List.length_take, h.1], fun i u e => ?_⟩
  have hi : i < k := by
    have := (List.getElem?_eq_some_iff.mp e).1
    rw [List.length_take] at this
    omega
  rw [List.getElem?_take_of_lt hi] at e
  rw [List.getElem?_take_of_lt hi]
  exact h.2 i u e
theorem Els.drop {α : Type} {R : Hp → V → α → Prop} {H : Hp} {vs : List V} {xs : List α} (h : Els R H vs xs) (k : Nat) : Els R H (vs.drop k) (xs.drop k) := by
  refine ⟨by rw [List.length_drop, List.length_drop, h.1], fun i u e => ?_⟩
  rw [List.getElem?_drop] at e
  rw [List.getElem?_drop]
  exact h.2 _ u e
theorem tiles_set {H : Hp} {v v2 : V} {us : List V} {ts : List Mf.T4} {k : Nat} {s : Mf.T4} (E : Els TileAt H us ts) (hs : TileAt H v2 s) (hk : k < us.length) (h : TupIs H v (us.take k ++ [v2] ++ us.drop (k + 1))) : ∃ p, v = .ref p ∧ TilesAt H p (ts.set k s) := by
  obtain ⟨p, e, hp⟩ := h
  refine ⟨p, e, _, hp, ?_⟩
  rw [← Mf.set_as (by rw [← E.1]; exact hk)]
  exact ((E.take k).app (Els.cons hs Els.nil)).app (E.drop (k + 1))
theorem bad_cover {r : Mf.Rt} {H : Hp} {W Hh : Mf.N3} {p : Addr} {ts : List Mf.T4} {e m : Nat} (hd : RtOk r) (S : Mf.Sz r e m W Hh ts) (he : e ≤ 400) (hm : m ≤ 400) (nW : Mf.Nm W) (nH : Mf.Nm Hh) (nm : ∀ t ∈ ts, t.nm) (l1 : 1 ≤ ts.length) (l2 : ts.length ≤ 60) (T : TilesAt H p ts) (c : ¬ Mf.Cover r W Hh ts) : BadT r H W Hh (.ref p) := by
  obtain ⟨sW, sH, sT⟩ := S.sm (by omega) (by omega) nm nW nH
  exact .cover T l1 l2 ⟨nW, nH, sW, sH, nm, fun t ht => sT t ht, Mf.arOk_of hd.le S he hm nm (by omega), by omega⟩ c
theorem set_nm {ts : List Mf.T4} {k : Nat} {s : Mf.T4} (h : ∀ t ∈ ts, t.nm) (hs : s.nm) : ∀ t ∈ ts.set k s, t.nm := fun t ht => by
  rcases List.mem_or_eq_of_mem_set ht with z | z
  · exact h t z
  · rw [z]
    exact hs
theorem BadT.sb {r : Mf.Rt} {b : Addr} {H H2 : Hp} {W Hh : Mf.N3} {v : V} (h : BadT r H W Hh v) (s : SB b H H2) (hB : Bag H b) : BadT r H2 W Hh v := by
  have l := s.tl hB
  cases h with
  | @lst a xs e =>
    by_cases c : a = b
    · subst c
      obtain ⟨ys, hy⟩ := s.1.tl
      exact .lst hy
    · exact .lst (s.2 a _ c e)
  | nil e => exact .nil (l _ _ e)
  | odd e n1 n2 all bad =>
    refine .odd (l _ _ e) n1 n2 (fun i v q => ?_) ?_
    · rcases all i v q with z | ⟨t, h1, h2, h3⟩
      · exact .inl (z.sb s hB)
      · exact .inr ⟨t, l.tile h1, h2, h3⟩
    · obtain ⟨i, v, q, z⟩ := bad
      refine ⟨i, v, q, ?_⟩
      rcases z with z | ⟨t, h1, h2, h3, h4⟩
      · exact .inl (z.sb s hB)
      · exact .inr ⟨t, l.tile h1, h2, h3, h4⟩
  | cover e n1 n2 F c => exact .cover (l.tiles e) n1 n2 F c
/-- a tile that is none in a row of tiles -/
theorem bad_odd {r : Mf.Rt} {H : Hp} {W Hh : Mf.N3} {v v2 : V} {us : List V} {ts : List Mf.T4} {k : Nat} (E : Els TileAt H us ts) (hk : k < us.length) (l2 : us.length ≤ 60) (nm : ∀ t ∈ ts, t.nm) (sm : ∀ t ∈ ts, SmT 401 t)
    (h : TupIs H v (us.take k ++ [v2] ++ us.drop (k + 1))) (h2 : Odd H v2 ∨ ∃ t, TileAt H v2 t ∧ t.nm ∧ SmT 2000 t ∧ tileB r t = false) : BadT r H W Hh v := by
  obtain ⟨p, rfl, hp⟩ := h
  rw [Mf.set_as hk] at hp
  refine .odd hp (by rw [List.length_set]; omega) (by rw [List.length_set]; exact l2) (fun i u e => ?_) ⟨k, v2, List.getElem?_set_self hk, h2⟩
  by_cases c : i = k
  · subst c
    rw [List.getElem?_set_self hk] at e
    cases e
    rcases h2 with z | ⟨t, z1, z2, z3, _⟩
    · exact .inl z
    · exact .inr ⟨t, z1, z2, z3⟩
  · rw [List.getElem?_set_ne (fun z => c z.symm)] at e
    obtain ⟨t, et, q⟩ := E.2 i u e
    have mt := List.mem_of_getElem? et
    exact .inr ⟨t, q, nm t mt, smT_mono (sm t mt) (by decide)⟩
theorem bad_lstS {r : Mf.Rt} {Z : Hp} {p : Addr} {xs : List V} {W Hh : Mf.N3} (_ : Same Z (upd Z p (.lst xs))) : BadT r (upd Z p (.lst xs)) W Hh (.ref p) := .lst upd_same
theorem bad_nilS {r : Mf.Rt} {Z : Hp} {p : Addr} {W Hh : Mf.N3} (_ : Same Z (upd Z p (.tup []))) : BadT r (upd Z p (.tup [])) W Hh (.ref p) := .nil upd_same
theorem nought_high {r : Mf.Rt} {t : Mf.T4} : tileB r ⟨t.x, t.y, t.w, Mf.N0⟩ = false := by
  unfold tileB
  have e : abv (Mf.T4.H r ⟨t.x, t.y, t.w, Mf.N0⟩) 0 = false := by
    cases h : abv (Mf.T4.H r ⟨t.x, t.y, t.w, Mf.N0⟩) 0 with
    | false => rfl
    | true =>
      have h2 := abv_iff.mp h
      have h3 : Mf.T4.H r ⟨t.x, t.y, t.w, Mf.N0⟩ = 0 := Mf.val0
      rw [h3] at h2
      grind
  rw [e, Bool.and_false, Bool.and_false]
abbrev N__law_spoilt : List Str := ["_law_bag_here", "_law_d", "_law_laying_here", "_law_width", "_law_height", "_law_tiles", "_law_at", "_law_x", "_law_y", "_law_w", "_law_h", "_law_more", "_law_wide", "_law_some", "_law_way"]
theorem sc__law_spoilt : FnScope N__law_spoilt ["_law_bag_here", "_law_d", "_law_laying_here"] (defScope (top 66)) := ⟨rfl, rfl, rfl, by decide +kernel, rfl, by decide +kernel, by decide +kernel⟩

def spSpoilt : Sp := fun vs H Q _ => ∃ (b : Addr) (r : Mf.Rt) (v : V) (W Hh : Mf.N3) (ts : List Mf.T4), vs = [.ref b, .int r.d, v] ∧ RtOk r ∧ Bag H b ∧ LayAt r H v W Hh ts ∧ ∀ v2 H2, SB b H H2 → BadLay r H2 v2 → Q v2 H2
theorem ok_spoilt (T : Txt K mg) (D : Df K mg "_law_spoilt" 66) (c_law_take : C8.Cal P w K mg base 1 "_law_take" spTake []) (c_law_plus : C8.Cal P w K mg base 3 "_law_plus" (spPlus K) []) (c_law_times : C8.Cal P w K mg base 3 "_law_times" (spTimes K) []) (c_law_odd : C8.Cal P w K mg base 2 "_law_odd" spOdd []) : C8.Cal P w K mg base 4 "_law_spoilt" spSpoilt [] := by
  refine mk_cal D sc__law_spoilt (fun vs H Q E h => ?_) (fun _ _ _ _ _ _ us hl => match us, hl with | [_, _, _], _ => rfl) (fun cdv A outer s f H vs Q E hr h => ?_)
  · obtain ⟨b, r, v, W, Hh, ts, rfl, _⟩ := h
    rfl
  · obtain ⟨b, r, v, W, Hh, ts, rfl, hd, hB, hL, q⟩ := h
    refine ⟨_, (pss_cons (ps_asg (pv 2) (pg_tup rfl (pgs_cons (pg_name (i := 3) sc__law_spoilt.nd rfl (Or.inl rfl)) (pgs_cons (pg_name (i := 4) sc__law_spoilt.nd rfl (Or.inl rfl)) (pgs_cons (pg_name (i := 5) sc__law_spoilt.nd rfl (Or.inl rfl)) pgs_nil)))))
      (C8.pss_cut (ps_set (i := 6) sc__law_spoilt.nd rfl (Or.inl rfl) (C8.pe_c c_law_take hr (by decide) (by rfl) (pa_cons (pv 0) (pa_cons (pe_callB call_len (by rfl) T.len (by decide +kernel) (pa_cons (pv 5) pa_nil)) pa_nil))))
      (pss_cons (ps_asg (pe_ix ix_tup (pv 5) (pv 6) (fun _ _ => rfl)) (pg_tup rfl (pgs_cons (pg_name (i := 7) sc__law_spoilt.nd rfl (Or.inl rfl)) (pgs_cons (pg_name (i := 8) sc__law_spoilt.nd rfl (Or.inl rfl)) (pgs_cons (pg_name (i := 9) sc__law_spoilt.nd rfl (Or.inl rfl)) (pgs_cons (pg_name (i := 10) sc__law_spoilt.nd rfl (Or.inl rfl)) pgs_nil))))))
      (pss_cons (ps_set (i := 11) sc__law_spoilt.nd rfl (Or.inl rfl) (C8.pe_c c_law_plus hr (by decide) (by rfl) (pa_cons (pv 9) (pa_cons (pe_tup (pa_cons pe_int (pa_cons pe_int (pa_cons (pe_op op_add pe_int (C8.pe_c c_law_take hr (by decide) (by rfl) (pa_cons (pv 0) (pa_cons pe_int pa_nil)))) pa_nil)))) pa_nil))))
      (C8.pss_cut (ps_set (i := 12) sc__law_spoilt.nd rfl (Or.inl rfl) (C8.pe_c c_law_plus hr (by decide) (by rfl) (pa_cons (pv 3) (pa_cons (pe_tup (pa_cons pe_int (pa_cons pe_int (pa_cons (pe_op op_add pe_int (C8.pe_c c_law_take hr (by decide) (by rfl) (pa_cons (pv 0) (pa_cons pe_int pa_nil)))) pa_nil)))) pa_nil))))
      (C8.pss_cut (ps_set (i := 13) sc__law_spoilt.nd rfl (Or.inl rfl) (pe_lst (pa_cons (pe_op op_catA (pe_slice sl_tupA (pv 5) po_none (po_some (pv 6))) (pe_slice sl_tupA (pv 5) (po_some (pe_op op_add (pv 6) pe_int)) po_none)) (pa_cons (pe_op op_catA (pe_slice sl_tupA (pv 5) po_none (po_some (pe_op op_add (pv 6) pe_int))) (pe_slice sl_tupA (pv 5) (po_some (pv 6)) po_none)) (pa_cons (pe_op op_catA (pe_op op_catA (pe_slice sl_tupA (pv 5) po_none (po_some (pv 6))) (pe_tup (pa_cons (pe_tup (pa_cons (pv 7) (pa_cons (pv 8) (pa_cons (pv 11) (pa_cons (pv 10) pa_nil))))) pa_nil))) (pe_slice sl_tupA (pv 5) (po_some (pe_op op_add (pv 6) pe_int)) po_none)) (pa_cons (pe_op op_catA (pe_op op_catA (pe_slice sl_tupA (pv 5) po_none (po_some (pv 6))) (pe_tup (pa_cons (pe_tup (pa_cons (C8.pe_c c_law_plus hr (by decide) (by rfl) (pa_cons (pv 7) (pa_cons (pe_tup (pa_cons pe_int (pa_cons pe_int (pa_cons pe_int pa_nil)))) pa_nil))) (pa_cons (pv 8) (pa_cons (pv 9) (pa_cons (pv 10) pa_nil))))) pa_nil))) (pe_slice sl_tupA (pv 5) (po_some (pe_op op_add (pv 6) pe_int)) po_none)) (pa_cons (pe_callTy call_list_of (by rfl) T.list (by decide +kernel) (pa_cons (pv 5) pa_nil)) (pa_cons (pe_tup pa_nil) (pa_cons (pe_op op_catA (pe_op op_catA (pe_slice sl_tupA (pv 5) po_none (po_some (pv 6))) (pe_tup (pa_cons (pe_tup (pa_cons (pv 7) (pa_cons (pv 8) (pa_cons (pv 9) (pa_cons (pe_tup (pa_cons pe_int (pa_cons pe_int (pa_cons pe_int pa_nil)))) pa_nil))))) pa_nil))) (pe_slice sl_tupA (pv 5) (po_some (pe_op op_add (pv 6) pe_int)) po_none)) (pa_cons (pe_op op_catA (pe_op op_catA (pe_slice sl_tupA (pv 5) po_none (po_some (pv 6))) (pe_tup (pa_cons (C8.pe_c c_law_odd hr (by decide) (by rfl) (pa_cons (pv 0) pa_nil)) pa_nil))) (pe_slice sl_tupA (pv 5) (po_some (pe_op op_add (pv 6) pe_int)) po_none)) pa_nil))))))))))
      (pss_cons (ps_set (i := 14) sc__law_spoilt.nd rfl (Or.inl rfl) (C8.pe_c c_law_take hr (by decide) (by rfl) (pa_cons (pv 0) (pa_cons pe_int pa_nil))))
      (pss_cons (ps_if (pt_cmpR op_lt (pv 14) pe_int (nomark _)) (pss_one (ps_ret (pe_tup (pa_cons (pv 3) (pa_cons (pv 4) (pa_cons (pe_ix ix_list (pv 13) (pv 14) (fun _ _ => rfl)) pa_nil)))))) pss_nil)
      (pss_one (ps_ret (pe_ix ix_list (pe_lst (pa_cons (pe_tup (pa_cons (pv 12) (pa_cons (pv 4) (pa_cons (pv 5) pa_nil)))) (pa_cons (pe_tup (pa_cons (pv 3) (pa_cons (C8.pe_c c_law_times hr (by decide) (by rfl) (pa_cons (pv 1) (pa_cons (pv 4) (pa_cons (pe_tup (pa_cons pe_int (pa_cons pe_int (pa_cons pe_int pa_nil)))) pa_nil)))) (pa_cons (pv 5) pa_nil)))) pa_nil))) (pe_op op_sub (pv 14) pe_int) (fun _ _ => rfl)))))))))))), ?_⟩
    have up : ∀ {n : Nat} {x : Mf.N3}, Mf.Sm n x → n ≤ 2000 → Mf.Sm 2000 x := fun h hn => sm_mono h hn
    have d5 := hd.d5
    have sl : sizeLine = 16777216 := sizeLine_eq
    have L := hL.lay
    obtain ⟨e, m, S, he, hm⟩ := hL.sz
    have ln := hL.len
    obtain ⟨⟨a, ⟨⟨pl, v1, v2, rfl, h0, hW, hH⟩, _⟩, ⟨us, hu, hT⟩⟩, n1, n2, F, _, _⟩ := hL.good
    have lu := hT.1
    refine ⟨_, rfl, pl, _, rfl, SqT.of h0, rfl, _, _, rfl, _, _, rfl, _, _, rfl, rfl, ?_⟩
    refine ⟨fun σ H1 => ∃ k : Nat, σ = [some (.ref b), some (.int r.d), some (.ref pl), some v1, some v2, some (.ref a), some (.int (k : Int)), none, none, none, none, none, none, none, none] ∧ k < us.length ∧ SB b H H1, ?_, ?_⟩
    · refine ⟨_, rfl, _, rfl, _, _, rfl, .inr ⟨_, SqT.of hu, rfl⟩, b, (us.length : Int), rfl, hB, by omega, by omega, fun x H1 x0 x1 s1 => ?_⟩
      obtain ⟨k, rfl⟩ : ∃ k : Nat, x = (k : Int) := ⟨x.toNat, by omega⟩
      exact ⟨k, rfl, by omega, s1⟩
    rintro σ H1 ⟨k, rfl, hk, s1⟩
    obtain ⟨vt, evt⟩ : ∃ vt, us[k]? = some vt := ⟨_, List.getElem?_eq_getElem hk⟩
    obtain ⟨t, et, pt, u1, u2, u3, u4, rfl, t0, t1, t2, t3, t4⟩ := hT.2 k vt evt
    have mt := List.mem_of_getElem? et
    obtain ⟨nt1, nt2, nt3, nt4⟩ := L.nm t mt
    obtain ⟨z1, z2, z3, z4⟩ := F.sm t mt
    have it := L.inn t mt
    have hk2 : k < ts.length := by omega
    have l1 := s1.tl hB
    refine ⟨_, rfl, _, rfl, a, us, (k : Int), _, rfl, rfl, SqT.of (l1 _ _ hu), atI_nat evt, pt, _, rfl, SqT.of (l1 _ _ t0), rfl, _, _, rfl, _, _, rfl, _, _, rfl, _, _, rfl, rfl, ?_⟩
    -- a wider tile
    refine ⟨_, rfl, _, rfl, b, 999, rfl, s1.1, by decide, by decide, fun x2 H2 x20 x21 s2 => ⟨_, _, rfl, rfl, by show 3 ≤ sizeLine; decide, fun p3 np3 => ?_⟩⟩
    have s12 := s1.trans s2
    have l12 := s12.tl hB
    have hc0 : 0 < 1 + x2 := by omega
    refine ⟨u3, .ref p3, t.w, ⟨1, 0, 1 + x2⟩, rfl, (TL.nuH (.new np3) (l12.nuH t3)).nu, NuH.nu ⟨p3, rfl, upd_same⟩, up z3 (by decide), ⟨by show (1 : Int).natAbs < 2 ^ 2000; decide, by show (0 : Int).natAbs < 2 ^ 2000; decide, hc0, by show (1 + x2).natAbs < 2 ^ 2000; exact Nat.lt_of_lt_of_le (show (1 + x2).natAbs < 2 ^ 10 by omega) (Nat.pow_le_pow_right (by decide) (by decide))⟩, fun H3 vm s3 km => ?_⟩
    have sb3 := s12.trans (SB.of s12.1 ((same_new (o := .tup [V.int 1, .int 0, .int (1 + x2)]) np3).trans s3))
    refine ⟨fun σ H4 => ∃ (vd : V) (c : Int), σ = [some (.ref b), some (.int r.d), some (.ref pl), some v1, some v2, some (.ref a), some (.int (k : Int)), some u1, some u2, some u3, some u4, some vm, some vd, none, none] ∧ 0 < c ∧ c ≤ 1000 ∧ SB b H H4 ∧ NuH H4 vm (Mf.plusN t.w ⟨1, 0, 1 + x2⟩) ∧ NuH H4 vd (Mf.plusN W ⟨1, 0, c⟩), ?_, ?_⟩
    · refine ⟨_, rfl, _, rfl, b, 999, rfl, sb3.1, by decide, by decide, fun x4 H4 x40 x41 s4 => ⟨_, _, rfl, rfl, by show 3 ≤ sizeLine; decide, fun p5 np5 => ?_⟩⟩
      have sb4 := sb3.trans s4
      have hc4 : 0 < 1 + x4 := by omega
      refine ⟨v1, .ref p5, W, ⟨1, 0, 1 + x4⟩, rfl, (TL.nuH (.new np5) ((sb4.tl hB).nuH hW)).nu, NuH.nu ⟨p5, rfl, upd_same⟩, up F.sW (by decide), ⟨by show (1 : Int).natAbs < 2 ^ 2000; decide, by show (0 : Int).natAbs < 2 ^ 2000; decide, hc4, by show (1 + x4).natAbs < 2 ^ 2000; exact Nat.lt_of_lt_of_le (show (1 + x4).natAbs < 2 ^ 10 by omega) (Nat.pow_le_pow_right (by decide) (by decide))⟩, fun H5 vd s5 kd => ?_⟩
      have s45 := (same_new (o := .tup [V.int 1, .int 0, .int (1 + x4)]) np5).trans s5
      exact ⟨vd, 1 + x4, rfl, hc4, by omega, sb4.trans (SB.of sb4.1 s45), TL.nuH (.of s45) ((s4.tl sb3.1).nuH km), kd⟩
    rintro σ H4 ⟨vd, c, rfl, hc1, hc2, sb4, km4, kd4⟩
    refine ⟨fun σ H5 => ∃ (ps : Addr) (items : List V), σ = [some (.ref b), some (.int r.d), some (.ref pl), some v1, some v2, some (.ref a), some (.int (k : Int)), some u1, some u2, some u3, some u4, some vm, some vd, some (.ref ps), none] ∧ SB b H H5 ∧ NuH H5 vd (Mf.plusN W ⟨1, 0, c⟩) ∧ H5 ps = some (.lst items) ∧ items.length = 8 ∧ (∀ v ∈ items, BadT r H5 W Hh v), ?_, ?_⟩
    · have l4 := sb4.tl hB
      have k1 := l4.nuH t1
      have k2 := l4.nuH t2
      have k3 := l4.nuH t3
      have k4 := l4.nuH t4
      have kU : TupIs H4 (.ref a) us := ⟨a, rfl, l4 _ _ hu⟩
      have kE : Els TileAt H4 us ts := hT.mono fun v x h => l4.tile h
      have lt1 : (us.take k).length ≤ 60 := by rw [List.length_take]; omega
      have lt2 : (us.take (k + 1)).length ≤ 60 := by rw [List.length_take]; omega
      have ld1 : (us.drop (k + 1)).length ≤ 60 := by rw [List.length_drop]; omega
      have ld0 : (us.drop k).length ≤ 60 := by rw [List.length_drop]; omega
      refine ⟨_, rfl, _, rfl, _, rfl, sl_to (k := k) (TL.tupIs (TL.refl _) kU) (by omega) fun w1 X2 e3 c4 => ?_⟩
      refine ⟨_, rfl, _, rfl, _, _, rfl, rfl, _, rfl, sl_from (k := (k + 1)) (TL.tupIs (TL.of e3) kU) (by omega) fun w5 X6 e7 c8 => ?_⟩
      refine cat_use (TL.tupIs (TL.of e7) c4) (TL.tupIs (TL.refl _) c8) (by simp only [List.length_append, List.length_singleton, List.length_take, List.length_drop]; omega) fun w9 X10 e11 c12 => ?_
      have nz0 : us.take k ++ us.drop (k + 1) = us.eraseIdx k := (List.eraseIdx_eq_take_drop_succ ..).symm
      have el0 := List.length_eraseIdx_of_lt hk2
      have q0 := SB.of sb4.1 (Same.trans e3 (Same.trans e7 e11))
      have hb0 : BadT r _ W Hh w9 := (by
        obtain ⟨p, rfl, hp⟩ := c12
        rw [nz0] at hp
        by_cases h1 : ts.length = 1
        · have : us.eraseIdx k = [] := List.eq_nil_of_length_eq_zero (by rw [List.length_eraseIdx_of_lt hk]; omega)
          rw [this] at hp
          exact .nil hp
        · exact bad_cover hd (S.sub (us := ts.eraseIdx k) fun t ht => List.mem_of_mem_eraseIdx ht) (by omega) (by omega) L.nW L.nH (fun t ht => L.nm t (List.mem_of_mem_eraseIdx ht)) (by omega) (by omega) ⟨_, hp, (kE.mono fun v x h => TL.tile (TL.trans (TL.of e3) (TL.trans (TL.of e7) (TL.of e11))) h).erase hk⟩ (Mf.spoil0 L et))
      have sc0 := sb4.trans q0
      have lc0 := q0.tl sb4.1
      replace kU := lc0.tupIs kU
      replace k1 := lc0.nuH k1
      replace k2 := lc0.nuH k2
      replace k3 := lc0.nuH k3
      replace k4 := lc0.nuH k4
      replace km4 := lc0.nuH km4
      replace kd4 := lc0.nuH kd4
      replace kE := kE.mono fun v x h => lc0.tile h
      refine ⟨_, rfl, _, rfl, _, _, rfl, rfl, _, rfl, sl_to (k := (k + 1)) (TL.tupIs (TL.refl _) kU) (by omega) fun w13 X14 e15 c16 => ?_⟩
      refine ⟨_, rfl, _, rfl, _, rfl, sl_from (k := k) (TL.tupIs (TL.of e15) kU) (by omega) fun w17 X18 e19 c20 => ?_⟩
      refine cat_use (TL.tupIs (TL.of e19) c16) (TL.tupIs (TL.refl _) c20) (by simp only [List.length_append, List.length_singleton, List.length_take, List.length_drop]; omega) fun w21 X22 e23 c24 => ?_
      have q1 := SB.of sc0.1 (Same.trans e15 (Same.trans e19 e23))
      have hb1 : BadT r _ W Hh w21 := (by
        obtain ⟨p, rfl, hp⟩ := c24
        have pm := Mf.dup_perm et
        have le := pm.length_eq
        rw [List.length_cons] at le
        exact bad_cover hd (S.sub (us := ts.take (k + 1) ++ ts.drop k) fun s hs => (List.mem_cons.mp (pm.mem_iff.mp hs)).elim (fun z => by rw [z]; exact mt) id) (by omega) (by omega) L.nW L.nH (fun s hs => L.nm s ((List.mem_cons.mp (pm.mem_iff.mp hs)).elim (fun z => by rw [z]; exact mt) id)) (by omega) (by omega)
          ⟨_, hp, ((kE.take (k + 1)).app (kE.drop k)).mono fun v x h => TL.tile (TL.trans (TL.of e15) (TL.trans (TL.of e19) (TL.of e23))) h⟩ (Mf.spoil1 L mt pm))
      have sc1 := sc0.trans q1
      have lc1 := q1.tl sc0.1
      replace kU := lc1.tupIs kU
      replace k1 := lc1.nuH k1
      replace k2 := lc1.nuH k2
      replace k3 := lc1.nuH k3
      replace k4 := lc1.nuH k4
      replace km4 := lc1.nuH km4
      replace kd4 := lc1.nuH kd4
      replace kE := kE.mono fun v x h => lc1.tile h
      refine ⟨_, rfl, _, rfl, _, rfl, sl_to (k := k) (TL.tupIs (TL.refl _) kU) (by omega) fun w25 X26 e27 c28 => ?_⟩
      refine ⟨_, rfl, _, rfl, _, rfl, _, rfl, by show 4 ≤ sizeLine; decide, fun o29 o29n => ?_⟩
      have kt2 := tile_new o29n (TL.nuH (TL.of e27) k1) (TL.nuH (TL.of e27) k2) (TL.nuH (TL.of e27) km4) (TL.nuH (TL.of e27) k4)
      have o29s := same_new (o := .tup [u1, u2, vm, u4]) o29n
      refine ⟨by show 1 ≤ sizeLine; decide, fun o30 o30n => ?_⟩
      have o30s := same_new (o := .tup [V.ref o29]) o30n
      have o30k : ∀ Z : Hp, TupIs (upd Z o30 (.tup [V.ref o29])) (.ref o30) [V.ref o29] := fun Z => ⟨o30, rfl, upd_same⟩
      refine cat_use (TL.tupIs (TL.trans (TL.of o29s) (TL.of o30s)) c28) (TL.tupIs (TL.refl _) (o30k _)) (by simp only [List.length_append, List.length_singleton, List.length_take, List.length_drop]; omega) fun w31 X32 e33 c34 => ?_
      refine ⟨_, rfl, _, rfl, _, _, rfl, rfl, _, rfl, sl_from (k := (k + 1)) (TL.tupIs (TL.trans (TL.of e27) (TL.trans (TL.of o29s) (TL.trans (TL.of o30s) (TL.of e33)))) kU) (by omega) fun w35 X36 e37 c38 => ?_⟩
      refine cat_use (TL.tupIs (TL.of e37) c34) (TL.tupIs (TL.refl _) c38) (by simp only [List.length_append, List.length_singleton, List.length_take, List.length_drop]; omega) fun w39 X40 e41 c42 => ?_
      have nfr : Mf.Nm ⟨1, 0, 1 + x2⟩ := Mf.nm_frac hc0
      have q2 := SB.of sc1.1 (Same.trans e27 (Same.trans o29s (Same.trans o30s (Same.trans e33 (Same.trans e37 e41)))))
      have hb2 : BadT r _ W Hh w39 := (by
        obtain ⟨p, rfl, hp⟩ := tiles_set (s := ⟨t.x, t.y, Mf.plusN t.w ⟨1, 0, 1 + x2⟩, t.h⟩) (kE.mono fun v x h => TL.tile (TL.trans (TL.of e27) (TL.trans (TL.of o29s) (TL.trans (TL.of o30s) (TL.trans (TL.of e33) (TL.trans (TL.of e37) (TL.of e41)))))) h) (TL.tile (TL.trans (TL.of o30s) (TL.trans (TL.of e33) (TL.trans (TL.of e37) (TL.of e41)))) kt2) hk c42
        exact bad_cover hd (Mf.sz_more (us := ts.set k ⟨t.x, t.y, Mf.plusN t.w ⟨1, 0, 1 + x2⟩, t.h⟩) S hc0 (by omega) L.nW L.nm L.nH (.inl rfl) fun s hs => (List.mem_or_eq_of_mem_set hs).elim (fun z => ⟨s, z, .inl rfl, .inl rfl, rfl, rfl⟩) fun z => ⟨t, mt, by rw [z]; exact (.inl rfl), by rw [z]; exact (.inr rfl), by rw [z], by rw [z]⟩) (by omega) (by omega) L.nW L.nH (set_nm L.nm ⟨nt1, nt2, Mf.plus_nm nt3.ne nfr.ne, nt4⟩) (by rw [List.length_set]; omega) (by rw [List.length_set]; omega) hp (Mf.spoil_set L et (by
          show t.W r * t.H r < Mf.val r (Mf.plusN t.w ⟨1, 0, 1 + x2⟩) * t.H r
          rw [Mf.plus_val nt3.ne nfr.ne]
          have p1 := Mf.fmul_pos (Mf.frac_pos (r := r) hc0) it.2.2.2.2.2
          show Mf.val r t.w * t.H r < (Mf.val r t.w + Mf.val r ⟨1, 0, 1 + x2⟩) * t.H r
          have e2 : (Mf.val r t.w + Mf.val r ⟨1, 0, 1 + x2⟩) * t.H r = Mf.val r t.w * t.H r + Mf.val r ⟨1, 0, 1 + x2⟩ * t.H r := by grind
          rw [e2]
          generalize Mf.val r ⟨1, 0, 1 + x2⟩ * t.H r = y at *
          grind)))
      have sc2 := sc1.trans q2
      have lc2 := q2.tl sc1.1
      replace kU := lc2.tupIs kU
      replace k1 := lc2.nuH k1
      replace k2 := lc2.nuH k2
      replace k3 := lc2.nuH k3
      replace k4 := lc2.nuH k4
      replace km4 := lc2.nuH km4
      replace kd4 := lc2.nuH kd4
      replace kE := kE.mono fun v x h => lc2.tile h
      refine ⟨_, rfl, _, rfl, _, rfl, sl_to (k := k) (TL.tupIs (TL.refl _) kU) (by omega) fun w43 X44 e45 c46 => ?_⟩
      refine ⟨_, rfl, by show 3 ≤ sizeLine; decide, fun o47 o47n => ?_⟩
      have o47s := same_new (o := .tup [V.int 1, .int 0, .int 3]) o47n
      refine ⟨u1, .ref o47, t.x, ⟨1, 0, 3⟩, rfl, (TL.nuH (TL.trans (TL.of e45) (TL.of o47s)) k1).nu, NuH.nu ⟨o47, rfl, upd_same⟩, up z1 (by decide), ⟨by show (1 : Int).natAbs < 2 ^ 2000; decide, by show (0 : Int).natAbs < 2 ^ 2000; decide, by show (0 : Int) < 3; decide, by show (3 : Int).natAbs < 2 ^ 2000; exact Nat.lt_of_lt_of_le (show (3 : Int).natAbs < 2 ^ 2 by decide) (Nat.pow_le_pow_right (by decide) (by decide))⟩, fun X48 w49 e51 c50 => ?_⟩
      refine ⟨_, rfl, _, rfl, _, rfl, by show 4 ≤ sizeLine; decide, fun o52 o52n => ?_⟩
      have kt3 := tile_new o52n c50 (TL.nuH (TL.trans (TL.of e45) (TL.trans (TL.of o47s) (TL.of e51))) k2) (TL.nuH (TL.trans (TL.of e45) (TL.trans (TL.of o47s) (TL.of e51))) k3) (TL.nuH (TL.trans (TL.of e45) (TL.trans (TL.of o47s) (TL.of e51))) k4)
      have o52s := same_new (o := .tup [w49, u2, u3, u4]) o52n
      refine ⟨by show 1 ≤ sizeLine; decide, fun o53 o53n => ?_⟩
      have o53s := same_new (o := .tup [V.ref o52]) o53n
      have o53k : ∀ Z : Hp, TupIs (upd Z o53 (.tup [V.ref o52])) (.ref o53) [V.ref o52] := fun Z => ⟨o53, rfl, upd_same⟩
      refine cat_use (TL.tupIs (TL.trans (TL.of o47s) (TL.trans (TL.of e51) (TL.trans (TL.of o52s) (TL.of o53s)))) c46) (TL.tupIs (TL.refl _) (o53k _)) (by simp only [List.length_append, List.length_singleton, List.length_take, List.length_drop]; omega) fun w54 X55 e56 c57 => ?_
      refine ⟨_, rfl, _, rfl, _, _, rfl, rfl, _, rfl, sl_from (k := (k + 1)) (TL.tupIs (TL.trans (TL.of e45) (TL.trans (TL.of o47s) (TL.trans (TL.of e51) (TL.trans (TL.of o52s) (TL.trans (TL.of o53s) (TL.of e56)))))) kU) (by omega) fun w58 X59 e60 c61 => ?_⟩
      refine cat_use (TL.tupIs (TL.of e60) c57) (TL.tupIs (TL.refl _) c61) (by simp only [List.length_append, List.length_singleton, List.length_take, List.length_drop]; omega) fun w62 X63 e64 c65 => ?_
      have nf3 : Mf.Nm ⟨1, 0, 3⟩ := Mf.nm_frac (by decide)
      have q3 := SB.of sc2.1 (Same.trans e45 (Same.trans o47s (Same.trans e51 (Same.trans o52s (Same.trans o53s (Same.trans e56 (Same.trans e60 e64)))))))
      have hb3 : BadT r _ W Hh w62 := (by
        obtain ⟨p, rfl, hp⟩ := tiles_set (s := ⟨Mf.plusN t.x ⟨1, 0, 3⟩, t.y, t.w, t.h⟩) (kE.mono fun v x h => TL.tile (TL.trans (TL.of e45) (TL.trans (TL.of o47s) (TL.trans (TL.of e51) (TL.trans (TL.of o52s) (TL.trans (TL.of o53s) (TL.trans (TL.of e56) (TL.trans (TL.of e60) (TL.of e64)))))))) h) (TL.tile (TL.trans (TL.of o53s) (TL.trans (TL.of e56) (TL.trans (TL.of e60) (TL.of e64)))) kt3) hk c65
        exact bad_cover hd (Mf.sz_more (us := ts.set k ⟨Mf.plusN t.x ⟨1, 0, 3⟩, t.y, t.w, t.h⟩) S (show (0 : Int) < 3 by decide) (by decide) L.nW L.nm L.nH (.inl rfl) fun s hs => (List.mem_or_eq_of_mem_set hs).elim (fun z => ⟨s, z, .inl rfl, .inl rfl, rfl, rfl⟩) fun z => ⟨t, mt, by rw [z]; exact (.inr rfl), by rw [z]; exact (.inl rfl), by rw [z], by rw [z]⟩) (by omega) (by omega) L.nW L.nH (set_nm L.nm ⟨Mf.plus_nm nt1.ne nf3.ne, nt2, nt3, nt4⟩) (by rw [List.length_set]; omega) (by rw [List.length_set]; omega) hp (Mf.spoil3 L et (Mf.frac_pos (r := r) (c := 3) (by decide)) (Mf.plus_val nt1.ne nf3.ne) rfl rfl rfl))
      have sc3 := sc2.trans q3
      have lc3 := q3.tl sc2.1
      replace kU := lc3.tupIs kU
      replace k1 := lc3.nuH k1
      replace k2 := lc3.nuH k2
      replace k3 := lc3.nuH k3
      replace k4 := lc3.nuH k4
      replace km4 := lc3.nuH km4
      replace kd4 := lc3.nuH kd4
      replace kE := kE.mono fun v x h => lc3.tile h
      obtain ⟨pa, ea, ha⟩ := kU
      cases ea
      have kU : TupIs _ (.ref a) us := ⟨a, rfl, ha⟩
      refine ⟨_, rfl, a, us, rfl, .inr (SqT.of ha), fun o66 o66n => ?_⟩
      have o66s := same_new (o := .lst us) o66n
      have q4 := SB.of sc3.1 o66s
      have hb4 : BadT r _ W Hh (.ref o66) := bad_lstS o66s
      have sc4 := sc3.trans q4
      have lc4 := q4.tl sc3.1
      replace kU := lc4.tupIs kU
      replace k1 := lc4.nuH k1
      replace k2 := lc4.nuH k2
      replace k3 := lc4.nuH k3
      replace k4 := lc4.nuH k4
      replace km4 := lc4.nuH km4
      replace kd4 := lc4.nuH kd4
      replace kE := kE.mono fun v x h => lc4.tile h
      refine ⟨by show 0 ≤ sizeLine; decide, fun o67 o67n => ?_⟩
      have o67s := same_new (o := .tup ([] : List V)) o67n
      have q5 := SB.of sc4.1 o67s
      have hb5 : BadT r _ W Hh (.ref o67) := bad_nilS o67s
      have sc5 := sc4.trans q5
      have lc5 := q5.tl sc4.1
      replace kU := lc5.tupIs kU
      replace k1 := lc5.nuH k1
      replace k2 := lc5.nuH k2
      replace k3 := lc5.nuH k3
      replace k4 := lc5.nuH k4
      replace km4 := lc5.nuH km4
      replace kd4 := lc5.nuH kd4
      replace kE := kE.mono fun v x h => lc5.tile h
      refine ⟨_, rfl, _, rfl, _, rfl, sl_to (k := k) (TL.tupIs (TL.refl _) kU) (by omega) fun w68 X69 e70 c71 => ?_⟩
      refine ⟨_, rfl, _, rfl, _, rfl, by show 3 ≤ sizeLine; decide, fun o72 o72n => ?_⟩
      have o72s := same_new (o := .tup [V.int 0, .int 0, .int 1]) o72n
      have o72k : ∀ Z : Hp, NuH (upd Z o72 (.tup [V.int 0, .int 0, .int 1])) (.ref o72) Mf.N0 := fun Z => nuh_of upd_same rfl
      refine ⟨by show 4 ≤ sizeLine; decide, fun o73 o73n => ?_⟩
      have kt6 := tile_new o73n (TL.nuH (TL.trans (TL.of e70) (TL.of o72s)) k1) (TL.nuH (TL.trans (TL.of e70) (TL.of o72s)) k2) (TL.nuH (TL.trans (TL.of e70) (TL.of o72s)) k3) (o72k _)
      have o73s := same_new (o := .tup [u1, u2, u3, .ref o72]) o73n
      refine ⟨by show 1 ≤ sizeLine; decide, fun o74 o74n => ?_⟩
      have o74s := same_new (o := .tup [V.ref o73]) o74n
      have o74k : ∀ Z : Hp, TupIs (upd Z o74 (.tup [V.ref o73])) (.ref o74) [V.ref o73] := fun Z => ⟨o74, rfl, upd_same⟩
      refine cat_use (TL.tupIs (TL.trans (TL.of o72s) (TL.trans (TL.of o73s) (TL.of o74s))) c71) (TL.tupIs (TL.refl _) (o74k _)) (by simp only [List.length_append, List.length_singleton, List.length_take, List.length_drop]; omega) fun w75 X76 e77 c78 => ?_
      refine ⟨_, rfl, _, rfl, _, _, rfl, rfl, _, rfl, sl_from (k := (k + 1)) (TL.tupIs (TL.trans (TL.of e70) (TL.trans (TL.of o72s) (TL.trans (TL.of o73s) (TL.trans (TL.of o74s) (TL.of e77))))) kU) (by omega) fun w79 X80 e81 c82 => ?_⟩
      refine cat_use (TL.tupIs (TL.of e81) c78) (TL.tupIs (TL.refl _) c82) (by simp only [List.length_append, List.length_singleton, List.length_take, List.length_drop]; omega) fun w83 X84 e85 c86 => ?_
      have q6 := SB.of sc5.1 (Same.trans e70 (Same.trans o72s (Same.trans o73s (Same.trans o74s (Same.trans e77 (Same.trans e81 e85))))))
      have hb6 : BadT r _ W Hh w83 := bad_odd (kE.mono fun v x h => TL.tile (TL.trans (TL.of e70) (TL.trans (TL.of o72s) (TL.trans (TL.of o73s) (TL.trans (TL.of o74s) (TL.trans (TL.of e77) (TL.trans (TL.of e81) (TL.of e85))))))) h) hk (by omega) L.nm F.sm c86 (.inr ⟨⟨t.x, t.y, t.w, Mf.N0⟩, TL.tile (TL.trans (TL.of o74s) (TL.trans (TL.of e77) (TL.trans (TL.of e81) (TL.of e85)))) kt6, ⟨nt1, nt2, nt3, Mf.nm0⟩, ⟨up z1 (by decide), up z2 (by decide), up z3 (by decide), ⟨by show (0 : Int).natAbs < 2 ^ 2000; decide, by show (0 : Int).natAbs < 2 ^ 2000; decide, by show (0 : Int) < 1; decide, by show (1 : Int).natAbs < 2 ^ 2000; exact Nat.lt_of_lt_of_le (show (1 : Int).natAbs < 2 ^ 2 by decide) (Nat.pow_le_pow_right (by decide) (by decide))⟩⟩, nought_high⟩)
      have sc6 := sc5.trans q6
      have lc6 := q6.tl sc5.1
      replace kU := lc6.tupIs kU
      replace k1 := lc6.nuH k1
      replace k2 := lc6.nuH k2
      replace k3 := lc6.nuH k3
      replace k4 := lc6.nuH k4
      replace km4 := lc6.nuH km4
      replace kd4 := lc6.nuH kd4
      replace kE := kE.mono fun v x h => lc6.tile h
      refine ⟨_, rfl, _, rfl, _, rfl, sl_to (k := k) (TL.tupIs (TL.refl _) kU) (by omega) fun w87 X88 e89 c90 => ?_⟩
      have sbo := sc6.trans (SB.of sc6.1 e89)
      refine ⟨_, rfl, b, rfl, sbo.1, fun w91 X92 e93 c94 => ?_⟩
      refine ⟨by show 1 ≤ sizeLine; decide, fun o95 o95n => ?_⟩
      have o95s := same_new (o := .tup [w91]) o95n
      have o95k : ∀ Z : Hp, TupIs (upd Z o95 (.tup [w91])) (.ref o95) [w91] := fun Z => ⟨o95, rfl, upd_same⟩
      refine cat_use (TL.tupIs (TL.trans (e93.tl sbo.1) (TL.of o95s)) c90) (TL.tupIs (TL.refl _) (o95k _)) (by simp only [List.length_append, List.length_singleton, List.length_take, List.length_drop]; omega) fun w96 X97 e98 c99 => ?_
      refine ⟨_, rfl, _, rfl, _, _, rfl, rfl, _, rfl, sl_from (k := (k + 1)) (TL.tupIs (TL.trans (TL.of e89) (TL.trans (e93.tl sbo.1) (TL.trans (TL.of o95s) (TL.of e98)))) kU) (by omega) fun w100 X101 e102 c103 => ?_⟩
      refine cat_use (TL.tupIs (TL.of e102) c99) (TL.tupIs (TL.refl _) c103) (by simp only [List.length_append, List.length_singleton, List.length_take, List.length_drop]; omega) fun w104 X105 e106 c107 => ?_
      have so8 : Same _ _ := (Same.trans o95s (Same.trans e98 (Same.trans e102 e106)))
      have q7 := (SB.of sc6.1 e89).trans (e93.trans (SB.of e93.1 so8))
      have hb7 : BadT r _ W Hh w104 := bad_odd (kE.mono fun v x h => TL.tile (TL.trans (TL.of e89) (TL.trans (e93.tl sbo.1) (TL.trans (TL.of o95s) (TL.trans (TL.of e98) (TL.trans (TL.of e102) (TL.of e106)))))) h) hk (by omega) L.nm F.sm c107 (.inl (c94.same so8))
      have sc7 := sc6.trans q7
      have lc7 := q7.tl sc6.1
      replace kU := lc7.tupIs kU
      replace k1 := lc7.nuH k1
      replace k2 := lc7.nuH k2
      replace k3 := lc7.nuH k3
      replace k4 := lc7.nuH k4
      replace km4 := lc7.nuH km4
      replace kd4 := lc7.nuH kd4
      replace kE := kE.mono fun v x h => lc7.tile h
      refine ⟨by show 8 ≤ sizeLine; decide, fun ps nps => ?_⟩
      have T7 := SB.new sc7.1 (o := .lst ([w9, w21, w39, w62, (.ref o66), (.ref o67), w83, w104] : List V)) nps
      have T6 := q7.trans T7
      have T5 := q6.trans T6
      have T4 := q5.trans T5
      have T3 := q4.trans T4
      have T2 := q3.trans T3
      have T1 := q2.trans T2
      have T0 := q1.trans T1
      refine ⟨ps, [w9, w21, w39, w62, (.ref o66), (.ref o67), w83, w104], rfl, sc7.trans T7, (T7.tl sc7.1).nuH kd4, upd_same, rfl, fun v hv => ?_⟩
      simp only [List.mem_cons, List.not_mem_nil, or_false] at hv
      rcases hv with rfl | rfl | rfl | rfl | rfl | rfl | rfl | rfl
      · exact hb0.sb T0 sc0.1
      · exact hb1.sb T1 sc1.1
      · exact hb2.sb T2 sc2.1
      · exact hb3.sb T3 sc3.1
      · exact hb4.sb T4 sc4.1
      · exact hb5.sb T5 sc5.1
      · exact hb6.sb T6 sc6.1
      · exact hb7.sb T7 sc7.1
    rintro σ H5 ⟨ps, items, rfl, sb5, kd5, hps, hlen, hbad⟩
    have npb : ps ≠ b := fun z => by
      obtain ⟨g, m, hb, _⟩ := sb5.1
      rw [z, hb] at hps
      have := HO.lst.inj (Option.some.inj hps)
      rw [← this] at hlen
      cases hlen
    refine ⟨_, rfl, b, 10, rfl, sb5.1, by decide, by decide, fun y H6 y0 y1 s6 => ?_⟩
    have sb6 := sb5.trans s6
    have l6 := sb6.tl hB
    refine ⟨_, rfl, _, _, rfl, rfl, _, rfl, ?_⟩
    refine ifB (fun c8 => ?_) (fun c8 => ?_)
    · have c8 := of_decide_eq_true c8
      obtain ⟨vb, eb, hvb⟩ := pick (xs := items) hbad y0 (by omega)
      refine ⟨_, rfl, _, rfl, _, rfl, _, rfl, ps, items, y, vb, rfl, rfl, SqL.of (s6.2 ps _ npb hps), eb, by show 3 ≤ sizeLine; decide, fun p np => ?_⟩
      have s7 := SB.new sb6.1 (o := .tup [v1, v2, vb]) np
      exact q (.ref p) _ (sb6.trans s7) ⟨W, Hh, vb, ⟨⟨p, v1, v2, rfl, upd_same, (TL.new np).nuH (l6.nuH hW), (TL.new np).nuH (l6.nuH hH)⟩, L.nW, L.nH, F.sW, F.sH, L.pW, L.pH⟩, (hvb.sb s6 sb5.1).sb s7 sb6.1⟩
    · have c9 : ¬ y < 8 := fun h => by
        rw [decide_eq_true h] at c8
        cases c8
      have nfc : Mf.Nm ⟨1, 0, c⟩ := Mf.nm_frac hc1
      refine ⟨_, rfl, _, rfl, _, rfl, by show 3 ≤ sizeLine; decide, fun p np => ?_⟩
      have s7 := same_new (o := .tup [vd, v2, .ref a]) np
      refine ⟨_, rfl, _, rfl, _, rfl, by show 3 ≤ sizeLine; decide, fun pf npf => ?_⟩
      have s8 := same_new (o := .tup [V.int 1, .int 0, .int 2]) npf
      have l8 := l6.trans ((TL.of s7).trans (TL.of s8))
      refine ⟨r.d, v2, .ref pf, Hh, ⟨1, 0, 2⟩, rfl, (l8.nuH hH).nu, NuH.nu ⟨pf, rfl, upd_same⟩, d5, up F.sH (by decide), ⟨by show (1 : Int).natAbs < 2 ^ 2000; decide, by show (0 : Int).natAbs < 2 ^ 2000; decide, by show (0 : Int) < 2; decide, by show (2 : Int).natAbs < 2 ^ 2000; exact Nat.lt_of_lt_of_le (show (2 : Int).natAbs < 2 ^ 2 by decide) (Nat.pow_le_pow_right (by decide) (by decide))⟩, fun H9 vh s9 kh => ?_⟩
      refine ⟨_, rfl, by show 3 ≤ sizeLine; decide, fun p2 np2 => ?_⟩
      have s10 := same_new (o := .tup [v1, vh, .ref a]) np2
      refine ⟨by show 2 ≤ sizeLine; decide, fun pq npq => ?_⟩
      have s11 := same_new (o := .lst [V.ref p, .ref p2]) npq
      have st := s8.trans (s9.trans (s10.trans s11))
      have sAll := sb6.trans (SB.of sb6.1 (s7.trans st))
      have lA := sAll.tl hB
      have kd9 : NuH _ vd (Mf.plusN W ⟨1, 0, c⟩) := TL.nuH (TL.of (s7.trans st)) ((s6.tl sb5.1).nuH kd5)
      have kh9 := TL.nuH (TL.of (s10.trans s11)) kh
      have e1 := st _ _ (upd_same (H := H6) (a := p) (o := .tup [vd, v2, .ref a]))
      have e2 := s11 _ _ (upd_same (H := H9) (a := p2) (o := .tup [v1, vh, .ref a]))
      have eq := upd_same (H := upd H9 p2 (.tup [v1, vh, .ref a])) (a := pq) (o := .lst [V.ref p, .ref p2])
      have kT : TilesAt _ a ts := lA.tiles ⟨us, hu, hT⟩
      have nW2 := Mf.plus_nm L.nW.ne nfc.ne
      have SW := Mf.sz_more (W' := Mf.plusN W ⟨1, 0, c⟩) (us := ts) S hc1 (by omega) L.nW L.nm L.nH (.inr rfl) fun s hs => ⟨s, hs, .inl rfl, .inl rfl, rfl, rfl⟩
      have SH := Mf.sz_half hd.le S L.nH
      have nH2 := Mf.times_nm (d := r.d) L.nH.ne (Mf.nm_frac (c := 2) (by decide)).ne
      obtain ⟨sW, _, _⟩ := SW.sm (by omega) (by omega) L.nm nW2 L.nH
      obtain ⟨_, sH, _⟩ := SH.sm (by omega) (by omega) L.nm L.nW nH2
      have pW2 : 0 < Mf.val r (Mf.plusN W ⟨1, 0, c⟩) := by
        rw [Mf.plus_val L.nW.ne nfc.ne]
        have h1 := L.pW
        have h2 := Mf.frac_pos (r := r) hc1
        grind
      have b1 : BadLay r _ (.ref p) := ⟨_, _, _, ⟨⟨p, vd, v2, rfl, e1, kd9, lA.nuH hH⟩, nW2, L.nH, sW, F.sH, pW2, L.pH⟩, bad_cover hd SW (by omega) (by omega) nW2 L.nH L.nm n1 n2 kT (Mf.spoil_floor L (Mf.wide_ne hc1 L.nW L.pH))⟩
      have b2 : BadLay r _ (.ref p2) := ⟨_, _, _, ⟨⟨p2, v1, vh, rfl, e2, lA.nuH hW, kh9⟩, L.nW, nH2, F.sW, sH, L.pW, Mf.half_pos L.nH L.pH⟩, bad_cover hd SH (by omega) (by omega) L.nW nH2 L.nm n1 n2 kT (Mf.spoil_floor L (Mf.half_ne L.nH L.pW L.pH))⟩
      have mk : ∀ v ∈ ([V.ref p, .ref p2] : List V), BadLay r _ v := fun v hv => by
        simp only [List.mem_cons, List.not_mem_nil, or_false] at hv
        rcases hv with rfl | rfl
        · exact b1
        · exact b2
      obtain ⟨vz, ez, hz⟩ := pick mk (show 0 ≤ y - 8 by omega) (show y - 8 < (([V.ref p, .ref p2] : List V).length : Int) by show y - 8 < 2; omega)
      exact ⟨_, rfl, _, _, rfl, rfl, pq, _, y - 8, vz, rfl, rfl, SqL.of eq, ez, q vz _ sAll hz⟩
end
end MfW
namespace MfW
open PySem PySem.Spec PyProof.Rows L2
section
variable {P : Program} {w : World} {K : PySem.W.Frag} {mg : Str → Option Value} {base : Heap}
abbrev N_law : List Str := ["_law_script", "_law_k", "_law_bag_here", "_law_d", "_law_laying_here", "_law_turn", "_law_weights", "_law_one", "_law_told", "_law_spoilt_here"]
theorem sc_law : FnScope N_law ["_law_script"] (defScope (top 67)) := ⟨rfl, rfl, rfl, by decide +kernel, rfl, by decide +kernel, by decide +kernel⟩

/-- what is no list stays -/
def NL (H H2 : Hp) : Prop := ∀ a o, (∀ xs, o ≠ .lst xs) → H a = some o → H2 a = some o
theorem NL.trans {H H1 H2 : Hp} (a : NL H H1) (b : NL H1 H2) : NL H H2 := fun c o n h => b c o n (a c o n h)
theorem NL.of {H H2 : Hp} (s : Same H H2) : NL H H2 := fun a o _ e => s a o e
theorem NL.sb {b : Addr} {H H2 : Hp} (s : SB b H H2) (hB : Bag H b) : NL H H2 := fun a o n e => by
  obtain ⟨ys, hb⟩ := hB.tl
  exact s.2 a o (ne_of e hb (n ys)) e
theorem NL.put {H : Hp} {D : Addr} {xs : List V} {o : HO} (h : H D = some (.lst xs)) : NL H (upd H D o) := fun a u n e => by
  rw [upd_ne (ne_of e h (n xs))]
  exact e
theorem NL.tl {H H2 : Hp} (l : NL H H2) : TL H H2 := fun b xs e => l b _ (by intro ys z; cases z) e
theorem NL.tabs {H H2 : Hp} {T : List (Addr × Str)} (l : NL H H2) (t : LamX.Tabs T H) : LamX.Tabs T H2 := fun p hp => by
  obtain ⟨ps, h1, h2, h3⟩ := t p hp
  refine ⟨ps, l _ _ (by intro ys z; cases z) h1, h2, fun pos cv hc => ?_⟩
  obtain ⟨c, e, h4⟩ := h3 pos cv hc
  exact ⟨c, e, l _ _ (by intro ys z; unfold LamX.CodeO at z; cases z) h4⟩
theorem extN_tl {H H2 : Hp} (l : LamX.ExtN H H2) : TL H H2 := fun b xs e => l b _ e (by intro ys z; cases z)
theorem Odd.extN {H H2 : Hp} {v : V} (h : Odd H v) (l : LamX.ExtN H H2) : Odd H2 v := by
  cases h with
  | non => exact .non
  | bl b => exact .bl b
  | int i => exact .int i
  | str x => exact .str x
  | lst e => exact .lst (l _ _ e (by intro ys z; cases z))
  | tup e n => exact .tup (extN_tl l _ _ e) n
theorem BadT.extN {r : Mf.Rt} {H H2 : Hp} {W Hh : Mf.N3} {v : V} (h : BadT r H W Hh v) (s : LamX.ExtN H H2) : BadT r H2 W Hh v := by
  have l := extN_tl s
  cases h with
  | lst e => exact .lst (s _ _ e (by intro ys z; cases z))
  | nil e => exact .nil (l _ _ e)
  | odd e n1 n2 all bad =>
    refine .odd (l _ _ e) n1 n2 (fun i v q => ?_) ?_
    · rcases all i v q with z | ⟨t, h1, h2, h3⟩
      · exact .inl (z.extN s)
      · exact .inr ⟨t, l.tile h1, h2, h3⟩
    · obtain ⟨i, v, q, z⟩ := bad
      refine ⟨i, v, q, ?_⟩
      rcases z with z | ⟨t, h1, h2, h3, h4⟩
      · exact .inl (z.extN s)
      · exact .inr ⟨t, l.tile h1, h2, h3, h4⟩
  | cover e n1 n2 F c => exact .cover (l.tiles e) n1 n2 F c
theorem BadLay.extN {r : Mf.Rt} {H H2 : Hp} {v : V} (h : BadLay r H v) (s : LamX.ExtN H H2) : BadLay r H2 v := by
  obtain ⟨W, Hh, vT, h1, h2⟩ := h
  exact ⟨W, Hh, vT, (extN_tl s).floor h1, h2.extN s⟩
/-- the script's list stays -/
def Scr (K : PySem.W.Frag) (H : Hp) (a : Addr) (xs : List V) (b : Addr) : Prop := SqL K H a xs ∧ (a ≠ b ∨ ∀ H2, SqL K H2 a xs)
theorem sql_keep {H H2 : Hp} {a : Addr} {xs : List V} (h : SqL K H a xs) (k : ∀ o, H a = some o → H2 a = some o) : SqL K H2 a xs := by
  rcases h with h | h
  · left
    unfold Rd at h ⊢
    rcases h with h | ⟨z, h⟩
    · exact .inl (k _ h)
    · exact .inr ⟨z, k _ h⟩
  · exact .inr h
theorem sql_free {H : Hp} {a b : Addr} {xs : List V} (h : SqL K H a xs) (hb : H b = none) : a ≠ b ∨ ∀ H2, SqL K H2 a xs := by
  rcases h with h | h
  · left
    intro e
    subst e
    unfold Rd at h
    rcases h with h | ⟨z, h⟩ <;> rw [hb] at h <;> cases h
  · exact .inr fun _ => .inr h
theorem Scr.sb {H H2 : Hp} {a b : Addr} {xs : List V} (h : Scr K H a xs b) (s : SB b H H2) : Scr K H2 a xs b := by
  obtain ⟨h1, h2⟩ := h
  refine ⟨?_, h2⟩
  rcases h2 with h2 | h2
  · exact sql_keep h1 fun o e => s.2 a o h2 e
  · exact h2 _

/-- what stands through a floor's turns -/
structure LS (K : PySem.W.Frag) (T : List (Addr × Str)) (r : Mf.Rt) (a b : Addr) (xs : List V) (v : V) (W Hh : Mf.N3) (ts : List Mf.T4) (H : Hp) : Prop where
  scr : Scr K H a xs b
  bag : Bag H b
  tabs : LamX.Tabs T H
  lay : LayAt r H v W Hh ts
section
variable {T : List (Addr × Str)} {r : Mf.Rt} {a b : Addr} {xs : List V} {v : V} {W Hh : Mf.N3} {ts : List Mf.T4} {H H2 : Hp}
theorem LS.sb (h : LS K T r a b xs v W Hh ts H) (s : SB b H H2) : LS K T r a b xs v W Hh ts H2 := ⟨h.scr.sb s, s.1, (NL.sb s h.bag).tabs h.tabs, (s.tl h.bag).layAt h.lay⟩
theorem LS.same (h : LS K T r a b xs v W Hh ts H) (s : Same H H2) : LS K T r a b xs v W Hh ts H2 := h.sb (SB.of h.bag s)
theorem LS.put {D : Addr} {us : List V} {o : HO} (h : LS K T r a b xs v W Hh ts H) (hD : H D = some (.lst us)) (nb : D ≠ b) (na : a ≠ D ∨ ∀ H2, SqL K H2 a xs) : LS K T r a b xs v W Hh ts (upd H D o) := by
  refine ⟨⟨?_, h.scr.2⟩, ?_, (NL.put hD).tabs h.tabs, TL.layAt (TL.put hD) h.lay⟩
  · rcases na with na | na
    · exact sql_keep h.scr.1 fun u e => by rw [upd_ne na]; exact e
    · exact na _
  · obtain ⟨g, m, hb, z⟩ := h.bag
    exact ⟨g, m, by rw [upd_ne (fun z => nb z.symm)]; exact hb, z⟩
theorem LS.extN (h : LS K T r a b xs v W Hh ts H) (s : LamX.ExtN H H2) (t : LamX.Tabs T H2) : LS K T r a b xs v W Hh ts H2 := by
  refine ⟨⟨?_, h.scr.2⟩, ?_, t, TL.layAt (extN_tl s) h.lay⟩
  · rcases h.scr.1 with z | z
    · unfold Rd at z
      rcases z with z | ⟨o, z⟩
      · exact .inl (.inl (s _ _ z (by intro ys q; cases q)))
      · exact .inl (.inr ⟨o, s _ _ z (by intro ys q; cases q)⟩)
    · exact .inr z
  · obtain ⟨g, m, hb, z⟩ := h.bag
    exact ⟨g, m, s _ _ hb (by intro ys q; cases q), z⟩
end
theorem ixN_nat {n k : Nat} (h : k < n) : ixN n (k : Int) = some k := by
  unfold ixN
  rw [if_pos (by omega), if_pos (by omega)]
  rfl
def spLawS (K : PySem.W.Frag) (PT : Addr) : Sp := fun vs H Q _ => ∃ (a : Addr) (ns : List Int), vs = [.ref a] ∧ SqL K H a (ns.map V.int) ∧ LamX.Tabs [(PT, ("law" : Str) ++ ".<locals>." ++ "<lambda>")] H ∧ ∀ H2, Q (.bl true) H2
/-- a weight of a list -/
def WtV (H : Hp) (v : V) : Prop := ∃ x, NuH H v x ∧ Mf.Nm x ∧ Mf.Sm 20 x
theorem ok_law {CN CF c PT f : Addr} {C : Str → Addr} {oc : Value} {od : Option Addr} {dV kV doc pm ct : Value} {an : Option Addr} {osl : Array (Option Value)} (T : Txt K mg) (R : RefT K mg CN CF C)
    (lk : K.lookup f = some ⟨oc, od, .func (PySem.W.fnOf "law" "law" (defArgs (top 67)) (defBody (top 67)) (defScope (top 67)) dV kV doc pm an (.ref c) ct), osl⟩) (hcd : PySem.W.codeIn K (.ref c) "law" = true) (TB : LamX.TabB base mg c PT)
    (DR : Df K mg "_law_refusal" 60) (c_weighed_sums : CalX P w K mg base 10 "weighed_sums" (spSums CN)) (c_law_bag : C8.Cal P w K mg base 1 "_law_bag" (spBag K) []) (c_law_root : C8.Cal P w K mg base 2 "_law_root" spRoot []) (c_law_laying : C8.Cal P w K mg base 6 "_law_laying" spLayg [])
    (c_law_number : C8.Cal P w K mg base 3 "_law_number" spLNum []) (c_law_take : C8.Cal P w K mg base 1 "_law_take" spTake []) (c_law_is_told : C8.Cal P w K mg base 11 "_law_is_told" spTold []) (c_law_spoilt : C8.Cal P w K mg base 4 "_law_spoilt" spSpoilt []) :
    FnOk P w K mg base C8.CX0 13 f (PySem.W.fnOf "law" "law" (defArgs (top 67)) (defBody (top 67)) (defScope (top 67)) dV kV doc pm an (.ref c) ct) ["_law_script"] (spLawS K PT) := by
  obtain ⟨gR, fdR, FR, hmR⟩ := DR
  have kpR := FR.kp
  have bR : Binds K fdR ["_law_deed"] [] := FR.bindsN fun _ _ _ _ _ _ us hl => match us, hl with | [_], _ => rfl
  obtain ⟨ocR, odR, dVR, kVR, docR, pmR, anR, cdvR, ctR, oslR, rfl, lkR, hcR, _, _⟩ := FR.ex
  obtain ⟨fS, fdS, psS, FS, hmS, kpS, bS⟩ := c_weighed_sums.ex
  refine fn_of lk hcd sc_law (fun vs H Q E h => ?_) fun A outer s H vs Q E hr h => ?_
  · obtain ⟨a, ns, rfl, _⟩ := h
    rfl
  · obtain ⟨a, ns, rfl, hS, hT, q⟩ := h
    suffices g : ∃ t, PSs (cxOf C8.CX0 P w K mg base N_law "law" (defScope (top 67)) f (.ref c) A outer s H E).nox (defBody (top 67)) t ∧ t { nx := fun _ H' => Q .non H', rt := Q } (start N_law [.ref a]) H by
      obtain ⟨t, h1, h2⟩ := g
      exact ⟨t, h1.nox, h2⟩
    refine ⟨_, (pss_cons (ps_for PassesOwn.never rfl (pi_range1 (by rfl) T.range (pa_cons (pe_callB (call_max2 rfl) (by rfl) T.max (by decide +kernel) (pa_cons pe_int (pa_cons (pe_callB (call_min2 rfl) (by rfl) T.min (by decide +kernel) (pa_cons pe_int (pa_cons (pe_callB call_len (by rfl) T.len (by decide +kernel) (pa_cons (pv 0) pa_nil)) pa_nil))) pa_nil))) pa_nil)) (pg_name (i := 1) sc_law.nd rfl (Or.inl rfl))
      (pss_cons (ps_set (i := 2) sc_law.nd rfl (Or.inr rfl) (C8.pe_c c_law_bag hr (by decide) (by rfl) (pa_cons (pv 0) (pa_cons (pv 1) pa_nil))))
      (pss_cons (ps_set (i := 3) sc_law.nd rfl (Or.inr rfl) (C8.pe_c c_law_root hr (by decide) (by rfl) (pa_cons (pv 2) pa_nil)))
      (C8.pss_cut (ps_set (i := 4) sc_law.nd rfl (Or.inl rfl) (C8.pe_c c_law_laying hr (by decide) (by rfl) (pa_cons (pv 2) (pa_cons (pv 3) pa_nil))))
      (pss_one (ps_for PassesOwn.never rfl (pi_range1 (by rfl) T.range (pa_cons pe_int pa_nil)) (pg_name (i := 5) sc_law.nd rfl (Or.inl rfl))
      (C8.pss_cut (ps_set (i := 6) sc_law.nd rfl (Or.inr rfl) (pe_callTy call_tuple_of (by rfl) T.tuple (by decide +kernel) (pa_cons (pe_lc (own := [("_law_one", 7)]) (te := tCall spLNum [] C8.E0 (tCons (tVar 2) tNil)) rfl sc_law.nd (pi_range1 (by rfl) T.range (pa_cons pe_int pa_nil)) (blkOk_by (own := [("_law_one", 7)]) (N := N_law) (sc := defScope (top 67)) (by decide +kernel)) (fun _ _ _ _ _ => (pg_name (i := 7) sc_law.nd rfl (Or.inl rfl))) (fun _ _ _ _ _ => pts_nil) (fun _ _ _ _ _ => (C8.pe_c c_law_number hr (by decide) (by rfl) (pa_cons (pv 2) pa_nil)))) pa_nil)))
      (pss_cons (ps_set (i := 8) sc_law.nd rfl (Or.inl rfl) (pe_cX c_weighed_sums hr (by decide) (by rfl) (pa_cons (pv 3) (pa_cons (pv 6) (pa_cons (pv 4) pa_nil)))))
      (pss_cons (ps_expr (pe_bm PySem.F.plainAttrs_list PySem.F.slot_list_append PySem.F.type_list_append mt_append (pe_ix ix_tup (pv 8) pe_int (fun _ _ => rfl)) (pa_cons (pe_tup (pa_cons pe_int (pa_cons pe_int (pa_cons pe_int pa_nil)))) pa_nil)))
      (C8.pss_cut (ps_asg (pe_tup (pa_cons pe_int (pa_cons pe_int (pa_cons pe_int pa_nil)))) (pg_sub (pe_ix ix_tup (pv 8) pe_int (fun _ _ => rfl)) (C8.pe_c c_law_take hr (by decide) (by rfl) (pa_cons (pv 2) (pa_cons (pe_callB call_len (by rfl) T.len (by decide +kernel) (pa_cons (pe_ix ix_tup (pv 4) pe_int (fun _ _ => rfl)) pa_nil)) pa_nil))) set_list))
      (C8.pss_cut (ps_if (pt_not (pt_val (C8.pe_c c_law_is_told hr (by decide) (by rfl) (pa_cons (pv 3) (pa_cons (pv 6) (pa_cons (pv 4) pa_nil)))))) (pss_one (ps_ret pe_bl)) pss_nil)
      (C8.pss_cut (ps_set (i := 9) sc_law.nd rfl (Or.inr rfl) (C8.pe_c c_law_spoilt hr (by decide) (by rfl) (pa_cons (pv 2) (pa_cons (pv 3) (pa_cons (pv 4) pa_nil)))))
      (C8.pss_cut (ps_if (pt_cmpR op_ne (LamN.pe_lam (T := [(PT, ("law" : Str) ++ ".<locals>." ++ "<lambda>")]) (TT := TRef CN) (k := 10) (Ng := N__law_refusal) (t := fun E => tCall (spSums CN) [] E (tCons (tVar 3) (tCons (tVar 6) (tCons (tVar 9) tNil)))) (by rfl) hmR kpR lkR hcR bR sc__law_refusal rfl (Or.inl rfl) (gives_ref T R) TB rfl (List.mem_cons_self ..) (fun p hp _ => by rw [List.mem_singleton.mp hp]; rfl) hr (LamX.lamS_by (sc := defScope (top 67)) (by decide +kernel)) rfl (fun _ _ _ _ _ => rfl) (fun A outer st H E f c2 hr2 => pe_call FS hr2 (by rfl) hmS kpS bS .nil (L2N.passes_call (L2N.takes_of rfl rfl rfl rfl) fun _ _ _ _ z => z) (pa_cons (pv 3) (pa_cons (pv 6) (pa_cons (pv 9) pa_nil)))) (by decide) (by decide) (by decide)) pe_str (nomark _)) (pss_one (ps_ret pe_bl)) pss_nil)
      (pss_one (ps_if (pt_not (pt_val (C8.pe_c c_law_is_told hr (by decide) (by rfl) (pa_cons (pv 3) (pa_cons (pv 6) (pa_cons (pv 4) pa_nil)))))) (pss_one (ps_ret pe_bl)) pss_nil)))))))))))))))
      (pss_one (ps_ret pe_bl))), ?_⟩
    have sl : sizeLine = 16777216 := sizeLine_eq
    have hN : ∀ z : Int, 2 ≤ (if (if z < 4 then z else 4) > 2 then (if z < 4 then z else 4) else 2) ∧ (if (if z < 4 then z else 4) > 2 then (if z < 4 then z else 4) else 2) ≤ 4 := fun z => by
      split <;> (try split) <;> omega
    have hNn := hN ((ns.map V.int).length : Int)
    refine ⟨_, rfl, _, _, rfl, .inl ⟨_, hS, rfl⟩, _, _, rfl, _, _, rfl, _, rfl, by omega, by omega, ?_⟩
    refine for_range (lo := 0) (fun _ σ H' => ∃ o1 o2 o3 o4 o5 o6 o8 o9, σ = [some (.ref a), o1, o2, o3, o4, o5, o6, none, o8, o9] ∧ SqL K H' a (ns.map V.int) ∧ LamX.Tabs [(PT, ("law" : Str) ++ ".<locals>." ++ "<lambda>")] H') ⟨_, _, _, _, _, _, _, _, rfl, hS, hT⟩ ?_ ?_
    rotate_left
    · rintro σ H1 ⟨o1, o2, o3, o4, o5, o6, o8, o9, rfl, _, _⟩
      exact q _
    rintro i σ H1 hi ⟨o1, o2, o3, o4, o5, o6, o8, o9, rfl, hS1, hT1⟩
    refine ⟨_, rfl, _, rfl, a, ns, i, (by show [V.ref a, V.int (0 + (i : Int))] = _; rw [Int.zero_add]), hS1, by omega, fun b H2 nb s2 B2 => ?_⟩
    refine ⟨_, rfl, b, rfl, B2, fun r H3 hd s3 => ?_⟩
    have scr2 : Scr K H2 a (ns.map V.int) b := ⟨sql_keep hS1 fun o e => s2 _ _ e, sql_free hS1 nb⟩
    have tab2 := (NL.of s2).tabs hT1
    refine ⟨fun σ H4 => ∃ (v : V) (W Hh : Mf.N3) (ts : List Mf.T4), σ = [some (.ref a), some (.int (0 + (i : Int))), some (.ref b), some (.int r.d), some v, o5, o6, none, o8, o9] ∧ LS K [(PT, ("law" : Str) ++ ".<locals>." ++ "<lambda>")] r a b (ns.map V.int) v W Hh ts H4, ?_, ?_⟩
    · refine ⟨_, rfl, _, rfl, b, r, rfl, hd, s3.1, fun v W Hh ts H4 s4 hL => ?_⟩
      exact ⟨v, W, Hh, ts, rfl, (scr2.sb s3).sb s4, s4.1, (NL.sb s4 s3.1).tabs ((NL.sb s3 B2).tabs tab2), hL⟩
    rintro σ H4 ⟨v, W, Hh, ts, rfl, L4⟩
    refine ⟨_, rfl, by decide, by decide, ?_⟩
    refine for_range (lo := 0) (n := (2 : Int).toNat) (fun _ σ H' => ∃ o5 o6 o8 o9, σ = [some (.ref a), some (.int (0 + (i : Int))), some (.ref b), some (.int r.d), some v, o5, o6, none, o8, o9] ∧ LS K [(PT, ("law" : Str) ++ ".<locals>." ++ "<lambda>")] r a b (ns.map V.int) v W Hh ts H') ⟨_, _, _, _, rfl, L4⟩ ?_ ?_
    rotate_left
    · rintro σ H5 ⟨o5, o6, o8, o9, rfl, L5⟩
      exact ⟨_, _, _, _, _, _, _, _, rfl, L5.scr.1, L5.tabs⟩
    rintro j σ H5 hj ⟨o5, o6, o8, o9, rfl, L5⟩
    -- the weights
    refine ⟨fun σ H6 => ∃ (vw : V) (z : Mf.Wt), σ = [some (.ref a), some (.int (0 + (i : Int))), some (.ref b), some (.int r.d), some v, some (.int (0 + (j : Int))), some vw, none, o8, o9] ∧ WtsAt H6 vw z ∧ z.ok ∧ LS K [(PT, ("law" : Str) ++ ".<locals>." ++ "<lambda>")] r a b (ns.map V.int) v W Hh ts H6, ?_, ?_⟩
    · refine ⟨_, rfl, by decide, by decide, fun D hD => ?_⟩
      have hDb := L5.bag.ne hD
      refine lc_range (lo := 0) (n := (4 : Int).toNat) (fun i H6 => (∃ acc, H6 D = some (.lst acc) ∧ acc.length = i ∧ ∀ v ∈ acc, WtV H6 v) ∧ SB b H5 H6) ⟨⟨[], upd_same, rfl, fun v hv => (by cases hv)⟩, SB.new L5.bag hD⟩ (fun i H6 hi z => ?_) (fun H6 z => ?_)
      · obtain ⟨⟨acc, e1, e2, e3⟩, sb⟩ := z
        refine ⟨rfl, ?_⟩
        refine ⟨_, rfl, b, rfl, sb.1, fun y x H7 s7 n7 nm sm => ?_⟩
        have e7 := s7.2 D _ hDb e1
        have lp : TL H7 (upd H7 D (.lst (acc ++ [y]))) := TL.put e7
        have hi4 : i < 4 := hi
        refine ⟨acc, e7, by omega, ⟨_, upd_same, by rw [List.length_append, e2, List.length_singleton], fun u hu => ?_⟩, (sb.trans s7).put hD hDb⟩
        rcases List.mem_append.mp hu with h | h
        · obtain ⟨x2, k1, k2, k3⟩ := e3 u h
          exact ⟨x2, lp.nuH ((s7.tl sb.1).nuH k1), k2, k3⟩
        · rw [List.mem_singleton.mp h]
          exact ⟨x, lp.nuH n7, nm, sm⟩
      · obtain ⟨⟨acc, e1, e2, e3⟩, sb⟩ := z
        obtain ⟨w1, w2, w3, w4, rfl⟩ : ∃ w1 w2 w3 w4, acc = [w1, w2, w3, w4] := by
          have e2 : acc.length = 4 := e2
          match acc, e2 with
          | [w1, w2, w3, w4], _ => exact ⟨_, _, _, _, rfl⟩
        obtain ⟨x1, a1, b1, c1⟩ := e3 w1 (by simp)
        obtain ⟨x2, a2, b2, c2⟩ := e3 w2 (by simp)
        obtain ⟨x3, a3, b3, c3⟩ := e3 w3 (by simp)
        obtain ⟨x4, a4, b4, c4⟩ := e3 w4 (by simp)
        refine ⟨D, _, rfl, .inl ⟨SqL.of e1, fun pt npt => ?_⟩⟩
        have l := TL.new (o := .tup [w1, w2, w3, w4]) npt
        exact ⟨.ref pt, ⟨x1, x2, x3, x4⟩, rfl, ⟨pt, w1, w2, w3, w4, rfl, upd_same, l.nuH a1, l.nuH a2, l.nuH a3, l.nuH a4⟩, ⟨⟨b1, c1⟩, ⟨b2, c2⟩, ⟨b3, c3⟩, ⟨b4, c4⟩⟩, (L5.sb sb).same (same_new npt)⟩
    rintro σ H6 ⟨vw, z, rfl, hw, hz, L6⟩
    -- the sums, and what is done to them
    refine ⟨_, rfl, _, rfl, _, rfl, r, vw, z, v, rfl, hd, hw, hz, .inl ⟨W, Hh, ts, L6.lay.good, fun H7 p vF D us s7 nD hp nF hD hE => ?_⟩⟩
    have L7 := L6.same s7
    have hw7 := (TL.of s7).wts hw
    have hlen : us.length = ts.length := by rw [hE.1, List.length_map]
    have hn := L6.lay.len
    have hDb : D ≠ b := L6.bag.ne nD
    have hDa := sql_free L6.scr.1 nD
    refine ⟨_, rfl, p, _, 1, _, rfl, rfl, SqT.of hp, atI_nat (j := 1) rfl, .inl ⟨rfl, _, SqL.of hD⟩, by show 3 ≤ sizeLine; decide, fun pt npt => ?_⟩
    have s8 := same_new (o := .tup [V.int 0, .int 0, .int 1]) npt
    have hD8 := s8 _ _ hD
    refine ⟨D, us, _, rfl, rfl, hD8, by omega, ?_⟩
    have l9 : TL H7 (upd (upd H7 pt (.tup [V.int 0, .int 0, .int 1])) D (.lst (us ++ [.ref pt]))) := (TL.of s8).trans (TL.put hD8)
    have L9 := (L7.same s8).put (o := .lst (us ++ [.ref pt])) hD8 hDb hDa
    have hw9 := l9.wts hw7
    have hp9 := l9 _ _ hp
    have hD9 : (upd (upd H7 pt (.tup [V.int 0, .int 0, .int 1])) D (.lst (us ++ [.ref pt]))) D = some (.lst (us ++ [.ref pt])) := upd_same
    generalize upd (upd H7 pt (.tup [V.int 0, .int 0, .int 1])) D (.lst (us ++ [.ref pt])) = H9 at *
    refine ⟨fun σ H10 => ∃ o8, σ = [some (.ref a), some (.int (0 + (i : Int))), some (.ref b), some (.int r.d), some v, some (.int (0 + (j : Int))), some vw, none, o8, o9] ∧ WtsAt H10 vw z ∧ LS K [(PT, ("law" : Str) ++ ".<locals>." ++ "<lambda>")] r a b (ns.map V.int) v W Hh ts H10, ?_, ?_⟩
    · refine ⟨by show 3 ≤ sizeLine; decide, fun pq npq => ?_⟩
      have s10 := same_new (o := .tup [V.int 7, .int 0, .int 1]) npq
      have L10 := L9.same s10
      obtain ⟨⟨al, ⟨⟨pl, v1, v2, rfl, h0, _, _⟩, _, _, _, _, _, _⟩, ⟨ws, hu, hTl⟩⟩, n1, _, _, _, _⟩ := L10.lay.good
      refine ⟨_, rfl, p, _, 1, _, rfl, rfl, SqT.of (s10 _ _ hp9), atI_nat (j := 1) rfl, _, rfl, _, rfl, pl, _, 2, _, rfl, rfl, SqT.of h0, atI_nat (j := 2) rfl, _, _, rfl, .inr ⟨_, SqT.of hu, rfl⟩, ?_⟩
      have hl2 := hTl.1
      refine ⟨b, (ws.length : Int), rfl, L10.bag, by omega, by omega, fun x H11 x0 x1 s11 => ?_⟩
      obtain ⟨k, rfl⟩ : ∃ k : Nat, x = (k : Int) := ⟨x.toNat, by omega⟩
      have hD11 := s11.2 D _ hDb (s10 _ _ hD9)
      refine ⟨D, _, (k : Int), k, rfl, rfl, hD11, ixN_nat (by rw [List.length_append, List.length_singleton]; omega), ?_⟩
      refine ⟨_, rfl, (TL.put hD11).wts ((s11.tl L10.bag).wts ((TL.of s10).wts hw9)), (L10.sb s11).put hD11 hDb hDa⟩
    rintro σ H10 ⟨o8, rfl, hw10, L10⟩
    -- told
    refine ⟨fun σ H11 => σ = [some (.ref a), some (.int (0 + (i : Int))), some (.ref b), some (.int r.d), some v, some (.int (0 + (j : Int))), some vw, none, o8, o9] ∧ WtsAt H11 vw z ∧ LS K [(PT, ("law" : Str) ++ ".<locals>." ++ "<lambda>")] r a b (ns.map V.int) v W Hh ts H11, ?_, ?_⟩
    · exact ⟨_, rfl, _, rfl, _, rfl, r, vw, z, v, W, Hh, ts, rfl, hd, hw10, hz, L10.lay, fun H11 s11 => ⟨_, rfl, iteF ⟨rfl, (TL.of s11).wts hw10, L10.same s11⟩⟩⟩
    rintro σ H11 ⟨rfl, hw11, L11⟩
    refine ⟨fun σ H12 => ∃ vs, σ = [some (.ref a), some (.int (0 + (i : Int))), some (.ref b), some (.int r.d), some v, some (.int (0 + (j : Int))), some vw, none, o8, some vs] ∧ WtsAt H12 vw z ∧ LS K [(PT, ("law" : Str) ++ ".<locals>." ++ "<lambda>")] r a b (ns.map V.int) v W Hh ts H12 ∧ BadLay r H12 vs, ?_, ?_⟩
    · exact ⟨_, rfl, _, rfl, _, rfl, b, r, v, W, Hh, ts, rfl, hd, L11.bag, L11.lay, fun vs H12 s12 hb => ⟨vs, rfl, (s12.tl L11.bag).wts hw11, L11.sb s12, hb⟩⟩
    rintro σ H12 ⟨vs, rfl, hw12, L12, hb12⟩
    refine ⟨fun σ H13 => σ = [some (.ref a), some (.int (0 + (i : Int))), some (.ref b), some (.int r.d), some v, some (.int (0 + (j : Int))), some vw, none, o8, some vs] ∧ WtsAt H13 vw z ∧ LS K [(PT, ("law" : Str) ++ ".<locals>." ++ "<lambda>")] r a b (ns.map V.int) v W Hh ts H13, ?_, ?_⟩
    · refine ⟨L12.tabs, fun H13 eN t13 => ?_⟩
      refine ⟨_, rfl, _, rfl, _, rfl, r, vw, z, vs, rfl, hd, (extN_tl eN).wts hw12, hz, .inr ⟨hb12.extN eN, fun H14 s14 => ⟨rfl, rfl, fun H15 s15 => ?_⟩⟩⟩
      exact ⟨rfl, _, rfl, iteNS rfl ⟨rfl, (TL.of (s14.trans s15)).wts ((extN_tl eN).wts hw12), (L12.extN eN t13).same (s14.trans s15)⟩⟩
    rintro σ H13 ⟨rfl, hw13, L13⟩
    exact ⟨_, rfl, _, rfl, _, rfl, r, vw, z, v, W, Hh, ts, rfl, hd, hw13, hz, L13.lay, fun H14 s14 => ⟨_, rfl, iteF ⟨_, _, _, _, rfl, L13.same s14⟩⟩⟩
end
end MfW
namespace MfH
open PySem PySem.Spec PyProof.Rows L2
def top (i : Nat) : Stmt := PySem.Challenge.pw_matefloors_k16_whole_sums_kept.main.body.getD i (.Pass ⟨0, 0, 0, 0⟩)
def dd (x : Str) (i : Nat) : He.DefD := ⟨(x, none), x, x, defArgs (top i), defBody (top i), defScope (top i), [], []⟩
def fn : List He.DefD := [dd "is_whole" 17, dd "shared" 18, dd "is_number" 19, dd "lowest" 20, dd "mate" 21, dd "plus" 22, dd "contrary_sign" 23, dd "less" 24, dd "times" 25, dd "sign_of" 26, dd "is_above" 27, dd "is_above_nought" 28, dd "ordered" 31, dd "is_tile" 32, dd "places_in" 33, dd "no_two_meet" 34, dd "wide_spans" 35, dd "high_spans" 36, dd "area_of" 37, dd "cover" 38, dd "is_laying" 39, dd "weighed" 41, dd "weighed_sums" 42, dd "_law_bag" 44, dd "_law_take" 45, dd "_law_is_whole" 46, dd "_law_shared" 47, dd "_law_low" 48, dd "_law_is_number" 49, dd "_law_plus" 50, dd "_law_minus" 51, dd "_law_mate" 52, dd "_law_times" 53, dd "_law_contrary" 54, dd "_law_sign" 55, dd "_law_root" 56, dd "_law_number" 57, dd "_law_above" 58, dd "_law_odd" 59, dd "_law_refusal" 60, dd "_law_weigh" 61, dd "_law_between" 62, dd "_law_cut" 63, dd "_law_laying" 64, dd "_law_is_told" 65, dd "_law_spoilt" 66, dd "law" 67]
def fa : List He.Fa := [.glo "is_whole", .glo "shared", .glo "is_number", .glo "lowest", .glo "mate", .glo "plus", .glo "contrary_sign", .glo "less", .glo "times", .glo "sign_of", .glo "is_above", .glo "is_above_nought", .glo "ordered", .glo "is_tile", .glo "places_in", .glo "no_two_meet", .glo "wide_spans", .glo "high_spans", .glo "area_of", .glo "cover", .glo "is_laying", .glo "weighed", .glo "weighed_sums", .glo "_law_bag", .glo "_law_take", .glo "_law_is_whole", .glo "_law_shared", .glo "_law_low", .glo "_law_is_number", .glo "_law_plus", .glo "_law_minus", .glo "_law_mate", .glo "_law_times", .glo "_law_contrary", .glo "_law_sign", .glo "_law_root", .glo "_law_number", .glo "_law_above", .glo "_law_odd", .glo "_law_refusal", .glo "_law_weigh", .glo "_law_between", .glo "_law_cut", .glo "_law_laying", .glo "_law_is_told", .glo "_law_spoilt", .glo "law", .glo "FloorError", .glo "NoRoot", .glo "NoNumber", .glo "NoLaying", .glo "NoTile", .glo "NoFit", .glo "NoKinds", .glo "NoPlan", .glo "NoSpot", .glo "NoNet", .glo "NoText", .glo "NoSaying", .glo "NoName", .glo "TooMany", .free "isinstance", .free "int", .free "bool", .free "tuple", .free "len", .free "all", .free "any", .free "abs", .free "range", .free "enumerate", .free "list", .free "max", .free "min", .free "ValueError", .int "MOST_TILES" 60, .exc "NoLaying", .exm "NoLaying" "FloorError" true, .glo "NOUGHT"]
def kitE (K : PySem.W.Frag) (x : Str) (c : Value) (b : Bool) : Bool := decide (PySem.W.kitOne K (.ref (He.ga K x)) c = some b)
def excCB (K : PySem.W.Frag) (D : Addr) : Bool :=
  decide (PySem.W.findIn K (.ref D) "__getattribute__" = some (some (.builtin "BaseException.__getattribute__"))) && (decide (PySem.W.findIn K (.ref D) "__getattr__" = some none) && (decide (PySem.W.subIn K (.ref D) (.type "BaseException") = some true) && (PySem.W.hasDictIn K D
  && (decide (PySem.W.findIn K (.ref D) "__class__" = some (some (.builtin "object.__class__"))) && (decide (PySem.W.specialIn K (.builtin "object.__class__") "__get__" = some (some (.builtin "getset_descriptor.__get__"))) && (decide (PySem.W.takesIn K (.builtin "object.__class__") = some true) && decide (PySem.W.mroIn K D (.type "object") = some true)))))))
def ex (K : PySem.W.Frag) : Bool := He.tupB K "NOUGHT" [.int 0, .int 0, .int 1] && (excCB K (He.ga K "NoLaying") && (kitE K "NoLaying" (.type "ValueError") true && ([("NoRoot", false), ("NoNumber", false), ("NoLaying", true), ("NoTile", false), ("NoFit", false), ("NoKinds", false), ("NoPlan", false), ("NoSpot", false), ("NoNet", false), ("NoText", false), ("NoSaying", false), ("NoName", false), ("TooMany", false)] : List (Str × Bool)).all fun q => kitE K "NoLaying" (.ref (He.ga K q.1)) q.2))
abbrev R : PySem.W.OpenRow := PySem.W.OpenLaw.row PySem.Challenge.rw_matefloors_k16_whole_sums_kept
def tf : List He.Defn := [("law", none)]
abbrev hk : PySem.W.Hook := He.hookX 5 fa fn [] tf ex
def ob (s : PySem.W.SharedT) : He.AlX := He.obsX 5 fa fn [] tf ex (HandSHeadRun.getT s)
theorem ob_eq (s : PySem.W.SharedT) : ob s = hk.obs s.abs := He.obsX_eq (HandSHeadRun.getT_eq s)
def ns1 : List Str := ["FloorError", "NoRoot", "NoNumber", "NoLaying", "NoTile", "NoFit", "NoKinds", "NoPlan", "NoSpot", "NoNet", "NoText", "NoSaying", "NoName", "TooMany", "NOUGHT", "MOST_TILES", "is_whole", "shared", "is_number", "lowest", "mate", "plus", "contrary_sign", "less", "times", "sign_of", "is_above", "is_above_nought", "ordered", "is_tile", "places_in", "no_two_meet"]
def ns2 : List Str := ["wide_spans", "high_spans", "area_of", "cover", "is_laying", "weighed", "weighed_sums", "_law_bag", "_law_take", "_law_is_whole", "_law_shared", "_law_low", "_law_is_number", "_law_plus", "_law_minus", "_law_mate", "_law_times", "_law_contrary", "_law_sign", "_law_root", "_law_number", "_law_above", "_law_odd", "_law_refusal", "_law_weigh", "_law_between", "_law_cut", "_law_laying", "_law_is_told", "_law_spoilt"]
def loose : List Str := ns1 ++ ns2
theorem run (w : World) : HandSHeadRun.RunEq R (PySem.W.view R.prog [67]) hk ob 6000 loose w := by
  intro os
  kernel_rfl
end MfH
namespace MfE
open PySem PySem.Spec PyProof.Rows L2 MfW
section
variable {P : Program} {w : World} {K : PySem.W.Frag} {h : Heap} {mg : Str → Option Value}
theorem df (X : K.In h) (G : h.Ns mainGlobals mg) (c : He.SaysD MfH.fa MfH.fn K) (n : Nat) {x : Str} {i : Nat} (h1 : MfH.fn[n]? = some (MfH.dd x i)) (h2 : MfH.fa[n]? = some (.glo x)) : Df K mg x i := by
  obtain ⟨fd, F⟩ := c.def_ n h1
  exact ⟨_, fd, F, He.glo_ok X G (c.fact n h2)⟩
theorem txt (X : K.In h) (G : h.Ns mainGlobals mg) (c : He.SaysD MfH.fa MfH.fn K) (e : MfH.ex K = true) (gn : mg "NOUGHT" = some (.ref (He.ga K "NOUGHT"))) : Txt K mg where
  isi := He.free_ok X G (c.fact 61 (f := .free "isinstance") rfl)
  int := He.free_ok X G (c.fact 62 (f := .free "int") rfl)
  bool := He.free_ok X G (c.fact 63 (f := .free "bool") rfl)
  tuple := He.free_ok X G (c.fact 64 (f := .free "tuple") rfl)
  len := He.free_ok X G (c.fact 65 (f := .free "len") rfl)
  all := He.free_ok X G (c.fact 66 (f := .free "all") rfl)
  any := He.free_ok X G (c.fact 67 (f := .free "any") rfl)
  abs := He.free_ok X G (c.fact 68 (f := .free "abs") rfl)
  range := He.free_ok X G (c.fact 69 (f := .free "range") rfl)
  enumerate := He.free_ok X G (c.fact 70 (f := .free "enumerate") rfl)
  list := He.free_ok X G (c.fact 71 (f := .free "list") rfl)
  max := He.free_ok X G (c.fact 72 (f := .free "max") rfl)
  min := He.free_ok X G (c.fact 73 (f := .free "min") rfl)
  verr := He.free_ok X G (c.fact 74 (f := .free "ValueError") rfl)
  most := He.int_ok X G (c.fact 75 (f := .int "MOST_TILES" 60) rfl)
  nought := by
    obtain ⟨z, _⟩ := Bool.and_eq_true_iff.mp e
    refine ⟨_, gn, ?_⟩
    rcases He.tupB_ok z (fun _ => none) with q | q
    · unfold Rd at q
      rcases q with q | ⟨_, q⟩ <;> cases q
    · exact q
theorem ext (X : K.In h) (G : h.Ns mainGlobals mg) (c : He.SaysD MfH.fa MfH.fn K) : ExT K mg (He.ga K "NoLaying") := by
  obtain ⟨a, b, d, e⟩ := He.exc_ok (c.fact 76 (f := .exc "NoLaying") rfl)
  exact ⟨a, He.glo_ok X G (c.fact 50 (f := .glo "NoLaying") rfl), b, d, e⟩
theorem reft (X : K.In h) (G : h.Ns mainGlobals mg) (c : He.SaysD MfH.fa MfH.fn K) (e : MfH.ex K = true) : RefT K mg (He.ga K "NoLaying") (He.ga K "FloorError") (He.ga K) := by
  obtain ⟨_, e1⟩ := Bool.and_eq_true_iff.mp e
  obtain ⟨e2, e3⟩ := Bool.and_eq_true_iff.mp e1
  obtain ⟨e4, e5⟩ := Bool.and_eq_true_iff.mp e3
  unfold MfH.excCB at e2
  simp only [Bool.and_eq_true, decide_eq_true_eq] at e2
  obtain ⟨a1, a2, a3, a4, a5, a6, a7, a8⟩ := e2
  have e5 := List.all_eq_true.mp e5
  refine ⟨He.glo_ok X G (c.fact 47 (f := .glo "FloorError") rfl), He.exm_ok (c.fact 77 (f := .exm "NoLaying" "FloorError" true) rfl), ⟨a1, a2, a3, a4, a5, a6, a7, a8⟩, of_decide_eq_true e4, fun x hx => ?_, fun x hx => ?_⟩
  · simp only [excNames, List.mem_cons, List.not_mem_nil, or_false] at hx
    rcases hx with rfl | rfl | rfl | rfl | rfl | rfl | rfl | rfl | rfl | rfl | rfl | rfl | rfl
    · exact He.glo_ok X G (c.fact 48 (f := .glo "NoRoot") rfl)
    · exact He.glo_ok X G (c.fact 49 (f := .glo "NoNumber") rfl)
    · exact He.glo_ok X G (c.fact 50 (f := .glo "NoLaying") rfl)
    · exact He.glo_ok X G (c.fact 51 (f := .glo "NoTile") rfl)
    · exact He.glo_ok X G (c.fact 52 (f := .glo "NoFit") rfl)
    · exact He.glo_ok X G (c.fact 53 (f := .glo "NoKinds") rfl)
    · exact He.glo_ok X G (c.fact 54 (f := .glo "NoPlan") rfl)
    · exact He.glo_ok X G (c.fact 55 (f := .glo "NoSpot") rfl)
    · exact He.glo_ok X G (c.fact 56 (f := .glo "NoNet") rfl)
    · exact He.glo_ok X G (c.fact 57 (f := .glo "NoText") rfl)
    · exact He.glo_ok X G (c.fact 58 (f := .glo "NoSaying") rfl)
    · exact He.glo_ok X G (c.fact 59 (f := .glo "NoName") rfl)
    · exact He.glo_ok X G (c.fact 60 (f := .glo "TooMany") rfl)
  · simp only [excNames, List.mem_cons, List.not_mem_nil, or_false] at hx
    rcases hx with rfl | rfl | rfl | rfl | rfl | rfl | rfl | rfl | rfl | rfl | rfl | rfl | rfl
    · exact of_decide_eq_true (e5 ("NoRoot", false) (by decide))
    · exact of_decide_eq_true (e5 ("NoNumber", false) (by decide))
    · exact of_decide_eq_true (e5 ("NoLaying", true) (by decide))
    · exact of_decide_eq_true (e5 ("NoTile", false) (by decide))
    · exact of_decide_eq_true (e5 ("NoFit", false) (by decide))
    · exact of_decide_eq_true (e5 ("NoKinds", false) (by decide))
    · exact of_decide_eq_true (e5 ("NoPlan", false) (by decide))
    · exact of_decide_eq_true (e5 ("NoSpot", false) (by decide))
    · exact of_decide_eq_true (e5 ("NoNet", false) (by decide))
    · exact of_decide_eq_true (e5 ("NoText", false) (by decide))
    · exact of_decide_eq_true (e5 ("NoSaying", false) (by decide))
    · exact of_decide_eq_true (e5 ("NoName", false) (by decide))
    · exact of_decide_eq_true (e5 ("TooMany", false) (by decide))
theorem at_law {f : Addr} (X : K.In h) (G : h.Ns mainGlobals mg) (hfa : mg ("law" : Str) = some (.ref f)) (gn : mg "NOUGHT" = some (.ref (He.ga K "NOUGHT"))) (s : He.SaysX MfH.fa MfH.fn [] MfH.tf MfH.ex w h K) : LamX.LawAtS PySem.Challenge.rw_matefloors_k16_whole_sums_kept w K C8.CX0 13 63 "_law_script" mg f h := by
  have c : He.SaysD MfH.fa MfH.fn K := s.t.d
  obtain ⟨fd, F⟩ := c.def_ 46 (d := MfH.dd "law" 67) rfl
  have e := hfa.symm.trans (He.glo_ok X G (c.fact 46 (f := .glo "law") rfl))
  cases e
  have bd := FunD.bindsA (ps := ["_law_script"]) F fun _ _ _ _ _ _ us hl => match us, hl with | [_], _ => rfl
  obtain ⟨oc, od, dV, kV, doc, pm, an, cdv, ct, osl, rfl, lk, hcd, _, _⟩ := F.ex
  obtain ⟨cc, rfl⟩ := He.codeIn_ref hcd
  have ecc : He.codeOf K ("law", none) = cc := He.codeOf_eq lk rfl
  have tf1 : ∀ p ∈ MfH.tf, p = (("law" : Str), (none : Option Str)) := fun p hp => List.mem_singleton.mp hp
  have m0 : (("law" : Str), (none : Option Str)) ∈ MfH.tf := List.mem_singleton.mpr rfl
  refine ⟨_, [He.cT K ("law", none)], spLawS K (He.cT K ("law", none)).2, fun p hp => ?_, fun p hp => ?_, fun p hp => ?_, fun st u => bd st [u] rfl, fun H a ns _ _ hT hS => ⟨a, ns, rfl, hS, fun p hp => ?_, fun _ => rfl⟩, fun base KB GB hTB => ?_⟩
  · rw [List.mem_singleton.mp hp]
    exact s.empty _ m0
  · rw [List.mem_singleton.mp hp]
    exact s.out _ m0
  · rw [List.mem_singleton.mp hp]
    exact PySem.W.codeHd_of_K X (s.hd _ m0)
  · rw [List.mem_singleton.mp hp]
    exact LamX.TabS.nil (hT _ (List.mem_singleton.mpr rfl))
  · have TB := hTB _ (List.mem_singleton.mpr rfl)
    have TB2 : LamX.TabB base mg cc (He.cT K ("law", none)).2 := by
      have e2 : (He.cT K ("law", none)).1 = cc := ecc
      rw [← e2]
      exact TB
    have T := txt X G c s.more gn
    have eX := ext X G c
    have R := reft X G c s.more
    have c_shared := ok_shared (P := (PySem.Challenge.rw_matefloors_k16_whole_sums_kept).prog) (w := w) (base := base) T (df X G c 1 rfl rfl)
    have c_lowest := ok_lowest (P := (PySem.Challenge.rw_matefloors_k16_whole_sums_kept).prog) (w := w) (base := base) T (df X G c 3 rfl rfl) c_shared
    have c_plus := ok_plus (P := (PySem.Challenge.rw_matefloors_k16_whole_sums_kept).prog) (w := w) (base := base) T (df X G c 5 rfl rfl) c_lowest
    have c_times := ok_times (P := (PySem.Challenge.rw_matefloors_k16_whole_sums_kept).prog) (w := w) (base := base) T (df X G c 8 rfl rfl) c_lowest
    have c_mate := ok_mate (P := (PySem.Challenge.rw_matefloors_k16_whole_sums_kept).prog) (w := w) (base := base) (df X G c 4 rfl rfl)
    have c_contrary_sign := ok_contrary (P := (PySem.Challenge.rw_matefloors_k16_whole_sums_kept).prog) (w := w) (base := base) (df X G c 6 rfl rfl)
    have c_less := ok_less (P := (PySem.Challenge.rw_matefloors_k16_whole_sums_kept).prog) (w := w) (base := base) (df X G c 7 rfl rfl) c_plus c_contrary_sign
    have c_sign_of := ok_sign (P := (PySem.Challenge.rw_matefloors_k16_whole_sums_kept).prog) (w := w) (base := base) T (df X G c 9 rfl rfl)
    have c_is_above := ok_above (P := (PySem.Challenge.rw_matefloors_k16_whole_sums_kept).prog) (w := w) (base := base) (df X G c 10 rfl rfl) c_sign_of c_less
    have c_is_whole := ok_whole (P := (PySem.Challenge.rw_matefloors_k16_whole_sums_kept).prog) (w := w) (base := base) T (df X G c 0 rfl rfl)
    have c_is_number := ok_number (P := (PySem.Challenge.rw_matefloors_k16_whole_sums_kept).prog) (w := w) (base := base) T (df X G c 2 rfl rfl) c_is_whole c_shared
    have c_is_above_nought := ok_aboveN (P := (PySem.Challenge.rw_matefloors_k16_whole_sums_kept).prog) (w := w) (base := base) (df X G c 11 rfl rfl) c_is_number c_sign_of
    have c_is_tile := ok_tile (P := (PySem.Challenge.rw_matefloors_k16_whole_sums_kept).prog) (w := w) (base := base) T (df X G c 13 rfl rfl) c_is_number c_sign_of
    have c_ordered := ok_ordered (P := (PySem.Challenge.rw_matefloors_k16_whole_sums_kept).prog) (w := w) (base := base) T (df X G c 12 rfl rfl) c_is_above
    have c_wide_spans := ok_wide (P := (PySem.Challenge.rw_matefloors_k16_whole_sums_kept).prog) (w := w) (base := base) (df X G c 16 rfl rfl) c_plus
    have c_high_spans := ok_high (P := (PySem.Challenge.rw_matefloors_k16_whole_sums_kept).prog) (w := w) (base := base) (df X G c 17 rfl rfl) c_plus
    have c_area_of := ok_area (P := (PySem.Challenge.rw_matefloors_k16_whole_sums_kept).prog) (w := w) (base := base) T (df X G c 18 rfl rfl) c_plus c_times
    have c_no_two_meet := ok_nomeet (P := (PySem.Challenge.rw_matefloors_k16_whole_sums_kept).prog) (w := w) (base := base) T (df X G c 15 rfl rfl)
    have c_places_in := ok_places (P := (PySem.Challenge.rw_matefloors_k16_whole_sums_kept).prog) (w := w) (base := base) T (df X G c 14 rfl rfl) c_ordered
    have c_cover := ok_cover (P := (PySem.Challenge.rw_matefloors_k16_whole_sums_kept).prog) (w := w) (base := base) T (df X G c 19 rfl rfl) c_wide_spans c_high_spans c_is_above c_area_of c_times c_no_two_meet c_places_in
    have c_is_laying := ok_laying (P := (PySem.Challenge.rw_matefloors_k16_whole_sums_kept).prog) (w := w) (base := base) T (df X G c 20 rfl rfl) c_is_above_nought c_is_tile c_cover
    have c_weighed := ok_weighed (P := (PySem.Challenge.rw_matefloors_k16_whole_sums_kept).prog) (w := w) (base := base) (df X G c 21 rfl rfl) c_plus c_times c_mate
    have c_weighed_sums := ok_sums (P := (PySem.Challenge.rw_matefloors_k16_whole_sums_kept).prog) (w := w) (base := base) eX (df X G c 22 rfl rfl) c_is_laying c_weighed
    have c_law_shared := ok_lshared (P := (PySem.Challenge.rw_matefloors_k16_whole_sums_kept).prog) (w := w) (base := base) T (df X G c 26 rfl rfl)
    have c_law_low := ok_llow (P := (PySem.Challenge.rw_matefloors_k16_whole_sums_kept).prog) (w := w) (base := base) T (df X G c 27 rfl rfl) c_law_shared
    have c_law_is_whole := ok_lwhole (P := (PySem.Challenge.rw_matefloors_k16_whole_sums_kept).prog) (w := w) (base := base) T (df X G c 25 rfl rfl)
    have c_law_is_number := ok_lnumber (P := (PySem.Challenge.rw_matefloors_k16_whole_sums_kept).prog) (w := w) (base := base) T (df X G c 28 rfl rfl) c_law_is_whole c_law_shared
    have c_law_plus := ok_lplus (P := (PySem.Challenge.rw_matefloors_k16_whole_sums_kept).prog) (w := w) (base := base) T (df X G c 29 rfl rfl) c_law_low
    have c_law_times := ok_ltimes (P := (PySem.Challenge.rw_matefloors_k16_whole_sums_kept).prog) (w := w) (base := base) T (df X G c 32 rfl rfl) c_law_low
    have c_law_minus := ok_lminus (P := (PySem.Challenge.rw_matefloors_k16_whole_sums_kept).prog) (w := w) (base := base) (df X G c 30 rfl rfl)
    have c_law_mate := ok_lmate (P := (PySem.Challenge.rw_matefloors_k16_whole_sums_kept).prog) (w := w) (base := base) (df X G c 31 rfl rfl)
    have c_law_contrary := ok_lcont (P := (PySem.Challenge.rw_matefloors_k16_whole_sums_kept).prog) (w := w) (base := base) T (df X G c 33 rfl rfl) c_law_low
    have c_law_sign := ok_lsign (P := (PySem.Challenge.rw_matefloors_k16_whole_sums_kept).prog) (w := w) (base := base) T (df X G c 34 rfl rfl)
    have c_law_take := ok_take (P := (PySem.Challenge.rw_matefloors_k16_whole_sums_kept).prog) (w := w) (base := base) (df X G c 24 rfl rfl)
    have c_law_bag := ok_bag (P := (PySem.Challenge.rw_matefloors_k16_whole_sums_kept).prog) (w := w) (base := base) T (df X G c 23 rfl rfl)
    have c_law_root := ok_root (P := (PySem.Challenge.rw_matefloors_k16_whole_sums_kept).prog) (w := w) (base := base) T (df X G c 35 rfl rfl) c_law_take
    have c_law_number := ok_lnum (P := (PySem.Challenge.rw_matefloors_k16_whole_sums_kept).prog) (w := w) (base := base) T (df X G c 36 rfl rfl) c_law_take c_law_low
    have c_law_weigh := ok_lweigh (P := (PySem.Challenge.rw_matefloors_k16_whole_sums_kept).prog) (w := w) (base := base) (df X G c 40 rfl rfl) c_law_plus c_law_times c_law_mate
    have c_law_above := ok_lab (P := (PySem.Challenge.rw_matefloors_k16_whole_sums_kept).prog) (w := w) (base := base) (df X G c 37 rfl rfl) c_law_take c_law_number c_law_sign c_law_minus
    have c_law_between := ok_btw (P := (PySem.Challenge.rw_matefloors_k16_whole_sums_kept).prog) (w := w) (base := base) (df X G c 41 rfl rfl) c_law_take c_law_low c_law_sign c_law_minus c_law_plus c_law_contrary
    have c_law_odd := ok_odd (P := (PySem.Challenge.rw_matefloors_k16_whole_sums_kept).prog) (w := w) (base := base) T (df X G c 38 rfl rfl) c_law_take
    have c_law_cut := ok_cut (P := (PySem.Challenge.rw_matefloors_k16_whole_sums_kept).prog) (w := w) (base := base) T (df X G c 42 rfl rfl) c_law_take c_law_times c_law_plus c_law_minus c_law_between
    have c_law_laying := ok_layg (P := (PySem.Challenge.rw_matefloors_k16_whole_sums_kept).prog) (w := w) (base := base) T (df X G c 43 rfl rfl) c_law_take c_law_above c_law_cut
    have c_law_is_told := ok_told (P := (PySem.Challenge.rw_matefloors_k16_whole_sums_kept).prog) (w := w) (base := base) T (df X G c 44 rfl rfl) c_weighed_sums c_law_weigh c_law_is_number c_law_plus
    have c_law_spoilt := ok_spoilt (P := (PySem.Challenge.rw_matefloors_k16_whole_sums_kept).prog) (w := w) (base := base) T (df X G c 45 rfl rfl) c_law_take c_law_plus c_law_times c_law_odd
    exact ok_law T R lk hcd TB2 (df X G c 39 rfl rfl) c_weighed_sums c_law_bag c_law_root c_law_laying c_law_number c_law_take c_law_is_told c_law_spoilt
end
end MfE
open PySem PySem.W PySem.Calls PyProof.Rows
theorem PySem.Challenge.cw_matefloors_k16_whole_sums_kept_holds : PySem.Challenge.rw_matefloors_k16_whole_sums_kept.Holds := by
  w_on; o_law
  refine HandSHeadRun.head_any (r := OpenLaw.row PySem.Challenge.rw_matefloors_k16_whole_sums_kept) (q := view (OpenLaw.row PySem.Challenge.rw_matefloors_k16_whole_sums_kept).prog [67]) (H := MfH.hk) (ob := MfH.ob) (M := 6000) (loose := MfH.loose) (d := HandSHeadRun.topDef (OpenLaw.row PySem.Challenge.rw_matefloors_k16_whole_sums_kept).prog 67) (kwd := []) MfH.ob_eq
    (by kernel_rfl) (fun s => by kernel_rfl) MfH.run (by kernel_rfl) (by kernel_rfl) (by kernel_rfl) (by rfl) (by first | assumption | decide +kernel) (by decide +kernel) ⟨rfl, rfl, rfl, rfl, rfl, by decide +kernel⟩ ?hw ?hc
  case hw => w_witness2
  case hc =>
    refine LamX.walk_ofTsE (l := PySem.Challenge.rw_matefloors_k16_whole_sums_kept) (n := 63) (k := 13) (x := "_law_script") (CX := fun _ => C8.CX0) rfl (by decide) (by kernel_rfl) ⟨rfl, by decide, by decide⟩ ?F (fun _ _ _ _ _ z => z)
    intro w mg fa h Y G hmg0
    obtain ⟨K, KX, c⟩ := Y
    have hmg : mg ("law" : PySem.Str) = some (.ref fa) := by
      have e : (HandSHeadRun.topDef (OpenLaw.row PySem.Challenge.rw_matefloors_k16_whole_sums_kept).prog 67).name = ("law" : PySem.Str) := by kernel_rfl
      rw [← e]
      exact hmg0
    exact ⟨K, KX, MfE.at_law KX G hmg (He.glo_ok KX G (c.t.d.fact 78 (f := .glo "NOUGHT") rfl)) c⟩

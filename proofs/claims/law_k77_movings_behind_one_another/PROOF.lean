import PyProof.Rows.All
import Wide.All
import OpenK.AllK
import Wide.FinOn
import HandS.ForMost
import HandS.ForExc
import HandS.Wide
import HandS.IsInst
import HandS.NoneIn
import HandS.Nested
import HandS.EndTab
import HandS.Defaults
import PySem.Challenge.RW_rodleg_k77_movings_behind_one_another
set_option linter.all false
/-! Ordered fields and what is made of them by the root of a number that has none there. Core Lean alone. -/
namespace Rl
open Lean.Grind

class OFld (F : Type) extends Lean.Grind.Field F, LE F, LT F where
  isLin : Std.IsLinearOrder F
  lawLT : Std.LawfulOrderLT F
  ordR : Lean.Grind.OrderedRing F
  dec : DecidableEq F
instance ofLin {F : Type} [OFld F] : Std.IsLinearOrder F := OFld.isLin
instance ofLT {F : Type} [OFld F] : Std.LawfulOrderLT F := OFld.lawLT
instance ofOrd {F : Type} [OFld F] : Lean.Grind.OrderedRing F := OFld.ordR
instance ofDec {F : Type} [OFld F] : DecidableEq F := OFld.dec
instance : OFld Rat := { isLin := inferInstance, lawLT := inferInstance, ordR := inferInstance, dec := inferInstance }

section
variable {F : Type} [OFld F]
theorem sq_nn (a : F) : 0 ≤ a * a := by
  rcases Std.le_total (a := (0 : F)) (b := a) with h | h
  · by_cases e : a = 0
    · subst e; grind
    · have : 0 < a := by grind
      have := OrderedRing.mul_lt_mul_of_pos_left this this
      grind
  · by_cases e : a = 0
    · subst e; grind
    · have h1 : 0 < -a := by grind
      have := OrderedRing.mul_lt_mul_of_pos_left h1 h1
      grind
theorem mul_pos' {a b : F} (h : 0 < a) (g : 0 < b) : 0 < a * b := by
  have := OrderedRing.mul_lt_mul_of_pos_left g h
  grind
theorem mul_nn {a b : F} (h : 0 ≤ a) (g : 0 ≤ b) : 0 ≤ a * b := by
  by_cases e : a = 0
  · subst e; grind
  · by_cases e' : b = 0
    · subst e'; grind
    · have := mul_pos' (a := a) (b := b) (by grind) (by grind)
      grind
theorem sq_pos {a : F} (h : a ≠ 0) : 0 < a * a := by
  have := sq_nn a
  have : a * a ≠ 0 := by grind
  grind
theorem ssq {a b : F} (h : a * a + b * b = 0) : a = 0 ∧ b = 0 := by
  have h1 := sq_nn a
  have h2 := sq_nn b
  by_cases e : a = 0
  · subst e
    refine ⟨rfl, ?_⟩
    by_cases e' : b = 0
    · exact e'
    · have := sq_pos e'; grind
  · have := sq_pos e; grind
/-- of two squares: the root is no less -/
theorem abs_le_of_sq {p q : F} (hp : 0 ≤ p) (h : q * q ≤ p * p) : 0 ≤ p + q ∧ 0 ≤ p - q := by
  constructor
  · by_cases c : 0 ≤ p + q
    · exact c
    · have c1 : p + q < 0 := by grind
      have c2 : 0 < p - q := by grind
      have := mul_pos' (a := -(p + q)) (b := p - q) (by grind) c2
      grind
  · by_cases c : 0 ≤ p - q
    · exact c
    · have c1 : p - q < 0 := by grind
      have c2 : 0 < p + q := by grind
      have := mul_pos' (a := -(p - q)) (b := p + q) (by grind) c2
      grind
theorem mul_le_mul_nn {a b c d : F} (ha : 0 ≤ a) (hab : a ≤ b) (hc : 0 ≤ c) (hcd : c ≤ d) : a * c ≤ b * d := by
  have h1 := mul_nn (a := b - a) (b := c) (by grind) hc
  have h2 := mul_nn (a := b) (b := d - c) (by grind) (by grind)
  grind
end

/-- what has no root there -/
class NSq {F : Type} [OFld F] (s : F) : Prop where
  pos : 0 < s
  ns : ∀ x : F, x * x ≠ s

@[ext] structure Quad (F : Type) (s : F) where
  re : F
  im : F

namespace Quad
local instance ncF {F : Type} [OFld F] : NatCast F := Lean.Grind.Semiring.natCast
local instance icF {F : Type} [OFld F] : IntCast F := Lean.Grind.Ring.intCast
variable {F : Type} [OFld F] {s : F}
instance : Add (Quad F s) := ⟨fun x y => ⟨x.re + y.re, x.im + y.im⟩⟩
instance : Mul (Quad F s) := ⟨fun x y => ⟨x.re * y.re + x.im * y.im * s, x.re * y.im + x.im * y.re⟩⟩
instance : Neg (Quad F s) := ⟨fun x => ⟨-x.re, -x.im⟩⟩
instance : Sub (Quad F s) := ⟨fun x y => ⟨x.re - y.re, x.im - y.im⟩⟩
instance : NatCast (Quad F s) := ⟨fun n => ⟨(n : F), 0⟩⟩
instance : IntCast (Quad F s) := ⟨fun n => ⟨(n : F), 0⟩⟩
instance (n : Nat) : OfNat (Quad F s) n := ⟨⟨OfNat.ofNat n, 0⟩⟩
def nrm (x : Quad F s) : F := x.re * x.re - x.im * x.im * s
instance : Inv (Quad F s) := ⟨fun x => ⟨x.re * (nrm x)⁻¹, -x.im * (nrm x)⁻¹⟩⟩
instance : Div (Quad F s) := ⟨fun x y => x * y⁻¹⟩
instance : SMul Nat (Quad F s) := ⟨fun n x => (n : Quad F s) * x⟩
instance : SMul Int (Quad F s) := ⟨fun n x => (n : Quad F s) * x⟩
def pw (x : Quad F s) : Nat → Quad F s
  | 0 => 1
  | n + 1 => pw x n * x
instance : HPow (Quad F s) Nat (Quad F s) := ⟨pw⟩
def zpw (x : Quad F s) : Int → Quad F s
  | .ofNat n => x ^ n
  | .negSucc n => (x ^ (n + 1))⁻¹
instance : HPow (Quad F s) Int (Quad F s) := ⟨zpw⟩
@[simp] theorem add_re (x y : Quad F s) : (x + y).re = x.re + y.re := rfl
@[simp] theorem add_im (x y : Quad F s) : (x + y).im = x.im + y.im := rfl
@[simp] theorem sub_re (x y : Quad F s) : (x - y).re = x.re - y.re := rfl
@[simp] theorem sub_im (x y : Quad F s) : (x - y).im = x.im - y.im := rfl
@[simp] theorem neg_re (x : Quad F s) : (-x).re = -x.re := rfl
@[simp] theorem neg_im (x : Quad F s) : (-x).im = -x.im := rfl
@[simp] theorem mul_re (x y : Quad F s) : (x * y).re = x.re * y.re + x.im * y.im * s := rfl
@[simp] theorem mul_im (x y : Quad F s) : (x * y).im = x.re * y.im + x.im * y.re := rfl
@[simp] theorem inv_re (x : Quad F s) : (x⁻¹).re = x.re * (nrm x)⁻¹ := rfl
@[simp] theorem inv_im (x : Quad F s) : (x⁻¹).im = -x.im * (nrm x)⁻¹ := rfl
@[simp] theorem ofNat_re (n : Nat) : (OfNat.ofNat n : Quad F s).re = OfNat.ofNat n := rfl
@[simp] theorem ofNat_im (n : Nat) : (OfNat.ofNat n : Quad F s).im = 0 := rfl
@[simp] theorem zero_re : (0 : Quad F s).re = 0 := rfl
@[simp] theorem zero_im : (0 : Quad F s).im = 0 := rfl
@[simp] theorem one_re : (1 : Quad F s).re = 1 := rfl
@[simp] theorem one_im : (1 : Quad F s).im = 0 := rfl
@[simp] theorem nat_re (n : Nat) : (n : Quad F s).re = n := rfl
@[simp] theorem nat_im (n : Nat) : (n : Quad F s).im = 0 := rfl
@[simp] theorem int_re (n : Int) : (n : Quad F s).re = n := rfl
@[simp] theorem int_im (n : Int) : (n : Quad F s).im = 0 := rfl

theorem nrm_mul (x y : Quad F s) : nrm (x * y) = nrm x * nrm y := by
  simp only [nrm, mul_re, mul_im]; grind
theorem nrm_zero_iff [h : NSq s] {x : Quad F s} (e : nrm x = 0) : x = 0 := by
  have e1 : x.re * x.re - x.im * x.im * s = 0 := e
  by_cases c : x.im = 0
  · have : x.re = 0 := by rw [c] at e1; grind
    ext <;> simp [this, c]
  · exact absurd (show (x.re / x.im) * (x.re / x.im) = s by grind) (h.ns _)
instance instRing : Lean.Grind.CommRing (Quad F s) where
  add_zero x := by ext <;> simp <;> grind
  add_comm x y := by ext <;> simp <;> grind
  add_assoc x y z := by ext <;> simp <;> grind
  mul_assoc x y z := by ext <;> simp <;> grind
  mul_one x := by ext <;> simp <;> grind
  one_mul x := by ext <;> simp <;> grind
  left_distrib x y z := by ext <;> simp <;> grind
  right_distrib x y z := by ext <;> simp <;> grind
  zero_mul x := by ext <;> simp <;> grind
  mul_zero x := by ext <;> simp <;> grind
  npow := ⟨pw⟩
  pow_zero x := rfl
  pow_succ x n := rfl
  ofNat_succ n := by
    ext
    · simp only [ofNat_re, add_re]; exact Semiring.ofNat_succ n
    · show (0 : F) = 0 + 0
      grind
  ofNat_eq_natCast n := by
    ext
    · simp only [ofNat_re, nat_re]; exact Semiring.ofNat_eq_natCast n
    · rfl
  nsmul_eq_natCast_mul n x := rfl
  neg_add_cancel x := by ext <;> simp <;> grind
  sub_eq_add_neg x y := by ext <;> simp <;> grind
  neg_zsmul i x := by
    show ((-i : Int) : Quad F s) * x = -((i : Quad F s) * x)
    ext <;> simp only [mul_re, mul_im, int_re, int_im, neg_re, neg_im, Ring.intCast_neg] <;> grind
  zsmul_natCast_eq_nsmul n x := by
    show (((n : Nat) : Int) : Quad F s) * x = ((n : Nat) : Quad F s) * x
    have : (((n : Nat) : Int) : F) = ((n : Nat) : F) := Ring.intCast_natCast n
    ext <;> simp only [mul_re, mul_im, int_re, int_im, nat_re, nat_im, this]
  intCast_ofNat n := by
    ext
    · simp only [int_re, ofNat_re]; exact Ring.intCast_ofNat n
    · rfl
  intCast_neg i := by
    ext
    · simp only [int_re, neg_re]; exact Ring.intCast_neg i
    · simp only [int_im, neg_im]; grind
  mul_comm x y := by ext <;> simp <;> grind
instance instFld [h : NSq s] : Lean.Grind.Field (Quad F s) where
  toCommRing := instRing
  zpow := ⟨zpw⟩
  div_eq_mul_inv x y := rfl
  zero_ne_one e := by
    have : (0 : F) = 1 := congrArg Quad.re e
    exact Field.zero_ne_one this
  inv_zero := by ext <;> simp <;> grind
  mul_inv_cancel {x} hx := by
    have hn : nrm x ≠ 0 := fun e => hx (nrm_zero_iff e)
    have h1 : nrm x = x.re * x.re - x.im * x.im * s := rfl
    have h2 : nrm x * (nrm x)⁻¹ = 1 := Field.mul_inv_cancel hn
    ext
    · simp only [mul_re, inv_re, inv_im, one_re]; grind
    · simp only [mul_im, inv_re, inv_im, one_im]; grind
  zpow_zero x := rfl
  zpow_succ x n := rfl
  zpow_neg x n := by
    cases n with
    | ofNat k =>
      cases k with
      | zero =>
        show (1 : Quad F s) = (1 : Quad F s)⁻¹
        ext <;> simp [nrm] <;> grind
      | succ k => rfl
    | negSucc k =>
      show x ^ (k + 1) = ((x ^ (k + 1))⁻¹)⁻¹
      generalize x ^ (k + 1) = y
      by_cases c : y = 0
      · subst c; ext <;> simp <;> grind
      · have hn : nrm y ≠ 0 := fun e => c (nrm_zero_iff e)
        have h2 : nrm y * (nrm y)⁻¹ = 1 := Field.mul_inv_cancel hn
        have h3 : nrm (y⁻¹) = (nrm y)⁻¹ := by
          have h1 : nrm y = y.re * y.re - y.im * y.im * s := rfl
          show y.re * (nrm y)⁻¹ * (y.re * (nrm y)⁻¹) - -y.im * (nrm y)⁻¹ * (-y.im * (nrm y)⁻¹) * s = _
          grind
        ext
        · show y.re = y.re * (nrm y)⁻¹ * (nrm (y⁻¹))⁻¹
          rw [h3]; grind
        · show y.im = -(-y.im * (nrm y)⁻¹) * (nrm (y⁻¹))⁻¹
          rw [h3]; grind

/-! ### the order -/
/-- not below nought: by the norm's sign the plain or the part decides -/
def nn (x : Quad F s) : Prop := (0 ≤ nrm x ∧ 0 ≤ x.re) ∨ (nrm x ≤ 0 ∧ 0 ≤ x.im)
instance : LE (Quad F s) := ⟨fun x y => nn (y - x)⟩
instance : LT (Quad F s) := ⟨fun x y => nn (y - x) ∧ ¬ nn (x - y)⟩
theorem le_def {x y : Quad F s} : x ≤ y ↔ nn (y - x) := Iff.rfl
section
variable [h : NSq s]
theorem nn_total (x : Quad F s) : nn x ∨ nn (-x) := by
  have e : nrm (-x) = nrm x := by simp only [nrm, neg_re, neg_im]; grind
  unfold nn
  rw [e]
  simp only [neg_re, neg_im]
  rcases Std.le_total (a := (0 : F)) (b := nrm x) with a | a
  · rcases Std.le_total (a := (0 : F)) (b := x.re) with b | b
    · exact .inl (.inl ⟨a, b⟩)
    · exact .inr (.inl ⟨a, by grind⟩)
  · rcases Std.le_total (a := (0 : F)) (b := x.im) with b | b
    · exact .inl (.inr ⟨a, b⟩)
    · exact .inr (.inr ⟨a, by grind⟩)
theorem nn_anti {x : Quad F s} (a : nn x) (b : nn (-x)) : x = 0 := by
  have e : nrm (-x) = nrm x := by simp only [nrm, neg_re, neg_im]; grind
  unfold nn at a b
  rw [e] at b
  simp only [neg_re, neg_im] at b
  have h1 : nrm x = x.re * x.re - x.im * x.im * s := rfl
  have hs := h.pos
  have i1 := mul_nn (sq_nn x.im) (show 0 ≤ s by grind)
  have r1 := sq_nn x.re
  rcases a with ⟨a1, a2⟩ | ⟨a1, a2⟩
  · rcases b with ⟨b1, b2⟩ | ⟨b1, b2⟩
    · have : x.re = 0 := by grind
      apply nrm_zero_iff
      rw [this] at h1
      grind
    · exact nrm_zero_iff (by grind)
  · rcases b with ⟨b1, b2⟩ | ⟨b1, b2⟩
    · exact nrm_zero_iff (by grind)
    · have : x.im = 0 := by grind
      apply nrm_zero_iff
      rw [this] at h1
      grind
theorem nn_mul {x y : Quad F s} (a : nn x) (b : nn y) : nn (x * y) := by
  have hs := h.pos
  have e := nrm_mul x y
  have ex : nrm x = x.re * x.re - x.im * x.im * s := rfl
  have ey : nrm y = y.re * y.re - y.im * y.im * s := rfl
  unfold nn
  rw [e]
  simp only [mul_re, mul_im]
  rcases a with ⟨a1, a2⟩ | ⟨a1, a2⟩
  · rcases b with ⟨b1, b2⟩ | ⟨b1, b2⟩
    · refine .inl ⟨mul_nn a1 b1, ?_⟩
      have k := mul_le_mul_nn (a := x.im * x.im * s) (b := x.re * x.re) (c := y.im * y.im * s) (d := y.re * y.re) (mul_nn (sq_nn _) (by grind)) (by grind) (mul_nn (sq_nn _) (by grind)) (by grind)
      have := (abs_le_of_sq (p := x.re * y.re) (q := x.im * y.im * s) (mul_nn a2 b2) (by grind)).1
      grind
    · refine .inr ⟨?_, ?_⟩
      · have := mul_nn a1 (show 0 ≤ -nrm y by grind); grind
      · have k := mul_le_mul_nn (a := x.im * x.im * s) (b := x.re * x.re) (c := y.re * y.re) (d := y.im * y.im * s) (mul_nn (sq_nn _) (by grind)) (by grind) (sq_nn _) (by grind)
        have k2 : (x.im * y.re) * (x.im * y.re) ≤ (x.re * y.im) * (x.re * y.im) := by
          by_cases c : (x.im * y.re) * (x.im * y.re) ≤ (x.re * y.im) * (x.re * y.im)
          · exact c
          · have := mul_pos' (a := (x.im * y.re) * (x.im * y.re) - (x.re * y.im) * (x.re * y.im)) (b := s) (by grind) hs
            grind
        have := (abs_le_of_sq (p := x.re * y.im) (q := x.im * y.re) (mul_nn a2 b2) k2).1
        grind
  · rcases b with ⟨b1, b2⟩ | ⟨b1, b2⟩
    · refine .inr ⟨?_, ?_⟩
      · have := mul_nn (show 0 ≤ -nrm x by grind) b1; grind
      · have k := mul_le_mul_nn (a := y.im * y.im * s) (b := y.re * y.re) (c := x.re * x.re) (d := x.im * x.im * s) (mul_nn (sq_nn _) (by grind)) (by grind) (sq_nn _) (by grind)
        have k2 : (y.im * x.re) * (y.im * x.re) ≤ (y.re * x.im) * (y.re * x.im) := by
          by_cases c : (y.im * x.re) * (y.im * x.re) ≤ (y.re * x.im) * (y.re * x.im)
          · exact c
          · have := mul_pos' (a := (y.im * x.re) * (y.im * x.re) - (y.re * x.im) * (y.re * x.im)) (b := s) (by grind) hs
            grind
        have := (abs_le_of_sq (p := y.re * x.im) (q := y.im * x.re) (mul_nn b2 a2) k2).1
        grind
    · refine .inl ⟨?_, ?_⟩
      · have := mul_nn (show 0 ≤ -nrm x by grind) (show 0 ≤ -nrm y by grind); grind
      · have k := mul_le_mul_nn (a := x.re * x.re) (b := x.im * x.im * s) (c := y.re * y.re) (d := y.im * y.im * s) (sq_nn _) (by grind) (sq_nn _) (by grind)
        have := (abs_le_of_sq (p := x.im * y.im * s) (q := x.re * y.re) (mul_nn (mul_nn a2 b2) (by grind)) (by grind)).1
        grind
theorem nn_inv {x : Quad F s} (a : nn x) : nn (x⁻¹) := by
  by_cases c : x = 0
  · subst c
    rw [Field.inv_zero]
    exact a
  · have hn : nrm x ≠ 0 := fun e => c (nrm_zero_iff e)
    have h2 : nrm x * (nrm x)⁻¹ = 1 := Field.mul_inv_cancel hn
    have h3 : nrm (x⁻¹) = (nrm x)⁻¹ := by
      have h1 : nrm x = x.re * x.re - x.im * x.im * s := rfl
      show x.re * (nrm x)⁻¹ * (x.re * (nrm x)⁻¹) - -x.im * (nrm x)⁻¹ * (-x.im * (nrm x)⁻¹) * s = _
      grind
    have sg : ∀ y : F, y ≠ 0 → 0 ≤ y → 0 ≤ y⁻¹ := fun y hy h0 => by
      by_cases q : 0 ≤ y⁻¹
      · exact q
      · have := mul_pos' (a := y) (b := -y⁻¹) (by grind) (by grind)
        have : y * y⁻¹ = 1 := Field.mul_inv_cancel hy
        have : (0 : F) < 1 := OrderedRing.zero_lt_one
        grind
    unfold nn
    rw [h3]
    simp only [inv_re, inv_im]
    rcases a with ⟨a1, a2⟩ | ⟨a1, a2⟩
    · have := sg _ hn a1
      exact .inl ⟨this, mul_nn a2 this⟩
    · have := sg (-nrm x) (by grind) (by grind)
      have e : (-nrm x)⁻¹ = -(nrm x)⁻¹ := by grind
      rw [e] at this
      refine .inr ⟨by grind, ?_⟩
      have := mul_nn a2 this
      grind
theorem nn_one_add {x : Quad F s} (a : nn x) : nn (1 + x) := by
  have hs := h.pos
  have h01 : (0 : F) < 1 := OrderedRing.zero_lt_one
  have e1 : nrm (1 + x) = (1 + x.re) * (1 + x.re) - x.im * x.im * s := by simp only [nrm, add_re, add_im, one_re, one_im]; grind
  have ex : nrm x = x.re * x.re - x.im * x.im * s := rfl
  unfold nn
  rw [e1]
  simp only [add_re, add_im, one_re, one_im]
  rcases a with ⟨a1, a2⟩ | ⟨a1, a2⟩
  · exact .inl ⟨by grind, by grind⟩
  · rcases Std.le_total (a := (0 : F)) (b := (1 + x.re) * (1 + x.re) - x.im * x.im * s) with b | b
    · refine .inl ⟨b, ?_⟩
      by_cases q : 0 ≤ 1 + x.re
      · exact q
      · have := mul_pos' (a := -(1 + x.re)) (b := 1) (by grind) h01
        grind
    · exact .inr ⟨b, by grind⟩
theorem nn_add {x y : Quad F s} (a : nn x) (b : nn y) : nn (x + y) := by
  by_cases c : x = 0
  · subst c
    have : (0 : Quad F s) + y = y := by grind
    rw [this]; exact b
  · have e : x + y = x * (1 + y * x⁻¹) := by
      have : x * x⁻¹ = 1 := Field.mul_inv_cancel c
      grind
    rw [e]
    exact nn_mul a (nn_one_add (nn_mul b (nn_inv a)))
theorem nn_zero : nn (0 : Quad F s) := .inl ⟨by simp only [nrm, zero_re, zero_im]; grind, by simp only [zero_re]; grind⟩
instance instLin : Std.IsLinearOrder (Quad F s) where
  le_refl x := by
    show nn (x - x)
    have : x - x = 0 := by grind
    rw [this]; exact nn_zero
  le_trans x y z a b := by
    show nn (z - x)
    have : z - x = (z - y) + (y - x) := by grind
    rw [this]; exact nn_add b a
  le_antisymm x y a b := by
    have a' : nn (y - x) := a
    have b' : nn (x - y) := b
    have e : x - y = -(y - x) := by grind
    rw [e] at b'
    have := nn_anti a' b'
    grind
  le_total x y := by
    have e : x - y = -(y - x) := by grind
    rcases nn_total (y - x) with a | a
    · exact .inl a
    · right; show nn (x - y); rw [e]; exact a
instance instLaw : Std.LawfulOrderLT (Quad F s) where
  lt_iff x y := Iff.rfl
theorem lt_iff {x y : Quad F s} : x < y ↔ nn (y - x) ∧ x ≠ y := by
  constructor
  · rintro ⟨a, b⟩
    refine ⟨a, fun e => b ?_⟩
    subst e
    exact a
  · rintro ⟨a, b⟩
    refine ⟨a, fun c => b ?_⟩
    have e : x - y = -(y - x) := by grind
    rw [e] at c
    have := nn_anti a c
    grind
instance instOrd : Lean.Grind.OrderedRing (Quad F s) where
  add_le_left_iff {a b} c := by
    show nn (b - a) ↔ nn (b + c - (a + c))
    have : b + c - (a + c) = b - a := by grind
    rw [this]
  zero_lt_one := by
    rw [lt_iff]
    refine ⟨?_, fun e => Field.zero_ne_one e⟩
    have : (1 : Quad F s) - 0 = 1 + 0 := by grind
    rw [this]
    exact nn_one_add nn_zero
  mul_lt_mul_of_pos_left {a b c} h1 h2 := by
    rw [lt_iff] at h1 h2 ⊢
    refine ⟨?_, fun e => h1.2 ?_⟩
    · have e : c * b - c * a = (c - 0) * (b - a) := by grind
      rw [e]; exact nn_mul h2.1 h1.1
    · have := h2.2
      grind
  mul_lt_mul_of_pos_right {a b c} h1 h2 := by
    rw [lt_iff] at h1 h2 ⊢
    refine ⟨?_, fun e => h1.2 ?_⟩
    · have e : b * c - a * c = (b - a) * (c - 0) := by grind
      rw [e]; exact nn_mul h1.1 h2.1
    · have := h2.2
      grind
instance instDec : DecidableEq (Quad F s) := fun x y => if a : x.re = y.re then (if b : x.im = y.im then isTrue (Quad.ext a b) else isFalse fun e => b (congrArg Quad.im e)) else isFalse fun e => a (congrArg Quad.re e)
instance instOFld : OFld (Quad F s) := { instFld with isLin := instLin, lawLT := instLaw, ordR := instOrd, dec := instDec }
end
end Quad
end Rl

set_option Elab.async false
set_option linter.all false
set_option maxRecDepth 100000
set_option maxHeartbeats 4000000
/-! Typed readings over the hand layer: a relation tells what a value stands for; a derivation goes over the syntax once. -/
namespace Rl
open PySem PySem.Spec PyProof.Rows L2 NdefX LamX

/-- the heap has grown: what stood stands (tables of code apart), tables are as they must be -/
structure Le (T : List NTab) (H H' : Hp) : Prop where
  ex : ExtN H H'
  tb : TabsN T H → TabsN T H'
  dm : ∀ b, H' b = none → H b = none
theorem extN_refl (H : Hp) : ExtN H H := fun _ _ h _ => h
theorem extN_trans {H H1 H2 : Hp} (a : ExtN H H1) (b : ExtN H1 H2) : ExtN H H2 := fun c o h n => b c o (a c o h n) n
theorem extN_same {H H' : Hp} (s : Same H H') : ExtN H H' := fun c o h _ => s c o h
theorem Le.refl {T : List NTab} (H : Hp) : Le T H H := ⟨extN_refl H, id, fun _ h => h⟩
theorem Le.trans {T : List NTab} {H H1 H2 : Hp} (a : Le T H H1) (b : Le T H1 H2) : Le T H H2 := ⟨extN_trans a.ex b.ex, fun t => b.tb (a.tb t), fun c h => a.dm c (b.dm c h)⟩
theorem Le.same {T : List NTab} {H H' : Hp} (s : Same H H') : Le T H H' := ⟨extN_same s, fun t => t.ext s, fun _ h => s.free h⟩
theorem same_new {H : Hp} {p : Addr} {o : HO} (h : H p = none) : Same H (upd H p o) := fun b u e => by
  rw [upd_ne (ne_of_none e h)]; exact e
theorem Le.new {T : List NTab} {H : Hp} {p : Addr} {o : HO} (h : H p = none) : Le T H (upd H p o) := .same (same_new h)

/-- the heap without some objects (lists that are still being made) -/
def hid (O : List Addr) (H : Hp) : Hp := fun b => if b ∈ O then none else H b
theorem hid_out {O : List Addr} {H : Hp} {b : Addr} (h : b ∉ O) : hid O H b = H b := if_neg h
theorem hid_sub (O : List Addr) (H : Hp) : Same (hid O H) H := fun b o e => by
  unfold hid at e
  split at e
  · cases e
  · exact e
theorem hid_ext {O : List Addr} {H H' : Hp} (e : ExtN H H') : ExtN (hid O H) (hid O H') := fun b o h n => by
  unfold hid at h ⊢
  split at h
  · cases h
  · rename_i hb
    rw [if_neg hb]
    exact e b o h n
theorem hid_cons {O : List Addr} {H : Hp} {p : Addr} {o : HO} (h : H p = none) : hid (p :: O) (upd H p o) = hid O H := by
  funext b
  unfold hid
  by_cases c : b = p
  · subst c
    rw [if_pos List.mem_cons_self]
    split
    · rfl
    · exact h.symm
  · by_cases d : b ∈ O
    · rw [if_pos (List.mem_cons_of_mem _ d), if_pos d]
    · rw [if_neg (by rw [List.mem_cons]; exact fun z => z.elim c d), if_neg d, upd_ne c]
theorem hid_upd {O : List Addr} {H : Hp} {p : Addr} {o : HO} (h : p ∈ O) : hid O (upd H p o) = hid O H := by
  funext b
  unfold hid
  by_cases d : b ∈ O
  · rw [if_pos d, if_pos d]
  · rw [if_neg d, if_neg d, upd_ne (fun z => d (by rw [z]; exact h))]
theorem hid_less {O : List Addr} {H : Hp} {p : Addr} : Same (hid (p :: O) H) (hid O H) := fun b o e => by
  unfold hid at e ⊢
  split at e
  · cases e
  · rename_i hb
    rw [if_neg (fun z => hb (List.mem_cons_of_mem _ z))]
    exact e
/-- where one stands: the tables, the hidden objects -/
structure Okh (T : List NTab) (O : List Addr) (H : Hp) : Prop where
  tabs : TabsN T H
  pl : ∀ b ∈ O, ∃ o, H b = some o ∧ (∀ ps, o ≠ .tbl ps) ∧ ∀ φ, o ≠ .ext φ
theorem Okh.dom {T : List NTab} {O : List Addr} {H : Hp} (h : Okh T O H) : ∀ b ∈ O, H b ≠ none := fun b hb z => by
  obtain ⟨o, e, _⟩ := h.pl b hb
  rw [e] at z
  cases z
theorem Okh.le {T : List NTab} {O : List Addr} {H H' : Hp} (h : Okh T O H) (l : Le T H H') : Okh T O H' := ⟨l.tb h.tabs, fun b hb => let ⟨o, e, n1, n2⟩ := h.pl b hb; ⟨o, l.ex b o e n1, n1, n2⟩⟩
theorem Okh.nin {T : List NTab} {O : List Addr} {H : Hp} {p : Addr} (h : Okh T O H) (hp : H p = none) : p ∉ O := fun z => h.dom p z hp

/-- what a value stands for in a heap; it stays while the heap grows -/
structure Rp where
  R : V → Hp → Prop
  mono : ∀ {v H H'}, ExtN H H' → R v H → R v H'
def Rp.le (A B : Rp) : Prop := ∀ v H, A.R v H → B.R v H
theorem Rp.le_refl (A : Rp) : A.le A := fun _ _ h => h

/-- a plain value -/
def IsR (x : V) : Rp := ⟨fun v _ => v = x, fun _ h => h⟩
abbrev IntR (i : Int) : Rp := IsR (.int i)
abbrev BoolR (b : Bool) : Rp := IsR (.bl b)
abbrev StrR (s : Str) : Rp := IsR (.str s)
abbrev NonR : Rp := IsR .non
def AnyR : Rp := ⟨fun _ _ => True, fun _ _ => trivial⟩

def Holds : List Rp → List V → Hp → Prop
  | [], [], _ => True
  | R :: Rs, v :: vs, H => R.R v H ∧ Holds Rs vs H
  | _, _, _ => False
theorem Holds.mono : ∀ {Rs : List Rp} {vs : List V} {H H' : Hp}, ExtN H H' → Holds Rs vs H → Holds Rs vs H'
  | [], [], _, _, _, _ => trivial
  | R :: Rs, v :: vs, H, H', e, h => ⟨R.mono e h.1, Holds.mono e h.2⟩
  | [], _ :: _, _, _, _, h => h.elim
  | _ :: _, [], _, _, _, h => h.elim
theorem Holds.length : ∀ {Rs : List Rp} {vs : List V} {H : Hp}, Holds Rs vs H → vs.length = Rs.length
  | [], [], _, _ => rfl
  | R :: Rs, v :: vs, H, h => by rw [List.length_cons, List.length_cons, Holds.length h.2]
  | [], _ :: _, _, h => h.elim
  | _ :: _, [], _, h => h.elim
theorem Holds.append : ∀ {Rs Ss : List Rp} {vs us : List V} {H : Hp}, Holds Rs vs H → Holds Ss us H → Holds (Rs ++ Ss) (vs ++ us) H
  | [], _, [], _, _, _, g => g
  | R :: Rs, _, v :: vs, _, H, h, g => ⟨h.1, Holds.append h.2 g⟩
  | [], _, _ :: _, _, _, h, _ => h.elim
  | _ :: _, _, [], _, _, h, _ => h.elim
theorem Holds.get : ∀ {Rs : List Rp} {vs : List V} {H : Hp} {i : Nat} {R : Rp}, Holds Rs vs H → Rs[i]? = some R → ∃ v, vs[i]? = some v ∧ R.R v H
  | R :: Rs, v :: vs, H, 0, R', h, e => by simp at e; subst e; exact ⟨v, rfl, h.1⟩
  | R :: Rs, v :: vs, H, i + 1, R', h, e => by simpa using Holds.get (i := i) h.2 (by simpa using e)
  | [], [], _, _, _, _, e => by simp at e
  | [], _ :: _, _, _, _, h, _ => h.elim
  | _ :: _, [], _, _, _, h, _ => h.elim
theorem Holds.take : ∀ {Rs : List Rp} {vs : List V} {H : Hp} (n : Nat), Holds Rs vs H → Holds (Rs.take n) (vs.take n) H
  | [], [], _, n, _ => by simp [Holds]
  | R :: Rs, v :: vs, H, 0, h => trivial
  | R :: Rs, v :: vs, H, n + 1, h => ⟨h.1, Holds.take n h.2⟩
  | [], _ :: _, _, _, h => h.elim
  | _ :: _, [], _, _, h => h.elim
theorem Holds.drop : ∀ {Rs : List Rp} {vs : List V} {H : Hp} (n : Nat), Holds Rs vs H → Holds (Rs.drop n) (vs.drop n) H
  | [], [], _, n, _ => by simp [Holds]
  | R :: Rs, v :: vs, H, 0, h => h
  | R :: Rs, v :: vs, H, n + 1, h => Holds.drop n h.2
  | [], _ :: _, _, _, h => h.elim
  | _ :: _, [], _, _, h => h.elim
theorem Holds.set : ∀ {Rs : List Rp} {vs : List V} {H : Hp} {R : Rp} {v : V} (n : Nat), Holds Rs vs H → R.R v H → Holds (Rs.set n R) (vs.set n v) H
  | [], [], _, _, _, n, _, _ => by simp [Holds]
  | R :: Rs, v :: vs, H, _, _, 0, h, g => ⟨g, h.2⟩
  | R :: Rs, v :: vs, H, _, _, n + 1, h, g => ⟨h.1, Holds.set n h.2 g⟩
  | [], _ :: _, _, _, _, _, h, _ => h.elim
  | _ :: _, [], _, _, _, _, h, _ => h.elim

/-- a list, a tuple that is read, of such items -/
def ListR (K : PySem.W.Frag) (Rs : List Rp) : Rp :=
  ⟨fun v H => ∃ p xs, v = .ref p ∧ SqL K H p xs ∧ Holds Rs xs H, fun {v H H'} e ⟨p, xs, e1, h, g⟩ => ⟨p, xs, e1, by
    rcases h with (h | ⟨o, h⟩) | h
    · exact .inl (.inl (e _ _ h (by intro ps z; cases z)))
    · exact .inl (.inr ⟨o, e _ _ h (by intro ps z; cases z)⟩)
    · exact .inr h, g.mono e⟩⟩
def TupR (K : PySem.W.Frag) (Rs : List Rp) : Rp :=
  ⟨fun v H => ∃ p xs, v = .ref p ∧ SqT K H p xs ∧ Holds Rs xs H, fun {v H H'} e ⟨p, xs, e1, h, g⟩ => ⟨p, xs, e1, by
    rcases h with (h | ⟨o, h⟩) | h
    · exact .inl (.inl (e _ _ h (by intro ps z; cases z)))
    · exact .inl (.inr ⟨o, e _ _ h (by intro ps z; cases z)⟩)
    · exact .inr h, g.mono e⟩⟩

/-- an instance that never changes: its class, its fields in order -/
def FH : List (Str × Rp) → List (Str × V) → Hp → Prop
  | [], [], _ => True
  | (f, R) :: Fs, (g, v) :: gs, H => f = g ∧ R.R v H ∧ FH Fs gs H
  | _, _, _ => False
theorem FH.mono : ∀ {Fs : List (Str × Rp)} {gs : List (Str × V)} {H H' : Hp}, ExtN H H' → FH Fs gs H → FH Fs gs H'
  | [], [], _, _, _, _ => trivial
  | (f, R) :: Fs, (g, v) :: gs, H, H', e, h => ⟨h.1, R.mono e h.2.1, FH.mono e h.2.2⟩
  | [], _ :: _, _, _, _, h => h.elim
  | _ :: _, [], _, _, _, h => h.elim
theorem FH.look : ∀ {Fs : List (Str × Rp)} {gs : List (Str × V)} {H : Hp} {f : Str} {R : Rp}, FH Fs gs H → Fs.lookup f = some R → ∃ v, gs.lookup f = some v ∧ R.R v H
  | (f, R) :: Fs, (g, v) :: gs, H, f', R', h, e => by
    obtain ⟨rfl, h1, h2⟩ := h
    by_cases c : (f' == f) = true
    · simp only [List.lookup, c] at e ⊢
      cases e
      exact ⟨v, rfl, h1⟩
    · have c' : (f' == f) = false := by simpa using c
      simp only [List.lookup, c'] at e ⊢
      exact FH.look h2 e
  | [], [], _, _, _, _, e => by cases e
  | [], _ :: _, _, _, _, h, _ => h.elim
  | _ :: _, [], _, _, _, h, _ => h.elim
theorem FH.none : ∀ {Fs : List (Str × Rp)} {gs : List (Str × V)} {H : Hp} {f : Str}, FH Fs gs H → Fs.lookup f = none → gs.lookup f = none
  | (f, R) :: Fs, (g, v) :: gs, H, f', h, e => by
    obtain ⟨rfl, h1, h2⟩ := h
    by_cases c : (f' == f) = true
    · simp only [List.lookup, c] at e; cases e
    · have c' : (f' == f) = false := by simpa using c
      simp only [List.lookup, c'] at e ⊢
      exact FH.none h2 e
  | [], [], _, _, _, _ => rfl
  | [], _ :: _, _, _, h, _ => h.elim
  | _ :: _, [], _, _, h, _ => h.elim
def ObjR (C : Addr) (Fs : List (Str × Rp)) : Rp :=
  ⟨fun v H => ∃ a dx gs, v = .ref a ∧ H a = some (.ins C dx gs) ∧ FH Fs gs H,
   fun {v H H'} e ⟨a, dx, gs, e1, h, g⟩ => ⟨a, dx, gs, e1, e _ _ h (by intro ps z; cases z), g.mono e⟩⟩

/-! ### what the names of a def hold -/
abbrev Ctx := List (Option Rp)
def Env (G : Ctx) (σ : L2.St) (H : Hp) : Prop := σ.length = G.length ∧ ∀ (i : Nat) (R : Rp), G[i]? = some (some R) → ∃ v, σ[i]? = some (some v) ∧ R.R v H
theorem Env.mono {G : Ctx} {σ : L2.St} {H H' : Hp} (e : ExtN H H') (h : Env G σ H) : Env G σ H' := ⟨h.1, fun i R q => let ⟨v, a, b⟩ := h.2 i R q; ⟨v, a, R.mono e b⟩⟩
theorem Env.set {G : Ctx} {σ : L2.St} {H : Hp} {i : Nat} {R : Rp} {v : V} (h : Env G σ H) (r : R.R v H) : Env (G.set i (some R)) (σ.set i (some v)) H := by
  refine ⟨by rw [List.length_set, List.length_set]; exact h.1, fun j S q => ?_⟩
  by_cases c : j = i
  · subst c
    have hl : j < G.length := by
      have := (List.getElem?_eq_some_iff.mp q).1
      rwa [List.length_set] at this
    rw [List.getElem?_set_self hl] at q
    cases q
    exact ⟨v, List.getElem?_set_self (by rw [h.1]; exact hl), r⟩
  · rw [List.getElem?_set_ne (Ne.symm c)] at q ⊢
    exact h.2 j S q
/-- forgetting -/
theorem Env.weak {G G' : Ctx} {σ : L2.St} {H : Hp} (h : Env G σ H) (hl : G'.length = G.length) (w : ∀ (i : Nat) (R : Rp), G'[i]? = some (some R) → ∃ R', G[i]? = some (some R') ∧ R'.le R) : Env G' σ H :=
  ⟨h.1.trans hl.symm, fun i R q => let ⟨R', a, b⟩ := w i R q; let ⟨v, c, d⟩ := h.2 i R' a; ⟨v, c, b v H d⟩⟩
def ctx0 (N : List Str) (Rs : List Rp) : Ctx := Rs.map some ++ List.replicate (N.length - Rs.length) none
theorem env_start {N : List Str} {Rs : List Rp} {vs : List V} {H : Hp} (h : Holds Rs vs H) : Env (ctx0 N Rs) (L2.start N vs) H := by
  have hl := h.length
  refine ⟨?_, fun i R q => ?_⟩
  · simp [ctx0, L2.start, hl]
  · unfold ctx0 at q
    unfold L2.start
    by_cases c : i < Rs.length
    · rw [List.getElem?_append_left (by simpa using c), List.getElem?_map] at q
      rw [List.getElem?_append_left (by simpa [hl] using c), List.getElem?_map]
      cases e : Rs[i]? with
      | none => rw [e] at q; cases q
      | some R' =>
        rw [e] at q
        cases q
        obtain ⟨v, a, b⟩ := h.get e
        exact ⟨v, by rw [a]; rfl, b⟩
    · rw [List.getElem?_append_right (by simpa using Nat.le_of_not_lt c), List.getElem?_replicate] at q
      split at q <;> cases q

/-! ### the judgements -/
def TyE (T : List NTab) (G : Ctx) (te : TE) (R : Rp) : Prop := ∀ O σ H, Okh T O H → Env G σ (hid O H) → ∀ Q : VK, (∀ v H', Le T H H' → R.R v (hid O H') → Q v H') → te σ H Q
def TyA (T : List NTab) (G : Ctx) (ta : TA) (Rs : List Rp) : Prop := ∀ O σ H, Okh T O H → Env G σ (hid O H) → ∀ Q : List V → Hp → Prop, (∀ vs H', Le T H H' → Holds Rs vs (hid O H') → Q vs H') → ta σ H Q
def TyT (T : List NTab) (G : Ctx) (tt : TT) (b : Bool) : Prop := ∀ O σ H, Okh T O H → Env G σ (hid O H) → ∀ Q : Bool → Hp → Prop, (∀ H', Le T H H' → Q b H') → tt σ H Q
def HasE (X : Cx) (T : List NTab) (G : Ctx) (e : Expr) (R : Rp) : Prop := ∃ te, PE X e te ∧ TyE T G te R
def HasA (X : Cx) (T : List NTab) (G : Ctx) (es : List Expr) (Rs : List Rp) : Prop := ∃ ta, PA X es ta ∧ TyA T G ta Rs
def HasT (X : Cx) (T : List NTab) (G : Ctx) (e : Expr) (b : Bool) : Prop := ∃ tt, PT X e tt ∧ TyT T G tt b
def HasW (X : Cx) (T : List NTab) (G : Ctx) (e : Expr) (b : Bool) : Prop := ∃ tt, PW X e tt ∧ TyT T G tt b
/-- a block that hands back; one that is gone through -/
def RetS (X : Cx) (T : List NTab) (G : Ctx) (sts : List Stmt) (R : Rp) : Prop :=
  ∃ t, PSs X sts t ∧ ∀ O σ H, Okh T O H → Env G σ (hid O H) → ∀ D : Ends, (∀ v H', Le T H H' → R.R v (hid O H') → D.rt v H') → t D σ H
def NxtS (X : Cx) (T : List NTab) (G : Ctx) (sts : List Stmt) (G' : Ctx) : Prop :=
  ∃ t, PSs X sts t ∧ ∀ O σ H, Okh T O H → Env G σ (hid O H) → ∀ D : Ends, (∀ σ' H', Le T H H' → Env G' σ' (hid O H') → D.nx σ' H') → t D σ H
def RetP (X : Cx) (T : List NTab) (G : Ctx) (st : Stmt) (R : Rp) : Prop :=
  ∃ t, PS X st t ∧ ∀ O σ H, Okh T O H → Env G σ (hid O H) → ∀ D : Ends, (∀ v H', Le T H H' → R.R v (hid O H') → D.rt v H') → t D σ H
def NxtP (X : Cx) (T : List NTab) (G : Ctx) (st : Stmt) (G' : Ctx) : Prop :=
  ∃ t, PS X st t ∧ ∀ O σ H, Okh T O H → Env G σ (hid O H) → ∀ D : Ends, (∀ σ' H', Le T H H' → Env G' σ' (hid O H') → D.nx σ' H') → t D σ H

section
variable {X : Cx} {T : List NTab} {G G' G'' : Ctx} {e a b c : Expr} {es : List Expr} {R S R' : Rp} {Rs : List Rp} {pos p2 : Pos}
theorem HasE.sub (h : HasE X T G e R) (l : R.le S) : HasE X T G e S := let ⟨te, p, t⟩ := h; ⟨te, p, fun O σ H hT he Q q => t O σ H hT he Q fun v H' le r => q v H' le (l v _ r)⟩
theorem he_eq (h : HasE X T G e R) (q : R = S) : HasE X T G e S := q ▸ h
theorem HasT.eq {b d : Bool} (h : HasT X T G e b) (q : b = d) : HasT X T G e d := q ▸ h
/-! names, constants -/
theorem he_var (i : Nat) {x : Str} (g : G[i]? = some (some R)) (hN : X.N[i]? = some x := by rfl) (hv : Vis X.env.scope x := by first | exact Or.inl rfl | exact Or.inr (Or.inl rfl) | exact Or.inr (Or.inr rfl)) (hd : (x == ("__debug__" : Str)) = false := by decide)
    (hcd : (x == ("__classdict__" : Str)) = false := by decide) : HasE X T G (.Name x pos) R :=
  ⟨_, pe_var hN hv hd hcd, fun O σ H hT he Q q => let ⟨v, h1, h2⟩ := he.2 i R g; ⟨v, h1, q v H (Le.refl H) h2⟩⟩
theorem he_int {i j} : HasE X T G (.Constant (.int i) j pos) (IntR i) := ⟨_, pe_int, fun O σ H _ _ Q q => q _ H (Le.refl H) rfl⟩
theorem he_bl {i j} : HasE X T G (.Constant (.bool i) j pos) (BoolR i) := ⟨_, pe_bl, fun O σ H _ _ Q q => q _ H (Le.refl H) rfl⟩
theorem he_non {j} : HasE X T G (.Constant .none j pos) NonR := ⟨_, pe_non, fun O σ H _ _ Q q => q _ H (Le.refl H) rfl⟩
theorem he_str {x j} : HasE X T G (.Constant (.str x) j pos) (StrR x) := ⟨_, pe_str, fun O σ H _ _ Q q => q _ H (Le.refl H) rfl⟩
theorem he_glob {x : Str} {v : V} {u : Value} (hm : X.mg x = some u) (r : RelV v u) (hg : Gl X x := by rfl) (hd : (x == ("__debug__" : Str)) = false := by decide) : HasE X T G (.Name x pos) (IsR v) :=
  ⟨_, pe_glob hg hm r hd, fun O σ H _ _ Q q => q _ H (Le.refl H) rfl⟩
/-! operators -/
theorem he_op {op : Operator} {r : R2} (ho : OpR X (binaryOp op) r) (ha : HasE X T G a R) (hb : HasE X T G b S)
    (h : ∀ O x y H, Okh T O H → R.R x (hid O H) → S.R y (hid O H) → ∀ Q : VK, (∀ v H', Le T H H' → R'.R v (hid O H') → Q v H') → r x y H Q) : HasE X T G (.BinOp a op b pos) R' := by
  obtain ⟨ta, pa, ya⟩ := ha
  obtain ⟨tb, pb, yb⟩ := hb
  refine ⟨_, pe_op ho pa pb, fun O σ H hT he Q q => ?_⟩
  refine ya O σ H hT he _ fun x H1 l1 r1 => yb O σ H1 (hT.le l1) (he.mono (hid_ext l1.ex)) _ fun y H2 l2 r2 => ?_
  exact h O x y H2 ((hT.le l1).le l2) (R.mono (hid_ext l2.ex) r1) r2 Q fun v H3 l3 r3 => q v H3 ((l1.trans l2).trans l3) r3
theorem he_un {op : UnaryOp} {r : V → Hp → VK → Prop} (ho : UnR X (unaryOp op) r) (ha : HasE X T G a R)
    (h : ∀ O x H, Okh T O H → R.R x (hid O H) → ∀ Q : VK, (∀ v H', Le T H H' → R'.R v (hid O H') → Q v H') → r x H Q) : HasE X T G (.UnaryOp op a pos) R' := by
  obtain ⟨ta, pa, ya⟩ := ha
  refine ⟨_, pe_un ho pa, fun O σ H hT he Q q => ?_⟩
  exact ya O σ H hT he _ fun x H1 l1 r1 => h O x H1 (hT.le l1) r1 Q fun v H3 l3 r3 => q v H3 (l1.trans l3) r3
theorem he_add {i j : Int} (ha : HasE X T G a (IntR i)) (hb : HasE X T G b (IntR j)) : HasE X T G (.BinOp a .Add b pos) (IntR (i + j)) :=
  he_op op_add ha hb fun O x y H _ e1 e2 Q q => ⟨i, j, e1, e2, q _ H (Le.refl H) rfl⟩
theorem he_subI {i j : Int} (ha : HasE X T G a (IntR i)) (hb : HasE X T G b (IntR j)) : HasE X T G (.BinOp a .Sub b pos) (IntR (i - j)) :=
  he_op op_sub ha hb fun O x y H _ e1 e2 Q q => ⟨i, j, e1, e2, q _ H (Le.refl H) rfl⟩
theorem he_mul {i j : Int} (ha : HasE X T G a (IntR i)) (hb : HasE X T G b (IntR j)) (hc : CMulW i j) : HasE X T G (.BinOp a .Mult b pos) (IntR (i * j)) :=
  he_op op_mulW ha hb fun O x y H _ e1 e2 Q q => ⟨i, j, e1, e2, hc, q _ H (Le.refl H) rfl⟩
theorem he_mod {i j : Int} (ha : HasE X T G a (IntR i)) (hb : HasE X T G b (IntR j)) (hc : 0 < j) : HasE X T G (.BinOp a .Mod b pos) (IntR (i % j)) :=
  he_op op_mod ha hb fun O x y H _ e1 e2 Q q => ⟨i, j, e1, e2, hc, q _ H (Le.refl H) rfl⟩
theorem he_pow {i j : Int} (ha : HasE X T G a (IntR i)) (hb : HasE X T G b (IntR j)) (hc : CPow i j) : HasE X T G (.BinOp a .Pow b pos) (IntR (i ^ j.toNat)) :=
  he_op op_pow ha hb fun O x y H _ e1 e2 Q q => ⟨i, j, e1, e2, hc, q _ H (Le.refl H) rfl⟩
theorem he_fdivS {i j : Int} (ha : HasE X T G a (IntR i)) (hb : HasE X T G b (IntR j)) (hc : CDivW i j) : HasE X T G (.BinOp a .FloorDiv b pos) (IntR (i / j)) :=
  he_op op_fdivW ha hb fun O x y H _ e1 e2 Q q => ⟨i, j, e1, e2, hc, q _ H (Le.refl H) rfl⟩
theorem he_neg {i : Int} (ha : HasE X T G a (IntR i)) : HasE X T G (.UnaryOp .USub a pos) (IntR (-i)) :=
  he_un un_neg ha fun O x H _ e1 Q q => ⟨i, e1, q _ H (Le.refl H) rfl⟩
/-- // where there is room for any size: the base heap has no seer -/
theorem op_fdivX (hs : X.base.NoSeer) (ht : X.prog.given.tree = none) (hr : Room 34 X.A) (hst : X.stack = X.env :: X.outer) (hgen : X.env.scope.isGenerator = false) (hco : X.env.scope.isCoroutine = false) :
    OpR X (binaryOp .FloorDiv) (rI (fun _ j => j ≠ 0) fun i j => .int (i.fdiv j)) := by
  intro pins s σ H x y v u Q I rx ry h
  obtain ⟨i, j, rfl, rfl, hc, q⟩ := h
  obtain ⟨t, rfl⟩ := rx
  obtain ⟨t', rfl⟩ := ry
  have z := hr.dp
  refine floordiv_int hc ⟨.int (i.fdiv j), H, I.tok _, ⟨_, rfl⟩, q⟩ (.inr (PySem.PylongRoom.of I.nolimit ?_ (PySem.SeerAt.of (hs.keeps I.bk) ht (by rw [I.ok.frames, hst]) hgen hco I.ok.blt I.ok.glob)))
  show X.A.depth + 100 < recursionLimit
  omega
theorem he_fdiv {i j : Int} (hs : X.base.NoSeer) (ht : X.prog.given.tree = none) (hr : Room 34 X.A) (ha : HasE X T G a (IntR i)) (hb : HasE X T G b (IntR j)) (hc : j ≠ 0)
    (hst : X.stack = X.env :: X.outer := by rfl) (hgen : X.env.scope.isGenerator = false := by rfl) (hco : X.env.scope.isCoroutine = false := by rfl) : HasE X T G (.BinOp a .FloorDiv b pos) (IntR (i.fdiv j)) :=
  he_op (op_fdivX hs ht hr hst hgen hco) ha hb fun O x y H _ e1 e2 Q q => ⟨i, j, e1, e2, hc, q _ H (Le.refl H) rfl⟩
/-! comparisons -/
theorem he_cmp {op : CmpOp} {r : R2} (ho : OpR X (compareOp op) r) (ha : HasE X T G a R) (hb : HasE X T G b S)
    (h : ∀ O x y H, Okh T O H → R.R x (hid O H) → S.R y (hid O H) → ∀ Q : VK, (∀ v H', Le T H H' → R'.R v (hid O H') → Q v H') → r x y H Q) (hm : behindInMarks op b = false) : HasE X T G (.Compare a [op] [b] pos) R' := by
  obtain ⟨ta, pa, ya⟩ := ha
  obtain ⟨tb, pb, yb⟩ := hb
  refine ⟨_, pe_cmpR ho pa pb hm, fun O σ H hT he Q q => ?_⟩
  refine ya O σ H hT he _ fun x H1 l1 r1 => yb O σ H1 (hT.le l1) (he.mono (hid_ext l1.ex)) _ fun y H2 l2 r2 => ?_
  exact h O x y H2 ((hT.le l1).le l2) (R.mono (hid_ext l2.ex) r1) r2 Q fun v H3 l3 r3 => q v H3 ((l1.trans l2).trans l3) r3
theorem he_lt {i j : Int} (ha : HasE X T G a (IntR i)) (hb : HasE X T G b (IntR j)) : HasE X T G (.Compare a [.Lt] [b] pos) (BoolR (decide (i < j))) :=
  he_cmp op_lt ha hb (fun O x y H _ e1 e2 Q q => ⟨i, j, e1, e2, q _ H (Le.refl H) rfl⟩) (nomark _)
theorem he_le {i j : Int} (ha : HasE X T G a (IntR i)) (hb : HasE X T G b (IntR j)) : HasE X T G (.Compare a [.LtE] [b] pos) (BoolR (decide (i ≤ j))) :=
  he_cmp op_le ha hb (fun O x y H _ e1 e2 Q q => ⟨i, j, e1, e2, q _ H (Le.refl H) rfl⟩) (nomark _)
theorem he_gt {i j : Int} (ha : HasE X T G a (IntR i)) (hb : HasE X T G b (IntR j)) : HasE X T G (.Compare a [.Gt] [b] pos) (BoolR (decide (j < i))) :=
  he_cmp op_gt ha hb (fun O x y H _ e1 e2 Q q => ⟨i, j, e1, e2, q _ H (Le.refl H) rfl⟩) (nomark _)
theorem he_ge {i j : Int} (ha : HasE X T G a (IntR i)) (hb : HasE X T G b (IntR j)) : HasE X T G (.Compare a [.GtE] [b] pos) (BoolR (decide (j ≤ i))) :=
  he_cmp op_ge ha hb (fun O x y H _ e1 e2 Q q => ⟨i, j, e1, e2, q _ H (Le.refl H) rfl⟩) (nomark _)
theorem he_eqS {x y : V} (ha : HasE X T G a (IsR x)) (hb : HasE X T G b (IsR y)) (hs : scal x y = true := by rfl) : HasE X T G (.Compare a [.Eq] [b] pos) (BoolR (decide (x = y))) :=
  he_cmp op_eq ha hb (fun O x' y' H _ e1 e2 Q q => by cases e1; cases e2; exact ⟨hs, q _ H (Le.refl H) rfl⟩) (nomark _)
theorem he_neS {x y : V} (ha : HasE X T G a (IsR x)) (hb : HasE X T G b (IsR y)) (hs : scal x y = true := by rfl) : HasE X T G (.Compare a [.NotEq] [b] pos) (BoolR (!decide (x = y))) :=
  he_cmp op_ne ha hb (fun O x' y' H _ e1 e2 Q q => by cases e1; cases e2; exact ⟨hs, q _ H (Le.refl H) rfl⟩) (nomark _)
/-- a value that is a truth, as a test -/
theorem ht_val {b : Bool} (h : HasE X T G e (BoolR b)) (he : ∀ whole, isTrue e X.env whole = (do let v ← whole; standAt e.pos; holding [v] (truthy v)) := by intro _; rfl) : HasT X T G e b := by
  obtain ⟨te, p, y⟩ := h
  exact ⟨_, pt_val p he, fun O σ H hT hE Q q => y O σ H hT hE _ fun v H' l r => by cases r; exact ⟨b, rfl, q H' l⟩⟩
theorem ht_cmp {op : CmpOp} {r : R2} {k : Bool} (ho : OpR X (compareOp op) r) (ha : HasE X T G a R) (hb : HasE X T G b S)
    (h : ∀ O x y H, Okh T O H → R.R x (hid O H) → S.R y (hid O H) → ∀ Q : VK, (∀ H', Le T H H' → Q (.bl k) H') → r x y H Q) (hm : behindInMarks op b = false) : HasT X T G (.Compare a [op] [b] pos) k := by
  obtain ⟨ta, pa, ya⟩ := ha
  obtain ⟨tb, pb, yb⟩ := hb
  refine ⟨_, pt_cmpR ho pa pb hm, fun O σ H hT he Q q => ?_⟩
  refine ya O σ H hT he _ fun x H1 l1 r1 => yb O σ H1 (hT.le l1) (he.mono (hid_ext l1.ex)) _ fun y H2 l2 r2 => ?_
  exact h O x y H2 ((hT.le l1).le l2) (R.mono (hid_ext l2.ex) r1) r2 _ fun H3 l3 => ⟨k, rfl, q H3 ((l1.trans l2).trans l3)⟩
theorem ht_lt {i j : Int} (ha : HasE X T G a (IntR i)) (hb : HasE X T G b (IntR j)) : HasT X T G (.Compare a [.Lt] [b] pos) (decide (i < j)) :=
  ht_cmp op_lt ha hb (fun O x y H _ e1 e2 Q q => ⟨i, j, e1, e2, q H (Le.refl H)⟩) (nomark _)
theorem ht_le {i j : Int} (ha : HasE X T G a (IntR i)) (hb : HasE X T G b (IntR j)) : HasT X T G (.Compare a [.LtE] [b] pos) (decide (i ≤ j)) :=
  ht_cmp op_le ha hb (fun O x y H _ e1 e2 Q q => ⟨i, j, e1, e2, q H (Le.refl H)⟩) (nomark _)
theorem ht_gt {i j : Int} (ha : HasE X T G a (IntR i)) (hb : HasE X T G b (IntR j)) : HasT X T G (.Compare a [.Gt] [b] pos) (decide (j < i)) :=
  ht_cmp op_gt ha hb (fun O x y H _ e1 e2 Q q => ⟨i, j, e1, e2, q H (Le.refl H)⟩) (nomark _)
theorem ht_ge {i j : Int} (ha : HasE X T G a (IntR i)) (hb : HasE X T G b (IntR j)) : HasT X T G (.Compare a [.GtE] [b] pos) (decide (j ≤ i)) :=
  ht_cmp op_ge ha hb (fun O x y H _ e1 e2 Q q => ⟨i, j, e1, e2, q H (Le.refl H)⟩) (nomark _)
theorem ht_eqS {x y : V} (ha : HasE X T G a (IsR x)) (hb : HasE X T G b (IsR y)) (hs : scal x y = true := by rfl) : HasT X T G (.Compare a [.Eq] [b] pos) (decide (x = y)) :=
  ht_cmp op_eq ha hb (fun O x' y' H _ e1 e2 Q q => by cases e1; cases e2; exact ⟨hs, q H (Le.refl H)⟩) (nomark _)
theorem ht_neS {x y : V} (ha : HasE X T G a (IsR x)) (hb : HasE X T G b (IsR y)) (hs : scal x y = true := by rfl) : HasT X T G (.Compare a [.NotEq] [b] pos) (!decide (x = y)) :=
  ht_cmp op_ne ha hb (fun O x' y' H _ e1 e2 Q q => by cases e1; cases e2; exact ⟨hs, q H (Le.refl H)⟩) (nomark _)
/-! and, or, not -/
theorem HasW.t {b' : Bool} (h : HasW X T G e b') : HasT X T G e b' := let ⟨t, p, y⟩ := h; ⟨t, p.pt, y⟩
theorem hw_and1 {k : Bool} (h : HasT X T G a k) : HasW X T G (.BoolOp .And [a] pos) k := let ⟨t, p, y⟩ := h; ⟨t, pw_and1 p, y⟩
theorem hw_or1 {k : Bool} (h : HasT X T G a k) : HasW X T G (.BoolOp .Or [a] pos) k := let ⟨t, p, y⟩ := h; ⟨t, pw_or1 p, y⟩
theorem hw_andT {k : Bool} (h : HasT X T G a true) (g : HasW X T G (.BoolOp .And (b :: es) pos) k) : HasW X T G (.BoolOp .And (a :: b :: es) pos) k := by
  obtain ⟨t, p, y⟩ := h
  obtain ⟨u, p', y'⟩ := g
  refine ⟨_, pw_and p p', fun O σ H hT he Q q => y O σ H hT he _ fun H1 l1 => ?_⟩
  exact iteT (y' O σ H1 (hT.le l1) (he.mono (hid_ext l1.ex)) _ fun H2 l2 => q H2 (l1.trans l2))
/-- the later ones aren't asked -/
theorem hw_andF {tt : TT} (h : HasT X T G a false) (g : PW X (.BoolOp .And (b :: es) pos) tt) : HasW X T G (.BoolOp .And (a :: b :: es) pos) false := by
  obtain ⟨t, p, y⟩ := h
  exact ⟨_, pw_and p g, fun O σ H hT he Q q => y O σ H hT he _ fun H1 l1 => iteF (q H1 l1)⟩
theorem hw_orF {k : Bool} (h : HasT X T G a false) (g : HasW X T G (.BoolOp .Or (b :: es) pos) k) : HasW X T G (.BoolOp .Or (a :: b :: es) pos) k := by
  obtain ⟨t, p, y⟩ := h
  obtain ⟨u, p', y'⟩ := g
  refine ⟨_, pw_or p p', fun O σ H hT he Q q => y O σ H hT he _ fun H1 l1 => ?_⟩
  exact iteF (y' O σ H1 (hT.le l1) (he.mono (hid_ext l1.ex)) _ fun H2 l2 => q H2 (l1.trans l2))
theorem hw_orT {tt : TT} (h : HasT X T G a true) (g : PW X (.BoolOp .Or (b :: es) pos) tt) : HasW X T G (.BoolOp .Or (a :: b :: es) pos) true := by
  obtain ⟨t, p, y⟩ := h
  exact ⟨_, pw_or p g, fun O σ H hT he Q q => y O σ H hT he _ fun H1 l1 => iteT (q H1 l1)⟩
/-- a test that is never asked -/
theorem pw_never : PW X e (fun _ _ _ => False) := ⟨fun _ _ _ _ _ _ _ h => h.elim⟩
theorem pe_never : PE X e (fun _ _ _ => False) := ⟨fun _ _ _ _ _ _ h => h.elim⟩
theorem pa_never : PA X es (fun _ _ _ => False) := ⟨fun _ _ _ _ _ _ _ h => h.elim⟩
theorem hw_and {k l : Bool} (h : HasT X T G a k) (g : k = true → HasW X T G (.BoolOp .And (b :: es) pos) l) : HasW X T G (.BoolOp .And (a :: b :: es) pos) (k && l) := by
  cases k with
  | true => exact hw_andT h (g rfl)
  | false => exact hw_andF h pw_never
theorem hw_or {k l : Bool} (h : HasT X T G a k) (g : k = false → HasW X T G (.BoolOp .Or (b :: es) pos) l) : HasW X T G (.BoolOp .Or (a :: b :: es) pos) (k || l) := by
  cases k with
  | false => exact hw_orF h (g rfl)
  | true => exact hw_orT h pw_never
theorem ht_not {k : Bool} (h : HasT X T G a k) : HasT X T G (.UnaryOp .Not a pos) (!k) := by
  obtain ⟨t, p, y⟩ := h
  exact ⟨_, pt_not p, fun O σ H hT he Q q => y O σ H hT he _ fun H1 l1 => q H1 l1⟩
/-! .. as values -/
theorem he_one {op} (h : HasE X T G a R) : HasE X T G (.BoolOp op [a] pos) R := let ⟨t, p, y⟩ := h; ⟨t, pe_one p, y⟩
theorem he_and {k l : Bool} (h : HasE X T G a (BoolR k)) (g : k = true → HasE X T G (.BoolOp .And (b :: es) pos) (BoolR l)) : HasE X T G (.BoolOp .And (a :: b :: es) pos) (BoolR (k && l)) := by
  obtain ⟨t, p, y⟩ := h
  cases k with
  | true =>
    obtain ⟨u, p', y'⟩ := g rfl
    refine ⟨_, pe_and p p', fun O σ H hT he Q q => y O σ H hT he _ fun v H1 l1 r => ?_⟩
    cases r
    exact ⟨true, rfl, iteT (y' O σ H1 (hT.le l1) (he.mono (hid_ext l1.ex)) _ fun v2 H2 l2 r2 => q v2 H2 (l1.trans l2) r2)⟩
  | false =>
    refine ⟨_, pe_and p pe_never, fun O σ H hT he Q q => y O σ H hT he _ fun v H1 l1 r => ?_⟩
    cases r
    exact ⟨false, rfl, iteF (q _ H1 l1 rfl)⟩
theorem he_or {k l : Bool} (h : HasE X T G a (BoolR k)) (g : k = false → HasE X T G (.BoolOp .Or (b :: es) pos) (BoolR l)) : HasE X T G (.BoolOp .Or (a :: b :: es) pos) (BoolR (k || l)) := by
  obtain ⟨t, p, y⟩ := h
  cases k with
  | false =>
    obtain ⟨u, p', y'⟩ := g rfl
    refine ⟨_, pe_or p p', fun O σ H hT he Q q => y O σ H hT he _ fun v H1 l1 r => ?_⟩
    cases r
    exact ⟨false, rfl, iteF (y' O σ H1 (hT.le l1) (he.mono (hid_ext l1.ex)) _ fun v2 H2 l2 r2 => q v2 H2 (l1.trans l2) r2)⟩
  | true =>
    refine ⟨_, pe_or p pe_never, fun O σ H hT he Q q => y O σ H hT he _ fun v H1 l1 r => ?_⟩
    cases r
    exact ⟨true, rfl, iteT (q _ H1 l1 rfl)⟩
theorem he_not {k : Bool} (h : HasE X T G a (BoolR k)) : HasE X T G (.UnaryOp .Not a pos) (BoolR (!k)) := by
  obtain ⟨t, p, y⟩ := h
  refine ⟨_, pe_not p, fun O σ H hT he Q q => y O σ H hT he _ fun v H1 l1 r => ?_⟩
  cases r
  exact ⟨k, rfl, q _ H1 l1 rfl⟩
theorem he_if {k : Bool} (h : HasT X T G c k) (h1 : k = true → HasE X T G a R) (h2 : k = false → HasE X T G b R) : HasE X T G (.IfExp c a b pos) R := by
  obtain ⟨t, p, y⟩ := h
  cases k with
  | true =>
    obtain ⟨u, p', y'⟩ := h1 rfl
    exact ⟨_, pe_ifExp p p' pe_never, fun O σ H hT he Q q => y O σ H hT he _ fun H1 l1 => iteT (y' O σ H1 (hT.le l1) (he.mono (hid_ext l1.ex)) _ fun v2 H2 l2 r2 => q v2 H2 (l1.trans l2) r2)⟩
  | false =>
    obtain ⟨u, p', y'⟩ := h2 rfl
    exact ⟨_, pe_ifExp p pe_never p', fun O σ H hT he Q q => y O σ H hT he _ fun H1 l1 => iteF (y' O σ H1 (hT.le l1) (he.mono (hid_ext l1.ex)) _ fun v2 H2 l2 r2 => q v2 H2 (l1.trans l2) r2)⟩
/-! fields -/
theorem he_fld {f : Str} {C : Addr} {Fs : List (Str × Rp)} (h : HasE X T G e (ObjR C Fs)) (hc : Cls X.K C) (hn : NoAttr X.K C f) (hl : Fs.lookup f = some R) (hb : attributeBase e f X.env (eval e X.env) = eval e X.env := by rfl) :
    HasE X T G (.Attribute e f pos) R := by
  obtain ⟨t, p, y⟩ := h
  refine ⟨_, pe_fld p hb, fun O σ H hT he Q q => y O σ H hT he _ fun v H1 l1 ⟨a, dx, gs, e1, h1, g⟩ => ?_⟩
  obtain ⟨u, hu, r⟩ := g.look hl
  exact ⟨a, C, dx, gs, u, e1, hid_sub _ _ _ _ h1, hc, hn, hu, q u H1 l1 r⟩
/-! arguments, displays -/
theorem ha_nil : HasA X T G [] [] := ⟨_, pa_nil, fun O σ H _ _ Q q => q [] H (Le.refl H) trivial⟩
theorem ha_cons (h : HasE X T G e R) (g : HasA X T G es Rs) (hs : starEach (e :: es) X.env = (false, eval e X.env) :: starEach es X.env := by rfl) : HasA X T G (e :: es) (R :: Rs) := by
  obtain ⟨t, p, y⟩ := h
  obtain ⟨u, p', y'⟩ := g
  refine ⟨_, pa_cons p p' hs, fun O σ H hT he Q q => y O σ H hT he _ fun v H1 l1 r => y' O σ H1 (hT.le l1) (he.mono (hid_ext l1.ex)) _ fun vs H2 l2 rs => ?_⟩
  exact q (v :: vs) H2 (l1.trans l2) ⟨R.mono (hid_ext l2.ex) r, rs⟩
theorem he_tup {x1} (h : HasA X T G es Rs) (hz : Rs.length ≤ sizeLine := by first | decide | (simp only [List.length_cons, List.length_nil]; decide)) : HasE X T G (.Tuple es x1 pos) (TupR X.K Rs) := by
  obtain ⟨t, p, y⟩ := h
  refine ⟨_, pe_tup p, fun O σ H hT he Q q => y O σ H hT he _ fun vs H1 l1 rs => ⟨by rw [rs.length]; exact hz, fun p hp => ?_⟩⟩
  exact q _ _ (l1.trans (Le.new hp)) ⟨p, vs, rfl, SqT.of ((hid_out ((hT.le l1).nin hp)).trans upd_same), rs.mono (hid_ext (extN_same (same_new hp)))⟩
theorem he_lst (h : HasA X T G es Rs) (hz : Rs.length ≤ sizeLine := by first | decide | (simp only [List.length_cons, List.length_nil]; decide)) : HasE X T G (.List es pos) (ListR X.K Rs) := by
  obtain ⟨t, p, y⟩ := h
  refine ⟨_, pe_lst p, fun O σ H hT he Q q => y O σ H hT he _ fun vs H1 l1 rs => ⟨by rw [rs.length]; exact hz, fun p hp => ?_⟩⟩
  exact q _ _ (l1.trans (Le.new hp)) ⟨p, vs, rfl, SqL.of ((hid_out ((hT.le l1).nin hp)).trans upd_same), rs.mono (hid_ext (extN_same (same_new hp)))⟩
/-! statements -/
theorem np_set (i : Nat) {x : Str} (h : HasE X T G e R) (hN : X.N.Nodup) (hi : X.N[i]? = some x := by rfl) (hx : Loc X.env.scope x := by first | exact Or.inl rfl | exact Or.inr rfl)
    (hf : X.fn x = true ∨ X.env.scope.names.lookup x = some .local := by first | exact .inl rfl | exact .inr rfl) (hs : swapsWith e (some (.Name x p2)) pos.line X.env = pure false := by rfl) :
    NxtP X T G (.Assign [.Name x p2] e pos) (G.set i (some R)) := by
  obtain ⟨t, p, y⟩ := h
  refine ⟨_, ps_set (i := i) hN hi hx p hs hf, fun O σ H hT he D q => ?_⟩
  exact y O σ H hT he _ fun v H1 l1 r => q _ H1 l1 ((he.mono (hid_ext l1.ex)).set r)
end
end Rl

set_option Elab.async false
set_option linter.all false
set_option maxRecDepth 100000
set_option maxHeartbeats 4000000
/-! Typed readings 2: blocks, calls, lists, comprehensions, loops. -/
namespace Rl
open PySem PySem.Spec PyProof.Rows L2 NdefX LamX

/-! ### the promise of a def, by relations -/
def spT (T : List NTab) (S : List Rp → Rp → Prop) : Sp := fun vs H Q _ => ∃ Rs R O, S Rs R ∧ Okh T O H ∧ Holds Rs vs (hid O H) ∧ ∀ v H', Le T H H' → R.R v (hid O H') → Q v H'

section
variable {X : Cx} {T : List NTab} {G G' G'' : Ctx} {e a b c : Expr} {es : List Expr} {R S R' : Rp} {Rs : List Rp} {pos p2 : Pos} {st : Stmt} {rest sts sts2 : List Stmt}
/-! blocks -/
theorem RetS.sub (h : RetS X T G sts R) (l : R.le S) : RetS X T G sts S := let ⟨t, p, y⟩ := h; ⟨t, p, fun O σ H ok he D q => y O σ H ok he D fun v H' le r => q v H' le (l v _ r)⟩
theorem RetS.eq (h : RetS X T G sts R) (q : R = S) : RetS X T G sts S := q ▸ h
theorem rs_one (h : RetP X T G st R) : RetS X T G [st] R := let ⟨t, p, y⟩ := h; ⟨t, pss_one p, y⟩
/-- the rest is never come to -/
theorem rs_stop (h : RetP X T G st R) : RetS X T G (st :: rest) R := let ⟨t, p, y⟩ := h; ⟨_, pss_cons p pss_never, fun O σ H ok he D q => y O σ H ok he _ q⟩
theorem rs_cons (h : NxtP X T G st G') (g : RetS X T G' rest R) : RetS X T G (st :: rest) R := by
  obtain ⟨t, p, y⟩ := h
  obtain ⟨u, p', y'⟩ := g
  exact ⟨_, pss_cons p p', fun O σ H ok he D q => y O σ H ok he _ fun σ' H' l e' => y' O σ' H' (ok.le l) e' D fun v H2 l2 r => q v H2 (l.trans l2) r⟩
theorem ns_nil : NxtS X T G [] G := ⟨_, pss_nil, fun O σ H ok he D q => q σ H (Le.refl H) he⟩
theorem ns_one (h : NxtP X T G st G') : NxtS X T G [st] G' := let ⟨t, p, y⟩ := h; ⟨t, pss_one p, y⟩
theorem ns_cons (h : NxtP X T G st G') (g : NxtS X T G' rest G'') : NxtS X T G (st :: rest) G'' := by
  obtain ⟨t, p, y⟩ := h
  obtain ⟨u, p', y'⟩ := g
  exact ⟨_, pss_cons p p', fun O σ H ok he D q => y O σ H ok he _ fun σ' H' l e' => y' O σ' H' (ok.le l) e' D fun v H2 l2 r => q v H2 (l.trans l2) r⟩
theorem np_pass : NxtP X T G (.Pass pos) G := ⟨_, ps_pass, fun O σ H ok he D q => q σ H (Le.refl H) he⟩
theorem rp_ret (h : HasE X T G e R) : RetP X T G (.Return (some e) pos) R := let ⟨t, p, y⟩ := h; ⟨_, ps_ret p, fun O σ H ok he D q => y O σ H ok he _ q⟩
theorem np_expr (h : HasE X T G e R) (hs : swapsWith e none pos.line X.env = pure false := by rfl) : NxtP X T G (.Expr e pos) G := by
  obtain ⟨t, p, y⟩ := h
  exact ⟨_, ps_expr p hs, fun O σ H ok he D q => y O σ H ok he _ fun v H' l r => q σ H' l (he.mono (hid_ext l.ex))⟩
theorem rp_ifT (h : HasT X T G c true) (g : RetS X T G sts R) : RetP X T G (.If c sts sts2 pos) R := by
  obtain ⟨t, p, y⟩ := h
  obtain ⟨u, p', y'⟩ := g
  exact ⟨_, ps_if p p' pss_never, fun O σ H ok he D q => y O σ H ok he _ fun H' l => iteT (y' O σ H' (ok.le l) (he.mono (hid_ext l.ex)) D fun v H2 l2 r => q v H2 (l.trans l2) r)⟩
theorem rp_ifF (h : HasT X T G c false) (g : RetS X T G sts2 R) : RetP X T G (.If c sts sts2 pos) R := by
  obtain ⟨t, p, y⟩ := h
  obtain ⟨u, p', y'⟩ := g
  exact ⟨_, ps_if p pss_never p', fun O σ H ok he D q => y O σ H ok he _ fun H' l => iteF (y' O σ H' (ok.le l) (he.mono (hid_ext l.ex)) D fun v H2 l2 r => q v H2 (l.trans l2) r)⟩
theorem np_ifT (h : HasT X T G c true) (g : NxtS X T G sts G') : NxtP X T G (.If c sts sts2 pos) G' := by
  obtain ⟨t, p, y⟩ := h
  obtain ⟨u, p', y'⟩ := g
  exact ⟨_, ps_if p p' pss_never, fun O σ H ok he D q => y O σ H ok he _ fun H' l => iteT (y' O σ H' (ok.le l) (he.mono (hid_ext l.ex)) D fun v H2 l2 r => q v H2 (l.trans l2) r)⟩
theorem np_ifF (h : HasT X T G c false) (g : NxtS X T G sts2 G') : NxtP X T G (.If c sts sts2 pos) G' := by
  obtain ⟨t, p, y⟩ := h
  obtain ⟨u, p', y'⟩ := g
  exact ⟨_, ps_if p pss_never p', fun O σ H ok he D q => y O σ H ok he _ fun H' l => iteF (y' O σ H' (ok.le l) (he.mono (hid_ext l.ex)) D fun v H2 l2 r => q v H2 (l.trans l2) r)⟩
/-- an if without an else, not taken -/
theorem np_skip (h : HasT X T G c false) : NxtP X T G (.If c sts [] pos) G := np_ifF h ns_nil
/-- a, b = x, y (two plain local names) -/
theorem np_par (i j : Nat) {x y : Str} {a b : Expr} {k l : Nat} {p1 p2 p3 : Pos} {t : Stmt} (h : ∃ ta, PS X t (tPar i j ta) ∧ TyA T G ta [R, S]) : NxtP X T G t ((G.set i (some R)).set j (some S)) := by
  obtain ⟨ta, p, y⟩ := h
  refine ⟨_, p, fun O σ H ok he D q => y O σ H ok he _ fun vs H' le hh => ?_⟩
  match vs, hh with
  | [v, w], hh => exact ⟨v, w, rfl, q _ H' le (((he.mono (hid_ext le.ex)).set hh.1).set hh.2.1)⟩
/-! targets that are tuples: names alone -/
/-- stored one behind the other -/
def setAll : Ctx → List Nat → List Rp → Ctx
  | G, i :: is, R :: Rs => setAll (G.set i (some R)) is Rs
  | G, _, _ => G
def TyG (t : TGs) (is : List Nat) : Prop := ∀ (vs : List V) (σ : L2.St) (H : Hp) (Q : L2.St → Hp → Prop), vs.length = is.length →
  (∀ σ', σ' = (is.zip vs).foldl (fun s p => s.set p.1 (some p.2)) σ → Q σ' H) → t vs σ H Q
def HasG (X : Cx) (ts : List Expr) (is : List Nat) : Prop := ∃ t, PGs X ts t ∧ TyG t is
theorem hg_nil : HasG X [] [] := ⟨_, pgs_nil, fun vs σ H Q hl q => by
  match vs, hl with
  | [], _ => exact ⟨rfl, q σ rfl⟩⟩
theorem hg_cons (i : Nat) {x : Str} {ts : List Expr} {is : List Nat} (g : HasG X ts is) (hN : X.N.Nodup) (hi : X.N[i]? = some x := by rfl) (hx : Loc X.env.scope x := by first | exact Or.inl rfl | exact Or.inr rfl)
    (hf : X.fn x = true ∨ X.env.scope.names.lookup x = some .local := by first | exact .inl rfl | exact .inr rfl)
    (hs : (assignEach (.Name x pos :: ts) X.env).map (·.2) = assign (.Name x pos) X.env :: (assignEach ts X.env).map (·.2) := by rfl) : HasG X (.Name x pos :: ts) (i :: is) := by
  obtain ⟨t, p, y⟩ := g
  refine ⟨_, pgs_cons (pg_name hN hi hx hf) p hs, fun vs σ H Q hl q => ?_⟩
  match vs, hl with
  | v :: vs, hl => exact ⟨v, vs, rfl, y vs _ H Q (by simpa using hl) fun σ' e => q σ' (by rw [e]; rfl)⟩
theorem env_setAll : ∀ {is : List Nat} {Rs : List Rp} {vs : List V} {G : Ctx} {σ : L2.St} {H : Hp}, Holds Rs vs H → vs.length = is.length → Env G σ H → Env (setAll G is Rs) ((is.zip vs).foldl (fun s p => s.set p.1 (some p.2)) σ) H
  | [], Rs, vs, G, σ, H, h, hl, he => by
    match Rs, vs, hl, h with
    | [], [], _, _ => exact he
    | R :: Rs, [], _, h => exact h.elim
  | i :: is, R :: Rs, v :: vs, G, σ, H, h, hl, he => env_setAll (is := is) h.2 (by simpa using hl) (he.set h.1)
  | i :: is, [], [], G, σ, H, h, hl, he => by simp at hl
  | i :: is, [], v :: vs, G, σ, H, h, hl, he => h.elim
  | i :: is, R :: Rs, [], G, σ, H, h, hl, he => h.elim
/-- a, b, .. = e, e a tuple -/
theorem np_tup {ts : List Expr} {is : List Nat} {k : Nat} {p3 : Pos} (h : HasE X T G e (TupR X.K Rs)) (g : HasG X ts is) (hl : Rs.length = is.length) (hc : X.calm = true := by rfl)
    (hn : (assignEach ts X.env).length = is.length := by rfl) (hst : (assignEach ts X.env).findIdx? (·.1) = none := by rfl)
    (hs : swapsWithSole [.Tuple ts k p2] e pos.line X.env = pure false := by rfl) (hw : swappedStores [.Tuple ts k p2] e X.env = pure none := by rfl)
    (h1 : (assignEach [.Tuple ts k p2] X.env).map (·.2) = [assign (.Tuple ts k p2) X.env] := by rfl) : NxtP X T G (.Assign [.Tuple ts k p2] e pos) (setAll G is Rs) := by
  obtain ⟨t, p, y⟩ := h
  obtain ⟨g, pg, yg⟩ := g
  refine ⟨_, ps_asg p (pg_tup hc pg hn hst) hs hw h1, fun O σ H ok he D q => y O σ H ok he _ fun v H' le ⟨a, xs, e1, hs, hh⟩ => ?_⟩
  have hq : SqT X.K H' a xs := by
    rcases hs with (z | ⟨o, z⟩) | z
    · exact .inl (.inl (hid_sub _ _ _ _ z))
    · exact .inl (.inr ⟨o, hid_sub _ _ _ _ z⟩)
    · exact .inr z
  refine ⟨a, xs, e1, hq, hh.length.trans hl, yg xs σ H' _ (hh.length.trans hl) fun σ' e2 => ?_⟩
  rw [e2]
  exact q _ H' le (env_setAll hh (hh.length.trans hl) (he.mono (hid_ext le.ex)))
/-- a, b, .. = e, e a list -/
theorem np_unl {ts : List Expr} {is : List Nat} {k : Nat} {p3 : Pos} (h : HasE X T G e (ListR X.K Rs)) (g : HasG X ts is) (hl : Rs.length = is.length) (hc : X.calm = true := by rfl)
    (hn : (assignEach ts X.env).length = is.length := by rfl) (hst : (assignEach ts X.env).findIdx? (·.1) = none := by rfl)
    (hs : swapsWithSole [.Tuple ts k p2] e pos.line X.env = pure false := by rfl) (hw : swappedStores [.Tuple ts k p2] e X.env = pure none := by rfl)
    (h1 : (assignEach [.Tuple ts k p2] X.env).map (·.2) = [assign (.Tuple ts k p2) X.env] := by rfl) : NxtP X T G (.Assign [.Tuple ts k p2] e pos) (setAll G is Rs) := by
  obtain ⟨t, p, y⟩ := h
  obtain ⟨g, pg, yg⟩ := g
  refine ⟨_, ps_asg p (pg_unl hc pg hn hst) hs hw h1, fun O σ H ok he D q => y O σ H ok he _ fun v H' le ⟨a, xs, e1, hs, hh⟩ => ?_⟩
  have hq : SqL X.K H' a xs := by
    rcases hs with (z | ⟨o, z⟩) | z
    · exact .inl (.inl (hid_sub _ _ _ _ z))
    · exact .inl (.inr ⟨o, hid_sub _ _ _ _ z⟩)
    · exact .inr z
  refine ⟨a, xs, e1, hq, hh.length.trans hl, yg xs σ H' _ (hh.length.trans hl) fun σ' e2 => ?_⟩
  rw [e2]
  exact q _ H' le (env_setAll hh (hh.length.trans hl) (he.mono (hid_ext le.ex)))
theorem sqL_hid {K : PySem.W.Frag} {O : List Addr} {H : Hp} {a : Addr} {xs : List V} (h : SqL K (hid O H) a xs) : SqL K H a xs := (hid_sub O H).seq h
theorem sqT_hid {K : PySem.W.Frag} {O : List Addr} {H : Hp} {a : Addr} {xs : List V} (hs : SqT K (hid O H) a xs) : SqT K H a xs := by
  rcases hs with (z | ⟨o, z⟩) | z
  · exact .inl (.inl (hid_sub _ _ _ _ z))
  · exact .inl (.inr ⟨o, hid_sub _ _ _ _ z⟩)
  · exact .inr z
end

/-! ### defs -/
section
variable {P : Program} {w : World} {K : PySem.W.Frag} {mg : Str → Option Value} {base : Heap} {T : List NTab} {x qual : Str} {st : Stmt} {f : Addr} {fd : FuncData} {N ps : List Str} {k : Nat} {S : List Rp → Rp → Prop}
theorem fn_typed (F : Fun K x qual st f fd) (sc : FnScope N ps (defScope st)) (hl : ∀ Rs R, S Rs R → Rs.length = ps.length)
    (h : ∀ Rs R, S Rs R → ∀ (cdv : Value) (A : Around) (outer : List PySem.Env) (s : Shared) (H : Hp) (E : XK), Room k (A.deeper (envOfC qual (defScope st) s.heap.objs.size f cdv)) →
      RetS (cxOf CX0 P w K mg base N qual (defScope st) f cdv A outer s H E).nox T (ctx0 N Rs) (defBody st) R) : FnOk P w K mg base CX0 (k + 1) f fd ps (spT T S) := by
  refine F.ok sc (fun vs H Q E ⟨Rs, R, O, hS, _, hh, _⟩ => hh.length.trans (hl Rs R hS)) fun cdv A outer s H vs Q E hr h0 => ?_
  obtain ⟨Rs, R, O, hS, ok, hh, q⟩ := h0
  obtain ⟨t, p, y⟩ := h Rs R hS cdv A outer s H E hr
  exact ⟨t, p, y O _ H ok (env_start hh) _ q⟩
/-- .. that falls off its end -/
theorem fn_typedN {G' : List Rp → Ctx} (F : Fun K x qual st f fd) (sc : FnScope N ps (defScope st)) (hl : ∀ Rs R, S Rs R → Rs.length = ps.length) (hn : ∀ Rs R, S Rs R → NonR.le R)
    (h : ∀ Rs R, S Rs R → ∀ (cdv : Value) (A : Around) (outer : List PySem.Env) (s : Shared) (H : Hp) (E : XK), Room k (A.deeper (envOfC qual (defScope st) s.heap.objs.size f cdv)) →
      NxtS (cxOf CX0 P w K mg base N qual (defScope st) f cdv A outer s H E).nox T (ctx0 N Rs) (defBody st) (G' Rs)) : FnOk P w K mg base CX0 (k + 1) f fd ps (spT T S) := by
  refine F.ok sc (fun vs H Q E ⟨Rs, R, O, hS, _, hh, _⟩ => hh.length.trans (hl Rs R hS)) fun cdv A outer s H vs Q E hr h0 => ?_
  obtain ⟨Rs, R, O, hS, ok, hh, q⟩ := h0
  obtain ⟨t, p, y⟩ := h Rs R hS cdv A outer s H E hr
  exact ⟨t, p, y O _ H ok (env_start hh) _ fun σ' H' l _ => q _ H' l (hn Rs R hS _ _ rfl)⟩
end
/-- a def by its name, with the defaults that fill up -/
structure GFn (P : Program) (w : World) (K : PySem.W.Frag) (mg : Str → Option Value) (base : Heap) (T : List NTab) (x : Str) (k : Nat) (Ds : List Rp) (S : List Rp → Rp → Prop) : Prop where
  ex : ∃ (f : Addr) (fd : FuncData) (ps : List Str) (ds : List Value) (dvs : List V), mg x = some (.ref f) ∧ PySem.W.keepIn K (.ref f) = true ∧ FnOk P w K mg base CX0 k f fd ps (spT T S) ∧ Binds K fd ps ds ∧ Vals dvs ds ∧ ∀ H, Holds Ds dvs H
/-- a method of a class -/
structure MFn (P : Program) (w : World) (K : PySem.W.Frag) (mg : Str → Option Value) (base : Heap) (T : List NTab) (C : Addr) (m : Str) (k : Nat) (Ds : List Rp) (S : List Rp → Rp → Prop) : Prop where
  cls : Cls K C
  ex : ∃ (f : Addr) (fd : FuncData) (ps : List Str) (ds : List Value) (dvs : List V), Meth K C m f ∧ FnOk P w K mg base CX0 k f fd ps (spT T S) ∧ Binds K fd ps ds ∧ Vals dvs ds ∧ ∀ H, Holds Ds dvs H
/-- a class that is called -/
structure CFn (P : Program) (w : World) (K : PySem.W.Frag) (mg : Str → Option Value) (base : Heap) (T : List NTab) (x : Str) (k : Nat) (S : List Rp → Rp → Prop) : Prop where
  ex : ∃ (C f : Addr) (fd : FuncData) (ps : List Str) (ds : List Value) (dvs : List V) (sp : Sp), mg x = some (.ref C) ∧ Mk K C f ∧ FnOk P w K mg base CX0 k f fd ps sp ∧ Binds K fd ps ds ∧ Vals dvs ds ∧
    ∀ Rs R, S Rs R → ∀ (vs : List V) (O : List Addr) (H : Hp) (y dx : Addr) (Q : VK), Okh T O H → Holds Rs vs (hid O H) → H y = none → H dx = none → dx ≠ y → (∀ H', Le T H H' → R.R (.ref y) (hid O H') → Q (.ref y) H') →
      sp (.ref y :: (vs ++ dvs)) (upd (upd H dx (.own y)) y (.ins C dx [])) (fun v H2 => v = .non ∧ Q (.ref y) H2) E0
section
variable {P : Program} {w : World} {K : PySem.W.Frag} {mg : Str → Option Value} {base : Heap} {T : List NTab} {x m : Str} {C : Addr} {j k : Nat} {Ds : List Rp} {S : List Rp → Rp → Prop}
theorem GFn.mono (h : GFn P w K mg base T x j Ds S) (hk : j ≤ k) : GFn P w K mg base T x k Ds S := let ⟨f, fd, ps, ds, dvs, a, b, c, d⟩ := h.ex; ⟨⟨f, fd, ps, ds, dvs, a, b, c.mono hk, d⟩⟩
theorem MFn.mono (h : MFn P w K mg base T C m j Ds S) (hk : j ≤ k) : MFn P w K mg base T C m k Ds S := let ⟨f, fd, ps, ds, dvs, a, c, d⟩ := h.ex; ⟨h.cls, ⟨f, fd, ps, ds, dvs, a, c.mono hk, d⟩⟩
theorem CFn.mono (h : CFn P w K mg base T x j S) (hk : j ≤ k) : CFn P w K mg base T x k S := let ⟨C, f, fd, ps, ds, dvs, sp, a, b, c, d⟩ := h.ex; ⟨⟨C, f, fd, ps, ds, dvs, sp, a, b, c.mono hk, d⟩⟩
end
section
variable {X : Cx} {T : List NTab} {G G' G'' : Ctx} {e a b c o : Expr} {es : List Expr} {R R' : Rp} {Rs Ds : List Rp} {S : List Rp → Rp → Prop} {pos p apos : Pos} {x m : Str} {C : Addr} {j k : Nat}
theorem he_call (F : GFn X.prog X.w X.K X.mg X.base T x k Ds S) (hr : Room k X.A) (ha : HasA X T G (e :: es) Rs) (hS : S (Rs ++ Ds) R) (hg : Gl X x := by rfl) (hdb : (x == ("__debug__" : Str)) = false := by decide)
    (he : starEach (e :: es) X.env = (false, eval e X.env) :: starEach es X.env := by rfl) (hpl : (backTo pos (starEach es X.env)).any (·.1) = false := by rfl) : HasE X T G (.Call (.Name x p) (e :: es) [] pos) R := by
  obtain ⟨f, fd, ps, ds, dvs, h1, h2, h3, h4, h5, h6⟩ := F.ex
  obtain ⟨t, pt, y⟩ := ha
  refine ⟨_, pe_call h3 hr hg h1 h2 h4 h5 pass0 pt hdb he hpl, fun O σ H ok hE Q q => y O σ H ok hE _ fun vs H' l hh => ?_⟩
  exact ⟨Rs ++ Ds, R, O, hS, ok.le l, hh.append (h6 _), fun v H2 l2 r => q v H2 (l.trans l2) r⟩
theorem he_call0 (F : GFn X.prog X.w X.K X.mg X.base T x k Ds S) (hr : Room k X.A) (hS : S Ds R) (hg : Gl X x := by rfl) (hdb : (x == ("__debug__" : Str)) = false := by decide) : HasE X T G (.Call (.Name x p) [] [] pos) R := by
  obtain ⟨f, fd, ps, ds, dvs, h1, h2, h3, h4, h5, h6⟩ := F.ex
  refine ⟨_, pe_call0 h3 hr hg h1 h2 h4 h5 pass0 hdb, fun O σ H ok hE Q q => ?_⟩
  exact ⟨Ds, R, O, hS, ok, h6 _, fun v H2 l2 r => q v H2 l2 r⟩
theorem he_meth {pl : Sem Bool} {Fs : List (Str × Rp)} (ho : HasE X T G o (ObjR C Fs)) (hm : Fs.lookup m = none) (F : MFn X.prog X.w X.K X.mg X.base T C m k Ds S) (hr : Room k X.A) (ha : HasA X T G (e :: es) Rs) (hS : S (ObjR C Fs :: (Rs ++ Ds)) R)
    (hst : starEach (e :: es) X.env = (false, eval e X.env) :: starEach es X.env := by rfl) (hpl : (backTo pos (starEach es X.env)).any (·.1) = false := by rfl)
    (ht : eval (.Call (.Attribute o m apos) (e :: es) [] pos) X.env = (do
      let ov ← eval o X.env
      standAt apos.atName
      let (f, first) ← holding [ov] (getMethod ov m pl)
      callWith pos f first (backTo pos (starEach (e :: es) X.env)) (backToKw pos (keywordEach [] X.env))) := by rfl) : HasE X T G (.Call (.Attribute o m apos) (e :: es) [] pos) R := by
  obtain ⟨f, fd, ps, ds, dvs, h1, h3, h4, h5, h6⟩ := F.ex
  obtain ⟨to, po, yo⟩ := ho
  obtain ⟨t, pt, y⟩ := ha
  refine ⟨_, pe_meth po F.cls h1 h3 hr h4 h5 pass0 pt hst hpl ht, fun O σ H ok hE Q q => yo O σ H ok hE _ fun v H1 l1 r1 => ?_⟩
  obtain ⟨a, dx, gs, e1, e2, e3⟩ := id r1
  refine ⟨a, dx, gs, e1, hid_sub _ _ _ _ e2, e3.none hm, y O σ H1 (ok.le l1) (hE.mono (hid_ext l1.ex)) _ fun vs H2 l2 hh => ?_⟩
  exact ⟨_, R, O, hS, (ok.le l1).le l2, ⟨Rp.mono _ (hid_ext l2.ex) r1, hh.append (h6 _)⟩, fun v' H3 l3 r => q v' H3 ((l1.trans l2).trans l3) r⟩
theorem he_meth0 {pl : Sem Bool} {Fs : List (Str × Rp)} (ho : HasE X T G o (ObjR C Fs)) (hm : Fs.lookup m = none) (F : MFn X.prog X.w X.K X.mg X.base T C m k Ds S) (hr : Room k X.A) (hS : S (ObjR C Fs :: Ds) R)
    (ht : eval (.Call (.Attribute o m apos) [] [] pos) X.env = (do
      let ov ← eval o X.env
      standAt apos.atName
      let (f, first) ← holding [ov] (getMethod ov m pl)
      callWith pos f first (backTo pos (starEach [] X.env)) (backToKw pos (keywordEach [] X.env))) := by rfl) : HasE X T G (.Call (.Attribute o m apos) [] [] pos) R := by
  obtain ⟨f, fd, ps, ds, dvs, h1, h3, h4, h5, h6⟩ := F.ex
  obtain ⟨to, po, yo⟩ := ho
  refine ⟨_, pe_meth0 po F.cls h1 h3 hr h4 h5 pass0 ht, fun O σ H ok hE Q q => yo O σ H ok hE _ fun v H1 l1 r1 => ?_⟩
  obtain ⟨a, dx, gs, e1, e2, e3⟩ := id r1
  refine ⟨a, dx, gs, e1, hid_sub _ _ _ _ e2, e3.none hm, ?_⟩
  exact ⟨_, R, O, hS, ok.le l1, ⟨r1, h6 _⟩, fun v' H3 l3 r => q v' H3 (l1.trans l3) r⟩
theorem he_make (F : CFn X.prog X.w X.K X.mg X.base T x k S) (hr : Room (k + 1) X.A) (ha : HasA X T G (e :: es) Rs) (hS : S Rs R) (hg : Gl X x := by rfl) (hdb : (x == ("__debug__" : Str)) = false := by decide)
    (he : starEach (e :: es) X.env = (false, eval e X.env) :: starEach es X.env := by rfl) (hpl : (backTo pos (starEach es X.env)).any (·.1) = false := by rfl) : HasE X T G (.Call (.Name x p) (e :: es) [] pos) R := by
  obtain ⟨C, f, fd, ps, ds, dvs, sp, h1, h2, h3, h4, h5, h6⟩ := F.ex
  obtain ⟨t, pt, y⟩ := ha
  refine ⟨_, pe_make h2 h3 hr hg h1 h4 h5 pass0 pt hdb he hpl, fun O σ H ok hE Q q => y O σ H ok hE _ fun vs H' l hh z dx hz hdx hne => ?_⟩
  exact h6 Rs R hS vs O H' z dx Q (ok.le l) hh hz hdx hne fun H2 l2 r => q _ H2 (l.trans l2) r
end

/-! ### a method whose class is one of several -/
def tMethD (M : Addr → Sp → List V → Prop) (m : Str) (ta : TE) (t : TA) : TE := fun σ H Q => ta σ H fun x H1 => ∃ a C dx fs sp dvs, x = .ref a ∧ H1 a = some (.ins C dx fs) ∧ fs.lookup m = none ∧ M C sp dvs ∧
  t σ H1 fun vs H2 => sp (x :: (vs ++ dvs)) H2 Q E0
section
variable {X : Cx} {o e : Expr} {es : List Expr} {ta : TE} {t : TA} {m : Str} {pos apos : Pos} {k : Nat} {M : Addr → Sp → List V → Prop}
theorem pe_methD {pl : Sem Bool} (po : PE X o ta)
    (all : ∀ C sp dvs, M C sp dvs → ∃ (f : Addr) (fd : FuncData) (ps : List Str) (ds : List Value), Cls X.K C ∧ Meth X.K C m f ∧ FnOk X.prog X.w X.K X.mg X.base CX0 k f fd ps sp ∧ Binds X.K fd ps ds ∧ Vals dvs ds)
    (room : Room k X.A) (pargs : PA X (e :: es) t)
    (hst : starEach (e :: es) X.env = (false, eval e X.env) :: starEach es X.env := by rfl) (hpl : (backTo pos (starEach es X.env)).any (·.1) = false := by rfl)
    (ht : eval (.Call (.Attribute o m apos) (e :: es) [] pos) X.env = (do
      let ov ← eval o X.env
      standAt apos.atName
      let (f, first) ← holding [ov] (getMethod ov m pl)
      callWith pos f first (backTo pos (starEach (e :: es) X.env)) (backToKw pos (keywordEach [] X.env))) := by rfl) :
    PE X (.Call (.Attribute o m apos) (e :: es) [] pos) (tMethD M m ta t) := by
  refine ⟨fun pins s σ H Q I rd => ?_⟩
  refine PySem.W.methodCall_KW (pl := pl) (thn (po.run pins s σ H _ I rd) fun v1 s1 ⟨x1, H1, I1, rx1, a, C, dx, fs, sp, dvs, ex, ea, lk, hM, rd1⟩ => ?_) ht
  obtain ⟨f, fd, ps, ds, hc, hm, hF, hb, hd⟩ := all C sp dvs hM
  subst ex
  obtain rfl : v1 = Value.ref a := rx1
  refine getmeth_ok I1 ea hc hm lk ?_
  refine PySem.W.callWith_K (first := [.ref a]) (h₀ := X.base) I.ok.mod.kin hm.kp (thn (pargs.run pos pins s1 σ H1 _ I1 rd1) fun us2 s2 ⟨vs2, H2, I2, rr, rd2⟩ => ⟨I2.kIn, ?_⟩) hst hpl
  exact run_fn (us := .ref a :: us2) (vs := .ref a :: vs2) hF room hb hd pass0 I2 (.cons rfl rr) rd2
theorem pe_methD0 {pl : Sem Bool} (po : PE X o ta)
    (all : ∀ C sp dvs, M C sp dvs → ∃ (f : Addr) (fd : FuncData) (ps : List Str) (ds : List Value), Cls X.K C ∧ Meth X.K C m f ∧ FnOk X.prog X.w X.K X.mg X.base CX0 k f fd ps sp ∧ Binds X.K fd ps ds ∧ Vals dvs ds)
    (room : Room k X.A)
    (ht : eval (.Call (.Attribute o m apos) [] [] pos) X.env = (do
      let ov ← eval o X.env
      standAt apos.atName
      let (f, first) ← holding [ov] (getMethod ov m pl)
      callWith pos f first (backTo pos (starEach [] X.env)) (backToKw pos (keywordEach [] X.env))) := by rfl) :
    PE X (.Call (.Attribute o m apos) [] [] pos) (tMethD M m ta tNil) := by
  refine ⟨fun pins s σ H Q I rd => ?_⟩
  refine PySem.W.methodCall_KW (pl := pl) (thn (po.run pins s σ H _ I rd) fun v1 s1 ⟨x1, H1, I1, rx1, a, C, dx, fs, sp, dvs, ex, ea, lk, hM, rd1⟩ => ?_) ht
  obtain ⟨f, fd, ps, ds, hc, hm, hF, hb, hd⟩ := all C sp dvs hM
  subst ex
  obtain rfl : v1 = Value.ref a := rx1
  refine getmeth_ok I1 ea hc hm lk ?_
  refine PySem.W.callWith_K0 (first := [.ref a]) I1.kIn hm.kp ?_
  exact run_fn (us := [.ref a]) (vs := [.ref a]) hF room hb hd pass0 I1 (.cons rfl .nil) rd1
end
section
variable {X : Cx} {T : List NTab} {G : Ctx} {e o : Expr} {es : List Expr} {R R0 : Rp} {Rs : List Rp} {pos apos : Pos} {m : Str} {k : Nat}
/-- the classes that a value of R0 may have, each with its method -/
def Disp (X : Cx) (T : List NTab) (k : Nat) (m : Str) (R0 : Rp) (Rs : List Rp) (R : Rp) : Prop :=
  ∀ v H, R0.R v H → ∃ C Fs Ds S, (ObjR C Fs).R v H ∧ Fs.lookup m = none ∧ MFn X.prog X.w X.K X.mg X.base T C m k Ds S ∧ S (ObjR C Fs :: (Rs ++ Ds)) R
theorem he_methD {pl : Sem Bool} (ho : HasE X T G o R0) (hD : Disp X T k m R0 Rs R) (hr : Room k X.A) (ha : HasA X T G (e :: es) Rs)
    (hst : starEach (e :: es) X.env = (false, eval e X.env) :: starEach es X.env := by rfl) (hpl : (backTo pos (starEach es X.env)).any (·.1) = false := by rfl)
    (ht : eval (.Call (.Attribute o m apos) (e :: es) [] pos) X.env = (do
      let ov ← eval o X.env
      standAt apos.atName
      let (f, first) ← holding [ov] (getMethod ov m pl)
      callWith pos f first (backTo pos (starEach (e :: es) X.env)) (backToKw pos (keywordEach [] X.env))) := by rfl) : HasE X T G (.Call (.Attribute o m apos) (e :: es) [] pos) R := by
  obtain ⟨to, po, yo⟩ := ho
  obtain ⟨t, pt, y⟩ := ha
  refine ⟨_, pe_methD (M := fun C sp dvs => ∃ f fd ps ds, Cls X.K C ∧ Meth X.K C m f ∧ FnOk X.prog X.w X.K X.mg X.base CX0 k f fd ps sp ∧ Binds X.K fd ps ds ∧ Vals dvs ds) po (fun C sp dvs z => z) hr pt hst hpl ht,
    fun O σ H ok hE Q q => yo O σ H ok hE _ fun v H1 l1 r1 => ?_⟩
  obtain ⟨C, Fs, Ds, S, r2, hm, F, hS⟩ := hD v _ r1
  obtain ⟨f, fd, ps, ds, dvs, h1, h3, h4, h5, h6⟩ := F.ex
  obtain ⟨a, dx, gs, e1, e2, e3⟩ := id r2
  refine ⟨a, C, dx, gs, spT T S, dvs, e1, hid_sub _ _ _ _ e2, e3.none hm, ⟨f, fd, ps, ds, F.cls, h1, h3, h4, h5⟩, y O σ H1 (ok.le l1) (hE.mono (hid_ext l1.ex)) _ fun vs H2 l2 hh => ?_⟩
  exact ⟨_, R, O, hS, (ok.le l1).le l2, ⟨Rp.mono _ (hid_ext l2.ex) r2, hh.append (h6 _)⟩, fun v' H3 l3 r => q v' H3 ((l1.trans l2).trans l3) r⟩
theorem he_methD0 {pl : Sem Bool} (ho : HasE X T G o R0) (hD : Disp X T k m R0 [] R) (hr : Room k X.A)
    (ht : eval (.Call (.Attribute o m apos) [] [] pos) X.env = (do
      let ov ← eval o X.env
      standAt apos.atName
      let (f, first) ← holding [ov] (getMethod ov m pl)
      callWith pos f first (backTo pos (starEach [] X.env)) (backToKw pos (keywordEach [] X.env))) := by rfl) : HasE X T G (.Call (.Attribute o m apos) [] [] pos) R := by
  obtain ⟨to, po, yo⟩ := ho
  refine ⟨_, pe_methD0 (M := fun C sp dvs => ∃ f fd ps ds, Cls X.K C ∧ Meth X.K C m f ∧ FnOk X.prog X.w X.K X.mg X.base CX0 k f fd ps sp ∧ Binds X.K fd ps ds ∧ Vals dvs ds) po (fun C sp dvs z => z) hr ht,
    fun O σ H ok hE Q q => yo O σ H ok hE _ fun v H1 l1 r1 => ?_⟩
  obtain ⟨C, Fs, Ds, S, r2, hm, F, hS⟩ := hD v _ r1
  obtain ⟨f, fd, ps, ds, dvs, h1, h3, h4, h5, h6⟩ := F.ex
  obtain ⟨a, dx, gs, e1, e2, e3⟩ := id r2
  refine ⟨a, C, dx, gs, spT T S, dvs, e1, hid_sub _ _ _ _ e2, e3.none hm, ⟨f, fd, ps, ds, F.cls, h1, h3, h4, h5⟩, ?_⟩
  exact ⟨_, R, O, hS, ok.le l1, ⟨r2, h6 _⟩, fun v' H3 l3 r => q v' H3 (l1.trans l3) r⟩
end
end Rl

set_option Elab.async false
set_option linter.all false
set_option maxRecDepth 100000
set_option maxHeartbeats 4000000
/-! Typed readings 3: lists, walks, comprehensions, equality of data. -/
namespace Rl
open PySem PySem.Spec PyProof.Rows L2 NdefX LamX

/-- a list that is tracked -/
def LstR (Rs : List Rp) : Rp :=
  ⟨fun v H => ∃ p xs, v = .ref p ∧ H p = some (.lst xs) ∧ Holds Rs xs H, fun {v H H'} e ⟨p, xs, e1, h, g⟩ => ⟨p, xs, e1, e _ _ h (by intro ps z; cases z), g.mono e⟩⟩
theorem LstR.le {K : PySem.W.Frag} {Rs : List Rp} : (LstR Rs).le (ListR K Rs) := fun v H ⟨p, xs, e1, h, g⟩ => ⟨p, xs, e1, SqL.of h, g⟩
theorem Holds.le : ∀ {Rs Ss : List Rp} {vs : List V} {H : Hp}, Holds Rs vs H → Rs.length = Ss.length → (∀ (i : Nat) (R S : Rp), Rs[i]? = some R → Ss[i]? = some S → R.le S) → Holds Ss vs H
  | [], [], [], _, _, _, _ => trivial
  | R :: Rs, S :: Ss, v :: vs, H, h, hl, l => ⟨l 0 R S rfl rfl v H h.1, Holds.le h.2 (by simpa using hl) fun i R' S' a b => l (i + 1) R' S' (by simpa using a) (by simpa using b)⟩
  | [], S :: Ss, _, _, _, hl, _ => by simp at hl
  | R :: Rs, [], _, _, _, hl, _ => by simp at hl
  | [], [], v :: vs, _, h, _, _ => h.elim
  | R :: Rs, S :: Ss, [], _, h, _, _ => h.elim
section
variable {X : Cx} {T : List NTab} {G G' G'' : Ctx} {e a b c elt : Expr} {es : List Expr} {R S R' : Rp} {Rs Ss Ys : List Rp} {pos p2 p apos : Pos}
theorem he_lstT (h : HasA X T G es Rs) (hz : Rs.length ≤ sizeLine := by first | decide | (simp only [List.length_cons, List.length_nil]; decide)) : HasE X T G (.List es pos) (LstR Rs) := by
  obtain ⟨t, p, y⟩ := h
  refine ⟨_, pe_lst p, fun O σ H hT he Q q => y O σ H hT he _ fun vs H1 l1 rs => ⟨by rw [rs.length]; exact hz, fun p hp => ?_⟩⟩
  exact q _ _ (l1.trans (Le.new hp)) ⟨p, vs, rfl, (hid_out ((hT.le l1).nin hp)).trans upd_same, rs.mono (hid_ext (extN_same (same_new hp)))⟩
theorem he_ixL {i : Int} (ha : HasE X T G a (ListR X.K Rs)) (hb : HasE X T G b (IntR i)) (hi : atI Rs i = some R) (hs : PlainIx b := by intro _ _; rfl) : HasE X T G (.Subscript a b pos) R := by
  obtain ⟨ta, pa, ya⟩ := ha
  obtain ⟨tb, pb, yb⟩ := hb
  refine ⟨_, pe_ix ix_list pa pb hs, fun O σ H ok he Q q => ?_⟩
  refine ya O σ H ok he _ fun x H1 l1 ⟨p, xs, e1, h1, hh⟩ => yb O σ H1 (ok.le l1) (he.mono (hid_ext l1.ex)) _ fun y H2 l2 r2 => ?_
  have hh2 := hh.mono (hid_ext (O := O) l2.ex)
  have h2 : SqL X.K H2 p xs := by
    rcases sqL_hid h1 with (z | ⟨o, z⟩) | z
    · exact .inl (.inl (l2.ex _ _ z (by intro ps z; cases z)))
    · exact .inl (.inr ⟨o, l2.ex _ _ z (by intro ps z; cases z)⟩)
    · exact .inr z
  unfold atI at hi
  cases hk : ixN Rs.length i with
  | none => rw [hk] at hi; cases hi
  | some k =>
    rw [hk] at hi
    obtain ⟨v, hv, r⟩ := hh2.get hi
    exact ⟨p, xs, i, v, e1, r2, h2, by unfold atI; rw [hh.length, hk]; exact hv, q v H2 (l1.trans l2) r⟩
theorem he_ixT {i : Int} (ha : HasE X T G a (TupR X.K Rs)) (hb : HasE X T G b (IntR i)) (hi : atI Rs i = some R) (hs : PlainIx b := by intro _ _; rfl) : HasE X T G (.Subscript a b pos) R := by
  obtain ⟨ta, pa, ya⟩ := ha
  obtain ⟨tb, pb, yb⟩ := hb
  refine ⟨_, pe_ix ix_tup pa pb hs, fun O σ H ok he Q q => ?_⟩
  refine ya O σ H ok he _ fun x H1 l1 ⟨p, xs, e1, h1, hh⟩ => yb O σ H1 (ok.le l1) (he.mono (hid_ext l1.ex)) _ fun y H2 l2 r2 => ?_
  have hh2 := hh.mono (hid_ext (O := O) l2.ex)
  have h2 : SqT X.K H2 p xs := by
    rcases sqT_hid h1 with (z | ⟨o, z⟩) | z
    · exact .inl (.inl (l2.ex _ _ z (by intro ps z; cases z)))
    · exact .inl (.inr ⟨o, l2.ex _ _ z (by intro ps z; cases z)⟩)
    · exact .inr z
  unfold atI at hi
  cases hk : ixN Rs.length i with
  | none => rw [hk] at hi; cases hi
  | some k =>
    rw [hk] at hi
    obtain ⟨v, hv, r⟩ := hh2.get hi
    exact ⟨p, xs, i, v, e1, r2, h2, by unfold atI; rw [hh.length, hk]; exact hv, q v H2 (l1.trans l2) r⟩
theorem atI_in {α : Type} {xs : List α} {i : Int} (h0 : 0 ≤ i) (h1 : i < xs.length) : atI xs i = xs[i.toNat]? := by
  unfold atI ixN
  rw [if_pos h0, if_pos h1]
  rfl
/-- a slice's part: none, or an int -/
def HasO (X : Cx) (T : List NTab) (G : Ctx) (o : Option Expr) (i : Option Int) : Prop := ∃ t, PO X o t ∧ ∀ O σ H, Okh T O H → Env G σ (hid O H) → ∀ Q : Option Int → Hp → Prop, (∀ H', Le T H H' → Q i H') → t σ H Q
theorem ho_none : HasO X T G none none := ⟨_, po_none, fun O σ H _ _ Q q => q H (Le.refl H)⟩
theorem ho_some {i : Int} (h : HasE X T G e (IntR i)) : HasO X T G (some e) (some i) := by
  obtain ⟨t, p, y⟩ := h
  exact ⟨_, po_some p, fun O σ H ok he Q q => y O σ H ok he _ fun v H' l r => ⟨i, r, q H' l⟩⟩
def cutL {α : Type} (xs : List α) (lo hi : Option Int) : List α := (xs.drop (HT.sIx xs.length 0 lo)).take (HT.sIx xs.length xs.length hi - HT.sIx xs.length 0 lo)
theorem he_slL {lo hi : Option Expr} {l u : Option Int} (ha : HasE X T G a (ListR X.K Rs)) (h1 : HasO X T G lo l) (h2 : HasO X T G hi u) : HasE X T G (.Subscript a (.Slice lo hi none p2) pos) (LstR (cutL Rs l u)) := by
  obtain ⟨ta, pa, ya⟩ := ha
  obtain ⟨tl, pl, yl⟩ := h1
  obtain ⟨th, ph, yh⟩ := h2
  refine ⟨_, pe_slice sl_list pa pl ph, fun O σ H ok he Q q => ?_⟩
  refine ya O σ H ok he _ fun x H1 l1 ⟨p, xs, e1, h1, hh⟩ => yl O σ H1 (ok.le l1) (he.mono (hid_ext l1.ex)) _ fun H2 l2 => yh O σ H2 ((ok.le l1).le l2) (he.mono (hid_ext (l1.trans l2).ex)) _ fun H3 l3 => ?_
  have l23 := l2.trans l3
  have l13 := l1.trans l23
  have hh2 := hh.mono (hid_ext (O := O) l23.ex)
  have hs : SqL X.K H3 p xs := by
    rcases sqL_hid h1 with (z | ⟨o, z⟩) | z
    · exact .inl (.inl (l23.ex _ _ z (by intro ps z; cases z)))
    · exact .inl (.inr ⟨o, l23.ex _ _ z (by intro ps z; cases z)⟩)
    · exact .inr z
  refine ⟨p, xs, e1, hs, fun d hd => q _ _ (l13.trans (Le.new hd)) ⟨d, _, rfl, (hid_out ((ok.le l13).nin hd)).trans upd_same, ?_⟩⟩
  have hl := hh.length
  unfold cutL cutV
  rw [hl]
  exact ((hh2.drop _).take _).mono (hid_ext (extN_same (same_new hd)))
theorem he_cat (ha : HasE X T G a (LstR Rs)) (hb : HasE X T G b (LstR Ss)) (hz : Rs.length + Ss.length ≤ sizeLine) : HasE X T G (.BinOp a .Add b pos) (LstR (Rs ++ Ss)) :=
  he_op op_cat ha hb fun O x y H ok ⟨p, xs, e1, h1, g1⟩ ⟨q, ys, e2, h2, g2⟩ Q k => ⟨p, q, xs, ys, e1, e2, hid_sub _ _ _ _ h1, hid_sub _ _ _ _ h2, by rw [g1.length, g2.length]; exact hz, fun d hd =>
    k _ _ (Le.new hd) ⟨d, _, rfl, (hid_out (ok.nin hd)).trans upd_same, (g1.append g2).mono (hid_ext (extN_same (same_new hd)))⟩⟩
/-! built-in calls -/
theorem he_callB {id : String} {x : Str} {r : List V → Hp → VK → Prop} (hr : CallR X (.builtin id) r) (hm : X.mg x = none) (hv : bootBuiltins x = some (.builtin id)) (ha : HasA X T G (e :: es) Rs)
    (h : ∀ O vs H, Okh T O H → Holds Rs vs (hid O H) → ∀ Q : VK, (∀ v H', Le T H H' → R.R v (hid O H') → Q v H') → r vs H Q) (hg : Gl X x := by rfl) (hn : x ≠ "__name__" := by decide) (hdb : (x == ("__debug__" : Str)) = false := by decide)
    (he : starEach (e :: es) X.env = (false, eval e X.env) :: starEach es X.env := by rfl) (hpl : (backTo pos (starEach es X.env)).any (·.1) = false := by rfl) : HasE X T G (.Call (.Name x p) (e :: es) [] pos) R := by
  obtain ⟨t, pt, y⟩ := ha
  refine ⟨_, pe_callB hr hg hm hv pt hn hdb he hpl, fun O σ H ok hE Q q => y O σ H ok hE _ fun vs H' l hh => ?_⟩
  exact h O vs H' (ok.le l) hh Q fun v H2 l2 r => q v H2 (l.trans l2) r
theorem he_callTy {ty : String} {x : Str} {r : List V → Hp → VK → Prop} (hr : CallR X (.type ty) r) (hm : X.mg x = none) (hv : bootBuiltins x = some (.type ty)) (ha : HasA X T G (e :: es) Rs)
    (h : ∀ O vs H, Okh T O H → Holds Rs vs (hid O H) → ∀ Q : VK, (∀ v H', Le T H H' → R.R v (hid O H') → Q v H') → r vs H Q) (hg : Gl X x := by rfl) (hn : x ≠ "__name__" := by decide) (hdb : (x == ("__debug__" : Str)) = false := by decide)
    (he : starEach (e :: es) X.env = (false, eval e X.env) :: starEach es X.env := by rfl) (hpl : (backTo pos (starEach es X.env)).any (·.1) = false := by rfl) : HasE X T G (.Call (.Name x p) (e :: es) [] pos) R := by
  obtain ⟨t, pt, y⟩ := ha
  refine ⟨_, pe_callTy hr hg hm hv pt hn hdb he hpl, fun O σ H ok hE Q q => y O σ H ok hE _ fun vs H' l hh => ?_⟩
  exact h O vs H' (ok.le l) hh Q fun v H2 l2 r => q v H2 (l.trans l2) r
theorem holds1 {R : Rp} {vs : List V} {H : Hp} (h : Holds [R] vs H) : ∃ v, vs = [v] ∧ R.R v H := by
  match vs, h with
  | [v], h => exact ⟨v, rfl, h.1⟩
theorem holds2 {R S : Rp} {vs : List V} {H : Hp} (h : Holds [R, S] vs H) : ∃ v u, vs = [v, u] ∧ R.R v H ∧ S.R u H := by
  match vs, h with
  | [v, u], h => exact ⟨v, u, rfl, h.1, h.2.1⟩
theorem he_len (ha : HasE X T G a (ListR X.K Rs)) (hm : X.mg "len" = none) (hg : Gl X "len" := by rfl) (he : starEach [a] X.env = (false, eval a X.env) :: starEach [] X.env := by rfl) : HasE X T G (.Call (.Name "len" p) [a] [] pos) (IntR Rs.length) := by
  refine he_callB (R := IntR Rs.length) call_len_seq hm PySem.boot_len (ha_cons ha ha_nil he) (fun O vs H ok hh Q q => ?_) hg (by decide) (by decide) he rfl
  obtain ⟨v, rfl, p, xs, e1, h1, g1⟩ := holds1 hh
  exact ⟨p, xs, by rw [e1], .inl (sqL_hid h1), q _ H (Le.refl H) (by rw [g1.length]; exact rfl)⟩
theorem he_lenT (ha : HasE X T G a (TupR X.K Rs)) (hm : X.mg "len" = none) (hg : Gl X "len" := by rfl) (he : starEach [a] X.env = (false, eval a X.env) :: starEach [] X.env := by rfl) : HasE X T G (.Call (.Name "len" p) [a] [] pos) (IntR Rs.length) := by
  refine he_callB (R := IntR Rs.length) call_len_seq hm PySem.boot_len (ha_cons ha ha_nil he) (fun O vs H ok hh Q q => ?_) hg (by decide) (by decide) he rfl
  obtain ⟨v, rfl, p, xs, e1, h1, g1⟩ := holds1 hh
  exact ⟨p, xs, by rw [e1], .inr (sqT_hid h1), q _ H (Le.refl H) (by rw [g1.length]; exact rfl)⟩
theorem he_abs {i : Int} (ha : HasE X T G a (IntR i)) (hm : X.mg "abs" = none) (hg : Gl X "abs" := by rfl) (he : starEach [a] X.env = (false, eval a X.env) :: starEach [] X.env := by rfl) : HasE X T G (.Call (.Name "abs" p) [a] [] pos) (IntR (i.natAbs : Int)) := by
  refine he_callB call_abs hm (by decide +kernel) (ha_cons ha ha_nil he) (fun O vs H ok hh Q q => ?_) hg (by decide) (by decide) he rfl
  obtain ⟨v, rfl, e1⟩ := holds1 hh
  refine ⟨i, by rw [show v = V.int i from e1], q _ H (Le.refl H) ?_⟩
  show V.int (if i < 0 then -i else i) = V.int (i.natAbs : Int)
  congr 1
  split <;> omega
theorem he_intB {k : Bool} (ha : HasE X T G a (BoolR k)) (hm : X.mg "int" = none) (hg : Gl X "int" := by rfl) (he : starEach [a] X.env = (false, eval a X.env) :: starEach [] X.env := by rfl) : HasE X T G (.Call (.Name "int" p) [a] [] pos) (IntR (if k then 1 else 0)) := by
  refine he_callTy call_int1 hm (by decide +kernel) (ha_cons ha ha_nil he) (fun O vs H ok hh Q q => ?_) hg (by decide) (by decide) he rfl
  obtain ⟨v, rfl, e1⟩ := holds1 hh
  exact .inr ⟨k, by rw [show v = V.bl k from e1], q _ H (Le.refl H) rfl⟩
end

/-! ### data, compared -/
mutual
theorem Dp.grow {K : PySem.W.Frag} {H H' : Hp} (e : ExtN H H') : ∀ {v : V} {d : PyData}, Dp K H v d → Dp K H' v d
  | _, _, .non => .non
  | _, _, .bl b => .bl b
  | _, _, .int i => .int i
  | _, _, .str x => .str x
  | _, _, .lst h g => .lst (by
      rcases h with (h | ⟨o, h⟩) | h
      · exact .inl (.inl (e _ _ h (by intro ps z; cases z)))
      · exact .inl (.inr ⟨o, e _ _ h (by intro ps z; cases z)⟩)
      · exact .inr h) (DpAll.grow e g)
  | _, _, .tup h g => .tup (by
      rcases h with (h | ⟨o, h⟩) | h
      · exact .inl (.inl (e _ _ h (by intro ps z; cases z)))
      · exact .inl (.inr ⟨o, e _ _ h (by intro ps z; cases z)⟩)
      · exact .inr h) (DpAll.grow e g)
theorem DpAll.grow {K : PySem.W.Frag} {H H' : Hp} (e : ExtN H H') : ∀ {vs : List V} {ds : List PyData}, DpAll K H vs ds → DpAll K H' vs ds
  | _, _, .nil => .nil
  | _, _, .cons h g => .cons (Dp.grow e h) (DpAll.grow e g)
end
def DataR (K : PySem.W.Frag) (d : PyData) : Rp := ⟨fun v H => Dp K H v d, fun e h => Dp.grow e h⟩
section
variable {K : PySem.W.Frag}
theorem data_int (i : Int) : (IntR i).le (DataR K (.int i)) := fun v H h => by cases h; exact .int i
theorem data_str (s : Str) : (StrR s).le (DataR K (.str s)) := fun v H h => by cases h; exact .str s
theorem data_bl (b : Bool) : (BoolR b).le (DataR K (.bool b)) := fun v H h => by cases h; exact .bl b
theorem data_non : NonR.le (DataR K .none) := fun v H h => by cases h; exact .non
theorem data_all : ∀ {ds : List PyData} {vs : List V} {H : Hp}, Holds (ds.map (DataR K)) vs H → DpAll K H vs ds
  | [], [], _, _ => .nil
  | d :: ds, v :: vs, H, h => .cons h.1 (data_all h.2)
  | [], _ :: _, _, h => h.elim
  | _ :: _, [], _, h => h.elim
theorem data_tup {ds : List PyData} : (TupR K (ds.map (DataR K))).le (DataR K (.tuple ds)) := fun v H ⟨p, xs, e, h, g⟩ => by cases e; exact .tup h (data_all g)
theorem data_lst {ds : List PyData} : (ListR K (ds.map (DataR K))).le (DataR K (.list ds)) := fun v H ⟨p, xs, e, h, g⟩ => by cases e; exact .lst h (data_all g)
end
section
variable {X : Cx} {T : List NTab} {G : Ctx} {a b : Expr} {d d' : PyData} {pos : Pos} {k : Nat}
theorem he_eqD (ha : HasE X T G a (DataR X.K d)) (hb : HasE X T G b (DataR X.K d')) (hr : Room k X.A) (s1 : SeqAt.shaped d = true) (s2 : SeqAt.shaped d' = true) : HasE X T G (.Compare a [.Eq] [b] pos) (BoolR (PyData.eqv d d')) :=
  he_cmp (op_eqD hr.units) ha hb (fun O x y H ok h1 h2 Q q => ⟨d, d', Dp.grow (extN_same (hid_sub O H)) h1, Dp.grow (extN_same (hid_sub O H)) h2, s1, s2, q _ H (Le.refl H) rfl⟩) (nomark _)
theorem he_neD (ha : HasE X T G a (DataR X.K d)) (hb : HasE X T G b (DataR X.K d')) (hr : Room k X.A) (s1 : SeqAt.shaped d = true) (s2 : SeqAt.shaped d' = true) : HasE X T G (.Compare a [.NotEq] [b] pos) (BoolR (!PyData.eqv d d')) :=
  he_cmp (op_neD hr.units) ha hb (fun O x y H ok h1 h2 Q q => ⟨d, d', Dp.grow (extN_same (hid_sub O H)) h1, Dp.grow (extN_same (hid_sub O H)) h2, s1, s2, q _ H (Le.refl H) rfl⟩) (nomark _)
end

/-! ### isinstance of an own class -/
structure InsC (K : PySem.W.Frag) (C : Addr) : Prop where
  cls : Cls K C
  ha : PySem.W.findIn K (.ref C) "__class__" = some (some (.builtin "object.__class__"))
  hn : PySem.W.specialIn K (.builtin "object.__class__") "__get__" = some (some (.builtin "getset_descriptor.__get__"))
  tk : PySem.W.takesIn K (.builtin "object.__class__") = some true
  hm : PySem.W.mroIn K C (.type "object") = some true
section
variable {X : Cx} {T : List NTab} {G : Ctx} {a : Expr} {pos p p2 : Pos} {C D : Addr} {Fs : List (Str × Rp)} {x : Str} {b : Bool}
theorem he_isi (ha : HasE X T G a (ObjR C Fs)) (hC : InsC X.K C) (hx : X.mg x = some (.ref D)) (hk : PySem.W.kitOne X.K (.ref C) (.ref D) = some b) (hm : X.mg "isinstance" = none) (hg : Gl X "isinstance" := by rfl) (hgx : Gl X x := by rfl) (hdx : (x == ("__debug__" : Str)) = false := by decide)
    (he : starEach [a, .Name x p2] X.env = (false, eval a X.env) :: starEach [.Name x p2] X.env := by rfl) : HasE X T G (.Call (.Name "isinstance" p) [a, .Name x p2] [] pos) (BoolR b) := by
  refine he_callB (R := BoolR b) call_isi hm (by decide +kernel) (ha_cons ha (ha_cons (he_glob (v := .ref D) hx rfl hgx hdx) ha_nil) he) (fun O vs H ok hh Q q => ?_) hg (by decide) (by decide) he rfl
  obtain ⟨v, u, rfl, ⟨y, dx, gs, e1, e2, _⟩, e3⟩ := holds2 hh
  cases e1
  cases (show u = V.ref D from e3)
  exact ⟨_, _, _, _, b, rfl, .own D, .base (.ins (hid_sub _ _ _ _ e2) hC.cls hC.ha hC.hn hC.tk hC.hm), hk, q _ H (Le.refl H) rfl⟩
end

/-! ### walks -/
/-- what a walk yields from the heap H1 on, whatever the hidden objects become -/
def Src (T : List NTab) (O : List Addr) (J : It) (H1 : Hp) (Ys : List Rp) : Prop := ∀ O' H2, Okh T O' H2 → ExtN (hid O H1) (hid O' H2) →
  (∀ (i : Nat) (Y : Rp), Ys[i]? = some Y → J.go i H2 ∧ ∀ x H', J.yld i H2 x H' → Le T H2 H' ∧ Y.R x (hid O' H')) ∧ J.stop Ys.length H2
def HasI (X : Cx) (T : List NTab) (G : Ctx) (tg iter : Expr) (Ys : List Rp) : Prop := ∃ wi, PI X tg iter wi ∧ ∀ O σ H, Okh T O H → Env G σ (hid O H) → ∀ Q : It → Hp → Prop, (∀ J H1, Le T H H1 → Src T O J H1 Ys → Q J H1) → wi σ H Q
section
variable {X : Cx} {T : List NTab} {G : Ctx} {a b e tg : Expr} {Rs : List Rp} {pos p : Pos} {R : Rp}
theorem sqL_grow {K : PySem.W.Frag} {H H' : Hp} {a : Addr} {xs : List V} (e : ExtN H H') (h : SqL K H a xs) : SqL K H' a xs := by
  rcases h with (z | ⟨o, z⟩) | z
  · exact .inl (.inl (e _ _ z (by intro ps z; cases z)))
  · exact .inl (.inr ⟨o, e _ _ z (by intro ps z; cases z)⟩)
  · exact .inr z
theorem sqT_grow {K : PySem.W.Frag} {H H' : Hp} {a : Addr} {xs : List V} (e : ExtN H H') (h : SqT K H a xs) : SqT K H' a xs := by
  rcases h with (z | ⟨o, z⟩) | z
  · exact .inl (.inl (e _ _ z (by intro ps z; cases z)))
  · exact .inl (.inr ⟨o, e _ _ z (by intro ps z; cases z)⟩)
  · exact .inr z
theorem hi_list (h : HasE X T G e (ListR X.K Rs)) : HasI X T G tg e Rs := by
  obtain ⟨t, p, y⟩ := h
  refine ⟨_, pi_list p, fun O σ H ok he Q q => y O σ H ok he _ fun v H1 l ⟨a, xs, e1, hs, hh⟩ => ⟨a, e1, ⟨xs, sqL_hid hs⟩, q _ H1 l fun O' H2 ok2 e2 => ?_⟩⟩
  have hs2 := sqL_hid (sqL_grow e2 hs)
  have hh2 := hh.mono e2
  refine ⟨fun i Y hY => ?_, ⟨xs, hs2, Nat.le_of_eq hh.length⟩⟩
  obtain ⟨v, hv, r⟩ := hh2.get hY
  refine ⟨⟨xs, v, hs2, hv⟩, fun x H' ⟨e3, h3⟩ => ?_⟩
  subst e3
  have e4 := (h3 xs hs2).symm.trans hv
  cases e4
  exact ⟨Le.refl _, r⟩
theorem hi_tup (h : HasE X T G e (TupR X.K Rs)) : HasI X T G tg e Rs := by
  obtain ⟨t, p, y⟩ := h
  refine ⟨_, pi_tup p, fun O σ H ok he Q q => y O σ H ok he _ fun v H1 l ⟨a, xs, e1, hs, hh⟩ => ⟨a, e1, ⟨xs, sqT_hid hs⟩, q _ H1 l fun O' H2 ok2 e2 => ?_⟩⟩
  have hs2 := sqT_hid (sqT_grow e2 hs)
  have hh2 := hh.mono e2
  refine ⟨fun i Y hY => ?_, ⟨xs, hs2, Nat.le_of_eq hh.length⟩⟩
  obtain ⟨v, hv, r⟩ := hh2.get hY
  refine ⟨⟨xs, v, hs2, hv⟩, fun x H' ⟨e3, h3⟩ => ?_⟩
  subst e3
  have e4 := (h3 xs hs2).symm.trans hv
  cases e4
  exact ⟨Le.refl _, r⟩
theorem src_range {O : List Addr} {H1 : Hp} {lo : Int} {n : Nat} : Src T O (Itr lo n) H1 ((List.range n).map fun (i : Nat) => IntR (lo + (i : Int))) := fun O' H2 ok2 e2 => by
  refine ⟨fun i Y hY => ?_, by show n ≤ _; simp⟩
  rw [List.getElem?_map] at hY
  cases hr : (List.range n)[i]? with
  | none => rw [hr] at hY; cases hY
  | some j =>
    rw [hr] at hY
    cases hY
    have hlt : i < n := by
      have := (List.getElem?_eq_some_iff.mp hr).1
      simpa using this
    have e3 : i = j := by
      have := (List.getElem?_eq_some_iff.mp hr).2
      simpa using this
    subst e3
    refine ⟨hlt, fun x H' ⟨e4, e5⟩ => ?_⟩
    subst e4
    exact ⟨Le.refl _, e5⟩
theorem hi_range1 {j : Int} (h : HasE X T G a (IntR j)) (hm : X.mg "range" = none) (h0 : -(2 ^ 62) ≤ j) (h1 : j < 2 ^ 62) (hg : Gl X "range" := by rfl) (hs : starEach [a] X.env = [(false, eval a X.env)] := by rfl) :
    HasI X T G tg (.Call (.Name "range" p) [a] [] pos) ((List.range j.toNat).map fun (i : Nat) => IntR (0 + (i : Int))) := by
  obtain ⟨t, pa, y⟩ := ha_cons h ha_nil hs
  refine ⟨_, pi_range1 hg hm pa hs, fun O σ H ok he Q q => y O σ H ok he _ fun vs H1 l hh => ?_⟩
  obtain ⟨v, rfl, e1⟩ := holds1 hh
  exact ⟨j, by rw [show v = V.int j from e1], h0, h1, q _ H1 l src_range⟩
theorem hi_range2 {i j : Int} (h : HasE X T G a (IntR i)) (h' : HasE X T G b (IntR j)) (hm : X.mg "range" = none) (h0 : -(2 ^ 62) ≤ i ∧ i < 2 ^ 62 ∧ -(2 ^ 62) ≤ j ∧ j < 2 ^ 62) (hg : Gl X "range" := by rfl) (hs : starEach [a, b] X.env = [(false, eval a X.env), (false, eval b X.env)] := by rfl)
    (hs2 : starEach [b] X.env = [(false, eval b X.env)] := by rfl) : HasI X T G tg (.Call (.Name "range" p) [a, b] [] pos) ((List.range (j - i).toNat).map fun (k : Nat) => IntR (i + (k : Int))) := by
  obtain ⟨t, pa, y⟩ := ha_cons h (ha_cons h' ha_nil hs2) (by rw [hs, hs2])
  refine ⟨_, pi_range2 hg hm pa hs hs2, fun O σ H ok he Q q => y O σ H ok he _ fun vs H1 l hh => ?_⟩
  obtain ⟨v, u, rfl, e1, e2⟩ := holds2 hh
  exact ⟨i, j, by rw [show v = V.int i from e1, show u = V.int j from e2], h0, q _ H1 l src_range⟩
def enumR (K : PySem.W.Frag) : Nat → List Rp → List Rp
  | _, [] => []
  | k, R :: Rs => TupR K [IntR (k : Int), R] :: enumR K (k + 1) Rs
theorem enumR_get {K : PySem.W.Frag} : ∀ {Rs : List Rp} {k i : Nat}, (enumR K k Rs)[i]? = (Rs[i]?).map fun R => TupR K [IntR ((k + i : Nat) : Int), R]
  | [], k, i => by simp [enumR]
  | R :: Rs, k, 0 => by simp [enumR]
  | R :: Rs, k, i + 1 => by
    simp only [enumR, List.getElem?_cons_succ]
    rw [enumR_get, show k + 1 + i = k + (i + 1) by omega]
theorem enumR_len {K : PySem.W.Frag} : ∀ {Rs : List Rp} {k : Nat}, (enumR K k Rs).length = Rs.length
  | [], _ => rfl
  | R :: Rs, k => by simp [enumR, enumR_len]
theorem hi_enum {elts : List Expr} {kk : Nat} {tpos : Pos} (h : HasE X T G e (ListR X.K Rs)) (hm : X.mg "enumerate" = none) (hg : Gl X "enumerate" := by rfl) (hs : starEach [e] X.env = [(false, eval e X.env)] := by rfl) :
    HasI X T G (.Tuple elts kk tpos) (.Call (.Name "enumerate" p) [e] [] pos) (enumR X.K 0 Rs) := by
  obtain ⟨t, pa, y⟩ := ha_cons h ha_nil hs
  refine ⟨_, pi_enum hg hm pa hs, fun O σ H ok he Q q => y O σ H ok he _ fun vs H1 l hh => ?_⟩
  obtain ⟨v, rfl, a, xs, e1, hs1, hh⟩ := holds1 hh
  refine ⟨a, xs, by rw [e1], sqL_hid hs1, q _ H1 l fun O' H2 ok2 e2 => ?_⟩
  have hs2 := sqL_hid (sqL_grow e2 hs1)
  have hh2 := hh.mono e2
  refine ⟨fun i Y hY => ?_, ⟨xs, hs2, by rw [enumR_len]; exact Nat.le_of_eq hh.length⟩⟩
  rw [enumR_get] at hY
  cases hr : Rs[i]? with
  | none => rw [hr] at hY; cases hY
  | some R =>
    rw [hr] at hY
    cases hY
    obtain ⟨v, hv, r⟩ := hh2.get hr
    refine ⟨⟨xs, v, hs2, hv⟩, fun x H' ⟨d, z, e3, e4, e5, e6⟩ => ?_⟩
    subst e3 e5
    have e7 := (e6 xs hs2).symm.trans hv
    cases e7
    refine ⟨Le.new e4, d, [.int (i : Nat), v], rfl, SqT.of ((hid_out (ok2.nin e4)).trans upd_same), ?_, R.mono (hid_ext (extN_same (same_new e4))) r, trivial⟩
    show V.int _ = V.int _
    simp
end
/-! targets -/
/-- a target: from what is yielded and the context to the next one -/
def TgOk (X : Cx) (T : List NTab) (tg : Expr) (g : TG) (U : Rp → Ctx → Ctx → Prop) : Prop := PG X tg g ∧ ∀ Y G G', U Y G G' → ∀ O v σ H, Okh T O H → Env G σ (hid O H) → Y.R v (hid O H) → ∀ Q : L2.St → Hp → Prop, (∀ σ', Env G' σ' (hid O H) → Q σ' H) → g v σ H Q
def UName (j : Nat) (Y : Rp) (G G' : Ctx) : Prop := G' = G.set j (some Y)
def UTup (K : PySem.W.Frag) (js : List Nat) (Y : Rp) (G G' : Ctx) : Prop := ∃ Rs, Y = TupR K Rs ∧ Rs.length = js.length ∧ G' = setAll G js Rs
section
variable {X : Cx} {T : List NTab} {G : Ctx} {pos : Pos} {x : Str}
theorem tg_name (j : Nat) (hN : X.N.Nodup) (hi : X.N[j]? = some x := by rfl) (hx : Loc X.env.scope x := by first | exact Or.inl rfl | exact Or.inr rfl) (hf : X.fn x = true ∨ X.env.scope.names.lookup x = some .local := by first | exact .inl rfl | exact .inr rfl) :
    TgOk X T (.Name x pos) (gName j) (UName j) := ⟨pg_name hN hi hx hf, fun Y G G' hU O v σ H ok he r Q q => by cases hU; exact q _ (he.set r)⟩
def gNames : List Nat → TGs
  | [] => gNil
  | j :: js => gCons (gName j) (gNames js)
theorem gNames_ok : ∀ {js : List Nat} {vs : List V} {σ : L2.St} {H : Hp} {Q : L2.St → Hp → Prop}, vs.length = js.length → (∀ σ', σ' = (js.zip vs).foldl (fun s p => s.set p.1 (some p.2)) σ → Q σ' H) → gNames js vs σ H Q
  | [], [], σ, H, Q, _, q => ⟨rfl, q σ rfl⟩
  | j :: js, v :: vs, σ, H, Q, hl, q => ⟨v, vs, rfl, gNames_ok (js := js) (by simpa using hl) fun σ' e => q σ' (by rw [e]; rfl)⟩
  | [], _ :: _, _, _, _, hl, _ => by simp at hl
  | _ :: _, [], _, _, _, hl, _ => by simp at hl
theorem tg_tup {ts : List Expr} {js : List Nat} {k : Nat} (h : PGs X ts (gNames js)) (hc : X.calm = true := by rfl) (hn : (assignEach ts X.env).length = js.length := by rfl) (hst : (assignEach ts X.env).findIdx? (·.1) = none := by rfl) :
    TgOk X T (.Tuple ts k pos) (gTup X.K js.length (gNames js)) (UTup X.K js) := ⟨pg_tup hc h hn hst, fun Y G G' ⟨Rs, e1, e2, e3⟩ O v σ H ok he r Q q => by
  subst e1 e3
  obtain ⟨a, xs, e4, hs, hh⟩ := r
  refine ⟨a, xs, e4, sqT_hid hs, hh.length.trans e2, gNames_ok (hh.length.trans e2) fun σ' e5 => ?_⟩
  rw [e5]
  exact q _ (env_setAll hh (hh.length.trans e2) he)⟩
theorem pgs_names0 : PGs X [] (gNames []) := pgs_nil
theorem pgs_names (j : Nat) {js : List Nat} {ts : List Expr} (g : PGs X ts (gNames js)) (hN : X.N.Nodup) (hi : X.N[j]? = some x := by rfl) (hx : Loc X.env.scope x := by first | exact Or.inl rfl | exact Or.inr rfl)
    (hf : X.fn x = true ∨ X.env.scope.names.lookup x = some .local := by first | exact .inl rfl | exact .inr rfl)
    (hs : (assignEach (.Name x pos :: ts) X.env).map (·.2) = assign (.Name x pos) X.env :: (assignEach ts X.env).map (·.2) := by rfl) : PGs X (.Name x pos :: ts) (gNames (j :: js)) := pgs_cons (pg_name hN hi hx hf) g hs
end
/-! for -/
section
variable {X : Cx} {T : List NTab} {G : Ctx} {tg iter : Expr} {body : List Stmt} {Ys : List Rp} {pos : Pos} {g : TG} {U : Rp → Ctx → Ctx → Prop} {R : Rp}
def tMaxS (X : Cx) (body : List Stmt) : TS := fun D σ H => ∃ t, PSs X body t ∧ t D σ H
theorem pss_max : PSs X body (tMaxS X body) := ⟨fun pins s σ H D I ⟨t, p, h⟩ => p.run pins s σ H D I h⟩
theorem np_for (Gs : Nat → Ctx) (hI : HasI X T (Gs 0) tg iter Ys) (hg : TgOk X T tg g U) (hb : ∀ (i : Nat) (Y : Rp), Ys[i]? = some Y → ∃ G1, U Y (Gs i) G1 ∧ NxtS X T G1 body (Gs (i + 1)))
    (hp : PassesOwn (model X.prog X.w) X.A X.env X.xe) (hc : X.calm = true := by rfl) (hs : ∀ x, foldedSetIterable iter X.env x = pure x := by intro _; rfl) : NxtP X T (Gs 0) (.For tg iter body [] pos) (Gs Ys.length) := by
  obtain ⟨wi, pi, yi⟩ := hI
  refine ⟨_, ps_for hp hc pi hg.1 pss_max hs, fun O σ H ok he D q => yi O σ H ok he _ fun J H1 l1 src => ?_⟩
  refine ⟨fun i m σ' H' => m = Ys.length - i ∧ i ≤ Ys.length ∧ Le T H1 H' ∧ Env (Gs i) σ' (hid O H'), ⟨Ys.length, by simp, Nat.zero_le _, Le.refl _, he.mono (hid_ext l1.ex)⟩, ?_⟩
  rintro i m σ' H' ⟨rfl, hi, l2, he2⟩
  obtain ⟨hgo, hstop⟩ := src O H' ((ok.le l1).le l2) (hid_ext l2.ex)
  by_cases hlt : i < Ys.length
  · obtain ⟨go, yld⟩ := hgo i Ys[i] (by simp [hlt])
    refine .inr ⟨go, fun σ2 H2 => i + 1 ≤ Ys.length ∧ Le T H1 H2 ∧ Env (Gs (i + 1)) σ2 (hid O H2), fun σ2 H2 ⟨a, b, c⟩ => ⟨Ys.length - (i + 1), by omega, rfl, a, b, c⟩, fun x H2 hy => ?_⟩
    obtain ⟨l3, r⟩ := yld x H2 hy
    obtain ⟨G1, hU, t, pt, yt⟩ := hb i Ys[i] (by simp [hlt])
    refine hg.2 _ _ _ hU O x σ' H2 (((ok.le l1).le l2).le l3) (he2.mono (hid_ext l3.ex)) r _ fun σ3 he3 => ?_
    exact ⟨t, pt, yt O σ3 H2 (((ok.le l1).le l2).le l3) he3 _ fun σ4 H4 l4 he4 => ⟨hlt, (l2.trans l3).trans l4, he4⟩⟩
  · have e : i = Ys.length := by omega
    subst e
    exact .inl ⟨hstop, q _ _ (l1.trans l2) he2⟩
/-- the turn m hands back -/
theorem rp_for (Gs : Nat → Ctx) (m : Nat) {Y0 : Rp} {G1 : Ctx} (hI : HasI X T (Gs 0) tg iter Ys) (hg : TgOk X T tg g U) (hb : ∀ (i : Nat) (Y : Rp), i < m → Ys[i]? = some Y → ∃ G1, U Y (Gs i) G1 ∧ NxtS X T G1 body (Gs (i + 1)))
    (hY : Ys[m]? = some Y0) (hU : U Y0 (Gs m) G1) (hm : RetS X T G1 body R)
    (hp : PassesOwn (model X.prog X.w) X.A X.env X.xe) (hc : X.calm = true := by rfl) (hs : ∀ x, foldedSetIterable iter X.env x = pure x := by intro _; rfl) : RetP X T (Gs 0) (.For tg iter body [] pos) R := by
  obtain ⟨wi, pi, yi⟩ := hI
  refine ⟨_, ps_for hp hc pi hg.1 pss_max hs, fun O σ H ok he D q => yi O σ H ok he _ fun J H1 l1 src => ?_⟩
  refine ⟨fun i k σ' H' => k = m - i ∧ i ≤ m ∧ Le T H1 H' ∧ Env (Gs i) σ' (hid O H'), ⟨m, by simp, Nat.zero_le _, Le.refl _, he.mono (hid_ext l1.ex)⟩, ?_⟩
  rintro i k σ' H' ⟨rfl, hi, l2, he2⟩
  obtain ⟨hgo, hstop⟩ := src O H' ((ok.le l1).le l2) (hid_ext l2.ex)
  have hml : m < Ys.length := (List.getElem?_eq_some_iff.mp hY).1
  by_cases hlt : i < m
  · have hlY : i < Ys.length := by omega
    obtain ⟨go, yld⟩ := hgo i Ys[i] (by simp [hlY])
    refine .inr ⟨go, fun σ2 H2 => i + 1 ≤ m ∧ Le T H1 H2 ∧ Env (Gs (i + 1)) σ2 (hid O H2), fun σ2 H2 ⟨a, b, c⟩ => ⟨m - (i + 1), by omega, rfl, a, b, c⟩, fun x H2 hy => ?_⟩
    obtain ⟨l3, r⟩ := yld x H2 hy
    obtain ⟨G1, hU, t, pt, yt⟩ := hb i Ys[i] hlt (by simp [hlY])
    refine hg.2 _ _ _ hU O x σ' H2 (((ok.le l1).le l2).le l3) (he2.mono (hid_ext l3.ex)) r _ fun σ3 he3 => ?_
    exact ⟨t, pt, yt O σ3 H2 (((ok.le l1).le l2).le l3) he3 _ fun σ4 H4 l4 he4 => ⟨hlt, (l2.trans l3).trans l4, he4⟩⟩
  · have e : i = m := by omega
    subst e
    obtain ⟨go, yld⟩ := hgo i Y0 hY
    refine .inr ⟨go, fun _ _ => False, fun _ _ z => z.elim, fun x H2 hy => ?_⟩
    obtain ⟨l3, r⟩ := yld x H2 hy
    obtain ⟨t, pt, yt⟩ := hm
    refine hg.2 _ _ _ hU O x σ' H2 (((ok.le l1).le l2).le l3) (he2.mono (hid_ext l3.ex)) r _ fun σ3 he3 => ?_
    exact ⟨t, pt, yt O σ3 H2 (((ok.le l1).le l2).le l3) he3 _ fun v H4 l4 r4 => q v H4 (((l1.trans l2).trans l3).trans l4) r4⟩
end
/-! comprehensions -/
def wipeG (G : Ctx) : List Nat → Ctx
  | [] => G
  | v :: vs => (wipeG G vs).set v none
theorem env_wipe {σ : L2.St} {H : Hp} : ∀ {vs : List Nat} {G : Ctx}, Env G σ H → Env (wipeG G vs) (wipe σ vs) H
  | [], G, h => h
  | v :: vs, G, h => by
    have ih := env_wipe (vs := vs) h
    unfold wipeG wipe
    refine ⟨by rw [List.length_set, List.length_set]; exact ih.1, fun i R q => ?_⟩
    by_cases c : v = i
    · subst c
      by_cases hv : v < (wipeG G vs).length
      · rw [List.getElem?_set_self hv] at q; cases q
      · rw [List.getElem?_eq_none (by simpa using hv)] at q; cases q
    · rw [List.getElem?_set_ne c] at q ⊢
      exact ih.2 i R q
/-- an expression within a comprehension's block, whatever the block -/
def HasB (X : Cx) (scope : Scope) (T : List NTab) (G : Ctx) (e : Expr) (R : Rp) : Prop := ∀ (s : Shared) (H : Hp) (C : Addr) (cl : List (Str × Addr)) (fp : List Addr), HasE (X.blk s H scope (compEnvC scope cl C X.env) fp) T G e R
def tMaxB (X : Cx) (scope : Scope) (e : Expr) : TE := fun σ H Q => ∀ (s : Shared) (H0 : Hp) (C : Addr) (cl : List (Str × Addr)) (fp : List Addr), ∃ te, PE (X.blk s H0 scope (compEnvC scope cl C X.env) fp) e te ∧ te σ H Q
theorem pe_maxB {X : Cx} {scope : Scope} {e : Expr} (s : Shared) (H0 : Hp) (C : Addr) (cl : List (Str × Addr)) (fp : List Addr) : PE (X.blk s H0 scope (compEnvC scope cl C X.env) fp) e (tMaxB X scope e) :=
  ⟨fun pins s' σ H Q I h => let ⟨te, p, q⟩ := h s H0 C cl fp; p.run pins s' σ H Q I q⟩
theorem holds_snoc : ∀ {Rs : List Rp} {vs : List V} {R : Rp} {v : V} {H : Hp}, Holds Rs vs H → R.R v H → Holds (Rs ++ [R]) (vs ++ [v]) H := fun h r => h.append ⟨r, trivial⟩
/-- only the block's own slots changed -/
theorem wipe_set {σ : L2.St} {j : Nat} {v : Option V} {vs : List Nat} (h : j ∈ vs) : wipe (σ.set j v) vs = wipe σ vs := by
  apply List.ext_getElem?
  intro i
  by_cases hi : i ∈ vs
  · have key : ∀ (τ : L2.St), τ.length = σ.length → (wipe τ vs)[i]? = if i < σ.length then some none else none := fun τ hτ => by
      cases e : (wipe τ vs)[i]? with
      | none =>
        have := List.getElem?_eq_none_iff.mp e
        rw [wipe_length, hτ] at this
        rw [if_neg (by omega)]
      | some o =>
        have hl := (List.getElem?_eq_some_iff.mp e).1
        rw [wipe_length, hτ] at hl
        rw [if_pos hl]
        cases o with
        | none => rfl
        | some x => exact absurd hi (wipe_some e).2
    rw [key _ (List.length_set ..), key _ rfl]
  · rw [wipe_out hi, wipe_out hi, List.getElem?_set_ne (fun z => hi (by rw [← z]; exact h))]
theorem wipe_setAll {vs : List Nat} : ∀ {js : List Nat} {us : List V} {σ : L2.St}, (∀ j ∈ js, j ∈ vs) → wipe ((js.zip us).foldl (fun s p => s.set p.1 (some p.2)) σ) vs = wipe σ vs
  | [], us, σ, _ => by simp
  | j :: js, [], σ, _ => by simp
  | j :: js, u :: us, σ, h => by
    rw [List.zip_cons_cons, List.foldl_cons, wipe_setAll fun k hk => h k (List.mem_cons_of_mem _ hk)]
    exact wipe_set (h j List.mem_cons_self)
theorem wipe_wipe {σ : L2.St} {vs : List Nat} : wipe (wipe σ vs) vs = wipe σ vs := by
  apply List.ext_getElem?
  intro i
  by_cases hi : i ∈ vs
  · have key : ∀ (τ : L2.St), τ.length = σ.length → (wipe τ vs)[i]? = if i < σ.length then some none else none := fun τ hτ => by
      cases e : (wipe τ vs)[i]? with
      | none =>
        have := List.getElem?_eq_none_iff.mp e
        rw [wipe_length, hτ] at this
        rw [if_neg (by omega)]
      | some o =>
        have hl := (List.getElem?_eq_some_iff.mp e).1
        rw [wipe_length, hτ] at hl
        rw [if_pos hl]
        cases o with
        | none => rfl
        | some x => exact absurd hi (wipe_some e).2
    rw [key _ (wipe_length ..), key _ rfl]
  · rw [wipe_out hi]
/-- a comprehension's target: in every block the same reading, which touches the block's own slots alone -/
structure TgB (X : Cx) (scope : Scope) (T : List NTab) (tg : Expr) (g : TG) (vs : List Nat) (U : Rp → Ctx → Ctx → Prop) : Prop where
  pg : ∀ (s : Shared) (H : Hp) (C : Addr) (cl : List (Str × Addr)) (fp : List Addr), PG (X.blk s H scope (compEnvC scope cl C X.env) fp) tg g
  ok : ∀ Y G G', U Y G G' → ∀ O v σ H, Okh T O H → Env G σ (hid O H) → Y.R v (hid O H) → ∀ Q : L2.St → Hp → Prop, (∀ σ', wipe σ' vs = wipe σ vs → Env G' σ' (hid O H) → Q σ' H) → g v σ H Q
theorem tgb_name {X : Cx} {scope : Scope} {T : List NTab} {tg : Expr} {j : Nat} {vs : List Nat} (hj : j ∈ vs) (pg : ∀ (s : Shared) (H : Hp) (C : Addr) (cl : List (Str × Addr)) (fp : List Addr), PG (X.blk s H scope (compEnvC scope cl C X.env) fp) tg (gName j)) : TgB X scope T tg (gName j) vs (UName j) :=
  ⟨pg, fun Y G G' hU O v σ H ok he r Q q => by cases hU; exact q _ (wipe_set hj) (he.set r)⟩
theorem tgb_tup {X : Cx} {scope : Scope} {T : List NTab} {tg : Expr} {js : List Nat} {vs : List Nat} (hj : ∀ j ∈ js, j ∈ vs) (pg : ∀ (s : Shared) (H : Hp) (C : Addr) (cl : List (Str × Addr)) (fp : List Addr), PG (X.blk s H scope (compEnvC scope cl C X.env) fp) tg (gTup X.K js.length (gNames js))) :
    TgB X scope T tg (gTup X.K js.length (gNames js)) vs (UTup X.K js) :=
  ⟨pg, fun Y G G' ⟨Rs, e1, e2, e3⟩ O v σ H ok he r Q q => by
    subst e1 e3
    obtain ⟨a, xs, e4, hs, hh⟩ := r
    refine ⟨a, xs, e4, sqT_hid hs, hh.length.trans e2, gNames_ok (hh.length.trans e2) fun σ' e5 => ?_⟩
    rw [e5]
    exact q _ (wipe_setAll hj) (env_setAll hh (hh.length.trans e2) he)⟩
section
variable {X : Cx} {T : List NTab} {G : Ctx} {tg iter elt : Expr} {scope : Scope} {own : List (Str × Nat)} {Ys Zs : List Rp} {pos : Pos} {g : TG} {U : Rp → Ctx → Ctx → Prop}
theorem yes_of {σ : L2.St} {H : Hp} {Q : Bool → Hp → Prop} (h : Q true H) : tYes σ H Q := h
theorem lc_strong (hI : HasI X T G tg iter Ys) (hg : TgB X scope T tg g (own.map (·.2)) U) (hl : Zs.length = Ys.length) (hz : Ys.length ≤ sizeLine)
    (hb : ∀ (i : Nat) (Y Z : Rp), Ys[i]? = some Y → Zs[i]? = some Z → ∃ G1, U Y (wipeG G (own.map (·.2))) G1 ∧ HasB X scope T G1 elt Z) :
    ∃ wi, PI X tg iter wi ∧ ∀ O σ H, Okh T O H → Env G σ (hid O H) → ∀ Q : VK, (∀ D H', H D = none → Le T H H' → (∃ xs, hid O H' D = some (.lst xs) ∧ Holds Zs xs (hid O H')) → Q (.ref D) H') → tLc wi g tYes (tMaxB X scope elt) (own.map (·.2)) σ H Q := by
  obtain ⟨wi, pi, yi⟩ := hI
  refine ⟨wi, pi, fun O σ H ok he Q q => yi O σ H ok he _ fun J H1 l1 src D hD => ?_⟩
  have okD : ∀ {H' acc}, H' D = some (.lst acc) → TabsN T H' → (∀ b ∈ O, ∃ o, H' b = some o ∧ (∀ ps, o ≠ .tbl ps) ∧ ∀ φ, o ≠ .ext φ) → Okh T (D :: O) H' := fun {H' acc} e t d => ⟨t, fun b hb => by
    rcases List.mem_cons.mp hb with z | z
    · rw [z]; exact ⟨_, e, (fun ps z => by cases z), (fun φ z => by cases z)⟩
    · exact d b z⟩
  have nD : D ∉ O := (ok.le l1).nin hD
  refine ⟨fun i m H' => m = Ys.length - i ∧ i ≤ Ys.length ∧ ∃ acc, H' D = some (.lst acc) ∧ acc.length = i ∧ TabsN T H' ∧ (∀ b, H' b = none → H1 b = none) ∧ (∀ b o, H1 b = some o → (∀ ps, o ≠ .tbl ps) → H' b = some o) ∧ Holds (Zs.take i) acc (hid (D :: O) H'),
    ⟨Ys.length, by simp, Nat.zero_le _, [], upd_same, rfl, (Le.new (T := T) hD).tb (ok.le l1).tabs, (Le.new (T := T) hD).dm, (Le.new (T := T) hD).ex, by simp [Holds]⟩, ?_⟩
  rintro i m H' ⟨rfl, hi, acc, hD', hacc, hT', hdm, hex, hh⟩
  have ok' : Okh T O H' := ⟨hT', fun b hb => let ⟨o, e, n1, n2⟩ := (ok.le l1).pl b hb; ⟨o, hex b o e n1, n1, n2⟩⟩
  have okd : Okh T (D :: O) H' := okD hD' hT' ok'.pl
  have e1 : ExtN (hid O H1) (hid O H') := hid_ext hex
  -- the hidden heap without D stands since the walk began
  have e2 : ExtN (hid O H1) (hid (D :: O) H') := fun b o hb n => by
    by_cases c : b = D
    · subst c
      have z := hid_sub O H1 _ _ hb
      rw [hD] at z; cases z
    · have z := e1 b o hb n
      unfold hid at z ⊢
      by_cases d : b ∈ O
      · rw [if_pos d] at z; cases z
      · rw [if_neg d] at z
        rw [if_neg (by rw [List.mem_cons]; exact fun q => q.elim c d)]
        exact z
  obtain ⟨hgo, hstop⟩ := src (D :: O) H' okd e2
  have he2 : Env (wipeG G (own.map (·.2))) (wipe σ (own.map (·.2))) (hid (D :: O) H') := (env_wipe he).mono (extN_trans (hid_ext l1.ex) e2)
  by_cases hlt : i < Ys.length
  · obtain ⟨go, yld⟩ := hgo i Ys[i] (by simp [hlt])
    have hltZ : i < Zs.length := by omega
    obtain ⟨G1, hU, hB⟩ := hb i Ys[i] Zs[i] (by simp [hlt]) (by simp [hltZ])
    refine .inr ⟨go, fun H2 => i + 1 ≤ Ys.length ∧ ∃ acc, H2 D = some (.lst acc) ∧ acc.length = i + 1 ∧ TabsN T H2 ∧ (∀ b, H2 b = none → H1 b = none) ∧ (∀ b o, H1 b = some o → (∀ ps, o ≠ .tbl ps) → H2 b = some o) ∧ Holds (Zs.take (i + 1)) acc (hid (D :: O) H2),
      fun H2 ⟨a, b⟩ => ⟨Ys.length - (i + 1), by omega, rfl, a, b⟩, fun x H2 hy => ?_⟩
    obtain ⟨l3, r⟩ := yld x H2 hy
    refine hg.ok _ _ _ hU (D :: O) x _ H2 (okd.le l3) (he2.mono (hid_ext l3.ex)) r _ fun σ2 hw he3 => ⟨hw.trans wipe_wipe, ?_⟩
    refine yes_of (iteT ?_)
    intro s0 H0 C cl fp
    obtain ⟨te, pt, yt⟩ := hB s0 H0 C cl fp
    refine ⟨te, pt, yt (D :: O) σ2 H2 (okd.le l3) he3 _ fun y H4 l4 r4 => ?_⟩
    have l34 := l3.trans l4
    have hD4 : H4 D = some (.lst acc) := l34.ex _ _ hD' (by intro ps z; cases z)
    refine ⟨acc, hD4, by rw [hacc]; exact Nat.lt_of_lt_of_le hlt hz, hlt, acc ++ [y], upd_same, by rw [List.length_append, hacc]; rfl, ?_, fun b hb => ?_, fun b o hb n => ?_, ?_⟩
    · intro p hp
      obtain ⟨ps, t1, t2, t3⟩ := l34.tb hT' p hp
      refine ⟨ps, ?_, t2, fun pos cv hc => ?_⟩
      · rw [upd_ne (fun z => by rw [z, hD4] at t1; cases t1)]
        exact t1
      · obtain ⟨c, c1, c2⟩ := t3 pos cv hc
        refine ⟨c, c1, ?_⟩
        rw [upd_ne (fun z => by rw [z, hD4] at c2; cases c2)]
        exact c2
    · by_cases c : b = D
      · rw [c] at hb
        rw [upd_same] at hb; cases hb
      · rw [upd_ne c] at hb
        exact hdm b (l34.dm b hb)
    · by_cases c : b = D
      · rw [c, hD] at hb; cases hb
      · rw [upd_ne c]
        exact l34.ex b o (hex b o hb n) n
    · rw [hid_upd List.mem_cons_self, List.take_succ, show Zs[i]? = some Zs[i] by simp [hltZ]]
      exact holds_snoc (hh.mono (hid_ext l34.ex)) r4
  · have e : i = Ys.length := by omega
    subst e
    refine .inl ⟨hstop, q D H' (l1.dm D hD) (l1.trans ⟨hex, fun _ => hT', hdm⟩) ⟨acc, (hid_out nD).trans hD', ?_⟩⟩
    rw [← hl, List.take_length] at hh
    exact hh.mono (extN_same hid_less)
theorem lc_typed (hI : HasI X T G tg iter Ys) (hg : TgB X scope T tg g (own.map (·.2)) U) (hl : Zs.length = Ys.length) (hz : Ys.length ≤ sizeLine)
    (hb : ∀ (i : Nat) (Y Z : Rp), Ys[i]? = some Y → Zs[i]? = some Z → ∃ G1, U Y (wipeG G (own.map (·.2))) G1 ∧ HasB X scope T G1 elt Z) :
    ∃ wi, PI X tg iter wi ∧ TyE T G (tLc wi g tYes (tMaxB X scope elt) (own.map (·.2))) (LstR Zs) := by
  obtain ⟨wi, pi, y⟩ := lc_strong hI hg hl hz hb
  exact ⟨wi, pi, fun O σ H ok he Q q => y O σ H ok he Q fun D H' _ l ⟨xs, a, b⟩ => q _ H' l ⟨D, xs, rfl, a, b⟩⟩
theorem he_lc (hI : HasI X T G tg iter Ys) (ok : BlkOk X.N X.env.scope scope own) (hN : X.N.Nodup) (hg : TgB X scope T tg g (own.map (·.2)) U) (hl : Zs.length = Ys.length) (hz : Ys.length ≤ sizeLine)
    (hb : ∀ (i : Nat) (Y Z : Rp), Ys[i]? = some Y → Zs[i]? = some Z → ∃ G1, U Y (wipeG G (own.map (·.2))) G1 ∧ HasB X scope T G1 elt Z) (hc : X.calm = true := by rfl) (hs : ∀ x, foldedSetIterable iter X.env x = pure x := by intro _; rfl) :
    HasE X T G (.ListComp elt [⟨tg, iter, [], 0⟩] scope pos) (LstR Zs) := by
  obtain ⟨wi, pi, y⟩ := lc_typed hI hg hl hz hb
  exact ⟨_, pe_lc hc hN pi ok hg.pg (fun _ _ _ _ _ => pts_nil) pe_maxB hs, y⟩
theorem np_setLc (i : Nat) {y : Str} {py spos : Pos} (hI : HasI X T G tg iter Ys) (ok : BlkOk X.N X.env.scope scope own) (hN : X.N.Nodup) (hg : TgB X scope T tg g (own.map (·.2)) U) (hl : Zs.length = Ys.length) (hz : Ys.length ≤ sizeLine)
    (hb : ∀ (i : Nat) (Y Z : Rp), Ys[i]? = some Y → Zs[i]? = some Z → ∃ G1, U Y (wipeG G (own.map (·.2))) G1 ∧ HasB X scope T G1 elt Z)
    (hsw : swapsWith (.ListComp elt [⟨tg, iter, [], 0⟩] scope pos) (some (.Name y py)) spos.line X.env = pure true) (hy : X.N[i]? = some y := by rfl) (hyl : X.env.scope.names.lookup y = some .local := by rfl) (hc : X.calm = true := by rfl) (hs : ∀ x, foldedSetIterable iter X.env x = pure x := by intro _; rfl) :
    NxtP X T G (.Assign [.Name y py] (.ListComp elt [⟨tg, iter, [], 0⟩] scope pos) spos) (G.set i (some (LstR Zs))) := by
  obtain ⟨wi, pi, yy⟩ := lc_typed hI hg hl hz hb
  exact ⟨_, ps_setLc hc hN hy hyl hsw pi ok hg.pg (fun _ _ _ _ _ => pts_nil) pe_maxB hs, fun O σ H okh he D q => yy O σ H okh he _ fun v H1 l1 r => q _ H1 l1 ((he.mono (hid_ext l1.ex)).set r)⟩
end
end Rl

set_option Elab.async false
set_option linter.all false
set_option maxRecDepth 100000
set_option maxHeartbeats 4000000
/-! Typed readings 4: defs as the top has made them, records, while. -/
namespace Rl
open PySem PySem.Spec PyProof.Rows L2 NdefX LamX

abbrev FnD (K : PySem.W.Frag) (x qual : Str) (st : Stmt) (dvs : List V) (f : Addr) (fd : FuncData) : Prop := FunD K x qual (defArgs st) (defBody st) (defScope st) dvs [] f fd
/-- a def of the module; a method, as a class has it -/
structure TFn (K : PySem.W.Frag) (mg : Str → Option Value) (x : Str) (st : Stmt) (dvs : List V) : Prop where
  ex : ∃ f fd, mg x = some (.ref f) ∧ FnD K x x st dvs f fd
structure TMt (K : PySem.W.Frag) (C : Addr) (m qual : Str) (st : Stmt) (dvs : List V) : Prop where
  ex : ∃ f fd, Meth K C m f ∧ FnD K m qual st dvs f fd
structure TIn (K : PySem.W.Frag) (mg : Str → Option Value) (x : Str) (C : Addr) (qual : Str) (st : Stmt) (dvs : List V) : Prop where
  ex : mg x = some (.ref C) ∧ ∃ f fd, Mk K C f ∧ FnD K "__init__" qual st dvs f fd
section
variable {P : Program} {w : World} {K : PySem.W.Frag} {mg : Str → Option Value} {base : Heap} {T : List NTab} {x m qual : Str} {st : Stmt} {f C : Addr} {fd : FuncData} {N ps : List Str} {k : Nat} {S : List Rp → Rp → Prop} {dvs : List V} {Ds : List Rp}
theorem fd_typed (F : FnD K x qual st dvs f fd) (sc : FnScope N ps (defScope st)) (hl : ∀ Rs R, S Rs R → Rs.length = ps.length)
    (h : ∀ Rs R, S Rs R → ∀ (cdv : Value) (A : Around) (outer : List PySem.Env) (s : Shared) (H : Hp) (E : XK), Room k (A.deeper (envOfC qual (defScope st) s.heap.objs.size f cdv)) →
      RetS (cxOf CX0 P w K mg base N qual (defScope st) f cdv A outer s H E).nox T (ctx0 N Rs) (defBody st) R) : FnOk P w K mg base CX0 (k + 1) f fd ps (spT T S) := by
  refine F.ok sc (fun vs H Q E ⟨Rs, R, O, hS, _, hh, _⟩ => hh.length.trans (hl Rs R hS)) fun cdv A outer s H vs Q E hr h0 => ?_
  obtain ⟨Rs, R, O, hS, ok, hh, q⟩ := h0
  obtain ⟨t, p, y⟩ := h Rs R hS cdv A outer s H E hr
  exact ⟨t, p.nox, y O _ H ok (env_start hh) _ q⟩
/-- how the arguments bind: all written -/
abbrev Bnd (ps : List Str) (x qual : Str) (st : Stmt) : Prop := ∀ (kV doc pm : Value) (an : Option Addr) (cdv ct : Value) (us : List Value), us.length = ps.length → bindArgs (PySem.W.fnOf x qual (defArgs st) (defBody st) (defScope st) .none kV doc pm an cdv ct) ⟨us, []⟩ = pure (ps.zip us)
/-- n are written, the defaults behind the first j fill up -/
abbrev BndD (ps : List Str) (x qual : Str) (st : Stmt) (n l j : Nat) : Prop := ∀ (Td : Addr) (kV doc pm : Value) (an : Option Addr) (cdv ct : Value) (us its : List Value), us.length = n → its.length = l →
      ∃ k, bindArgs (PySem.W.fnOf x qual (defArgs st) (defBody st) (defScope st) (.ref Td) kV doc pm an cdv ct) ⟨us, []⟩ = seqItems? (.ref Td) >>= k ∧ k (some its.toArray) = pure (ps.zip (us ++ its.drop j))
theorem gfn_mk (F : TFn K mg x st []) (sc : FnScope N ps (defScope st)) (b : Bnd ps x x st) (hl : ∀ Rs R, S Rs R → Rs.length = ps.length)
    (h : ∀ Rs R, S Rs R → ∀ (f : Addr) (cdv : Value) (A : Around) (outer : List PySem.Env) (s : Shared) (H : Hp) (E : XK), Room k (A.deeper (envOfC x (defScope st) s.heap.objs.size f cdv)) →
      RetS (cxOf CX0 P w K mg base N x (defScope st) f cdv A outer s H E).nox T (ctx0 N Rs) (defBody st) R) : GFn P w K mg base T x (k + 1) [] S := by
  obtain ⟨f, fd, hm, F⟩ := F.ex
  exact ⟨⟨f, fd, ps, [], [], hm, F.kp, fd_typed F sc hl fun Rs R hS => h Rs R hS f, F.bindsN b, .nil, fun _ => trivial⟩⟩
theorem mfn_mk (hc : Cls K C) (F : TMt K C m qual st []) (sc : FnScope N ps (defScope st)) (b : Bnd ps m qual st) (hl : ∀ Rs R, S Rs R → Rs.length = ps.length)
    (h : ∀ Rs R, S Rs R → ∀ (f : Addr) (cdv : Value) (A : Around) (outer : List PySem.Env) (s : Shared) (H : Hp) (E : XK), Room k (A.deeper (envOfC qual (defScope st) s.heap.objs.size f cdv)) →
      RetS (cxOf CX0 P w K mg base N qual (defScope st) f cdv A outer s H E).nox T (ctx0 N Rs) (defBody st) R) : MFn P w K mg base T C m (k + 1) [] S := by
  obtain ⟨f, fd, hm, F⟩ := F.ex
  exact ⟨hc, ⟨f, fd, ps, [], [], hm, fd_typed F sc hl fun Rs R hS => h Rs R hS f, F.bindsN b, .nil, fun _ => trivial⟩⟩
end
/-! records -/
def spRec (C : Addr) (fs : List Str) : Sp := fun vs H Q _ => ∃ (p dx : Addr) (us : List V), vs = .ref p :: us ∧ us.length = fs.length ∧ H p = some (.ins C dx []) ∧ Q .non (upd H p (.ins C dx (fs.zip us)))
theorem fh_zip : ∀ {fs : List Str} {Rs : List Rp} {us : List V} {H : Hp}, fs.length = Rs.length → Holds Rs us H → FH (fs.zip Rs) (fs.zip us) H
  | [], [], [], _, _, _ => trivial
  | f :: fs, R :: Rs, u :: us, H, hl, h => ⟨rfl, h.1, fh_zip (by simpa using hl) h.2⟩
  | [], R :: Rs, _, _, hl, _ => by simp at hl
  | f :: fs, [], _, _, hl, _ => by simp at hl
  | [], [], _ :: _, _, _, h => h.elim
  | f :: fs, R :: Rs, [], _, _, h => h.elim
section
variable {P : Program} {w : World} {K : PySem.W.Frag} {mg : Str → Option Value} {base : Heap} {T : List NTab} {x qual : Str} {st : Stmt} {f C : Addr} {fd : FuncData} {k : Nat}
theorem upd3 {H : Hp} {y dx : Addr} {a b c : HO} : upd (upd (upd H dx a) y b) y c = upd (upd H dx a) y c := upd_upd
/-- a new instance of any fields whose dict stands beside it -/
theorem new_rec {O : List Addr} {H : Hp} {y dx : Addr} {fs : List Str} {Rs : List Rp} {us : List V} (ok : Okh T O H) (hh : Holds Rs us (hid O H)) (hl : fs.length = Rs.length) (hy : H y = none) (hd : H dx = none) (hn : dx ≠ y) :
    Le T H (upd (upd H dx (.own y)) y (.ins C dx (fs.zip us))) ∧ (ObjR C (fs.zip Rs)).R (.ref y) (hid O (upd (upd H dx (.own y)) y (.ins C dx (fs.zip us)))) := by
  have l1 : Le T H (upd H dx (.own y)) := Le.new hd
  have hy1 : upd H dx (.own y) y = none := by rw [upd_ne hn.symm]; exact hy
  have l2 : Le T (upd H dx (.own y)) (upd (upd H dx (.own y)) y (.ins C dx (fs.zip us))) := Le.new hy1
  have l := l1.trans l2
  exact ⟨l, y, dx, _, rfl, (hid_out (ok.nin hy)).trans upd_same, fh_zip hl (hh.mono (hid_ext l.ex))⟩
theorem cfn_rec {ps : List Str} {fs : List Str} (hm : mg x = some (.ref C)) (M : Mk K C f) (F : FnOk P w K mg base CX0 k f fd ps (spRec C fs)) (b : Binds K fd ps []) : CFn P w K mg base T x k (fun Rs R => Rs.length = fs.length ∧ R = ObjR C (fs.zip Rs)) := by
  refine ⟨⟨C, f, fd, ps, [], [], _, hm, M, F, b, .nil, fun Rs R ⟨hl, hR⟩ vs O H y dx Q ok hh hy hdx hne q => ?_⟩⟩
  subst hR
  refine ⟨y, dx, vs, by rw [List.append_nil], hh.length.trans hl, upd_same, rfl, ?_⟩
  rw [upd3]
  obtain ⟨l, r⟩ := new_rec (C := C) ok hh hl.symm hy hdx hne
  exact q _ l r
end
/-! bigger products -/
def CMulX (i j : Int) : Prop := i.natAbs.log2 + j.natAbs.log2 < 134000000
theorem CMulX.ok {i j : Int} (h : CMulX i j) : IntMulOk i j := by
  have bit : ∀ z : Int, Builtin.Int.intBits z ≤ z.natAbs.log2 + 1 := fun z => by
    unfold Builtin.Int.intBits
    split <;> omega
  have hi := bit i
  have hj := bit j
  have line : bitsLine = 134217728 := by decide
  unfold CMulX at h
  unfold IntMulOk
  intro big
  have big2 := (Bool.and_eq_true_iff.mp big).2
  unfold Builtin.Int.intTooBig at big2
  have big3 := of_decide_eq_true big2
  rw [line] at big3
  omega
theorem op_mulX {X : Cx} : OpR X (binaryOp .Mult) (rI CMulX fun i j => .int (i * j)) := opI fun _ _ _ _ _ _ _ small q => mul_int q small.ok
section
variable {X : Cx} {T : List NTab} {G : Ctx} {a b c : Expr} {pos : Pos}
theorem he_mulX {i j : Int} (ha : HasE X T G a (IntR i)) (hb : HasE X T G b (IntR j)) (hc : CMulX i j) : HasE X T G (.BinOp a .Mult b pos) (IntR (i * j)) :=
  he_op op_mulX ha hb fun O x y H _ e1 e2 Q q => ⟨i, j, e1, e2, hc, q _ H (Le.refl H) rfl⟩
/-- a statement in which a raise is never come to -/
theorem np_skipN {sts : List Stmt} (h : HasT X T G c false) : NxtP X T G (.If c sts [] pos) G := np_skip h
/-! while -/
inductive Goes' {α : Type} (tst : α → Bool) (nxt : α → α) : α → α → Prop where
  | stop {a : α} (h : tst a = false) : Goes' tst nxt a a
  | step {a b : α} (h : tst a = true) (g : Goes' tst nxt (nxt a) b) : Goes' tst nxt a b
theorem Goes'.total {α : Type} {tst : α → Bool} {nxt : α → α} (inv : α → Prop) (μ : α → Nat) (h : ∀ a, inv a → tst a = true → inv (nxt a) ∧ μ (nxt a) < μ a) : ∀ (n : Nat) (a : α), μ a ≤ n → inv a → ∃ b, Goes' tst nxt a b ∧ inv b ∧ tst b = false
  | n, a, hn, hi => by
    cases e : tst a with
    | false => exact ⟨a, .stop e, hi, e⟩
    | true =>
      obtain ⟨h1, h2⟩ := h a hi e
      match n with
      | 0 => omega
      | n + 1 =>
        obtain ⟨b, g, h3, h4⟩ := Goes'.total inv μ h n (nxt a) (by omega) h1
        exact ⟨b, .step e g, h3, h4⟩
def tMaxT (X : Cx) (c : Expr) : TT := fun σ H Q => ∃ t, PT X c t ∧ t σ H Q
theorem pt_max : PT X c (tMaxT X c) := ⟨fun pins s σ H Q I ⟨t, p, h⟩ => p.run pins s σ H Q I h⟩
theorem np_while {α : Type} {tst : α → Bool} {nxt : α → α} {body : List Stmt} (Gs : α → Ctx) (inv : α → Prop) (μ : α → Nat) {a0 a1 : α} (h0 : inv a0) (hg : Goes' tst nxt a0 a1) (ht : ∀ a, inv a → HasT X T (Gs a) c (tst a))
    (hb : ∀ a, inv a → tst a = true → inv (nxt a) ∧ μ (nxt a) < μ a ∧ NxtS X T (Gs a) body (Gs (nxt a))) (hp : PassesOwn (model X.prog X.w) X.A X.env X.xe) : NxtP X T (Gs a0) (.While c body [] pos) (Gs a1) := by
  refine ⟨_, ps_while hp pt_max pss_max, fun O σ H ok he D q => ?_⟩
  refine ⟨fun m σ' H' => ∃ a, m = μ a ∧ inv a ∧ Goes' tst nxt a a1 ∧ Le T H H' ∧ Env (Gs a) σ' (hid O H'), ⟨_, a0, rfl, h0, hg, Le.refl _, he⟩, ?_⟩
  rintro m σ' H' ⟨a, rfl, hi, g, l, he2⟩
  obtain ⟨t, pt, yt⟩ := ht a hi
  refine ⟨t, pt, yt O σ' H' (ok.le l) he2 _ fun H2 l2 => ?_⟩
  cases g with
  | stop h =>
    rw [h]
    exact iteF (q _ _ (l.trans l2) (he2.mono (hid_ext l2.ex)))
  | step h g =>
    rw [h]
    obtain ⟨h1, h2, u, pu, yu⟩ := hb a hi h
    refine iteT ⟨fun σ3 H3 => ∃ b, μ b < μ a ∧ inv b ∧ Goes' tst nxt b a1 ∧ Le T H H3 ∧ Env (Gs b) σ3 (hid O H3), fun σ3 H3 ⟨b, z, r⟩ => ⟨_, z, b, rfl, r⟩, u, pu, ?_⟩
    exact yu O σ' H2 ((ok.le l).le l2) (he2.mono (hid_ext l2.ex)) _ fun σ3 H3 l3 he3 => ⟨nxt a, h2, h1, g, (l.trans l2).trans l3, he3⟩
end
end Rl

set_option Elab.async false
set_option linter.all false
set_option maxRecDepth 100000
set_option maxHeartbeats 4000000
/-! Typed readings 5: two names at once, an __init__ that computes, one def within another. -/
namespace Rl
open PySem PySem.Spec PyProof.Rows L2 NdefX LamX
section
variable {X : Cx} {T : List NTab} {G G' : Ctx} {e a b c : Expr} {R S R' : Rp} {Rs : List Rp} {pos p2 : Pos}
theorem np_par2 (i j : Nat) {x y : Str} {px py pt : Pos} {kt k2 pt2} (h : HasA X T G [a, b] [R, S]) (hN : X.N.Nodup) (hi : X.N[i]? = some x := by rfl) (hj : X.N[j]? = some y := by rfl) (hij : i ≠ j := by decide)
    (hx : X.env.scope.names.lookup x = some .local := by rfl) (hy : X.env.scope.names.lookup y = some .local := by rfl) (hc : X.calm = true := by rfl)
    (hw : swappedStores [.Tuple [.Name x px, .Name y py] kt pt] (.Tuple [a, b] k2 pt2) X.env = pure (some [x, y]) := by rfl)
    (hs : swapsWithSole [.Tuple [.Name x px, .Name y py] kt pt] (.Tuple [a, b] k2 pt2) pos.line X.env = pure false := by rfl) :
    NxtP X T G (.Assign [.Tuple [.Name x px, .Name y py] kt pt] (.Tuple [a, b] k2 pt2) pos) ((G.set i (some R)).set j (some S)) := by
  obtain ⟨ta, p, y'⟩ := h
  exact np_par i j (x := x) (y := y) (a := a) (b := b) (k := 0) (l := 0) (p1 := pos) (p2 := pos) (p3 := pos) ⟨ta, ps_par hc hN hi hj hij hx hy p hw hs, y'⟩
end
/-! a block that ends otherwise -/
/-- from the context on the block does what is told of the heap and the ends -/
def TailS (X : Cx) (T : List NTab) (G : Ctx) (sts : List Stmt) (W : List Addr → Hp → Ends → Prop) : Prop :=
  ∃ t, PSs X sts t ∧ ∀ O σ H, Okh T O H → Env G σ (hid O H) → ∀ D : Ends, W O H D → t D σ H
theorem tail_cons {X : Cx} {T : List NTab} {G G' : Ctx} {st : Stmt} {rest : List Stmt} {W : List Addr → Hp → Ends → Prop} (h : NxtP X T G st G') (g : TailS X T G' rest W) (m : ∀ O H H' D, Le T H H' → W O H D → W O H' D) : TailS X T G (st :: rest) W := by
  obtain ⟨t, p, y⟩ := h
  obtain ⟨u, p', y'⟩ := g
  exact ⟨_, pss_cons p p', fun O σ H ok he D w => y O σ H ok he _ fun σ' H' l e' => y' O σ' H' (ok.le l) e' D (m O H H' D l w)⟩
/-! an __init__ that computes two fields -/
def WTwo (T : List NTab) (C : Addr) (p : Addr) (f g : Str) (R1 R2 : Rp) (O : List Addr) (H : Hp) (D : Ends) : Prop := p ∈ O ∧ (∃ dx, H p = some (.ins C dx [])) ∧
  ∀ v1 v2 H' σ dx, Le T H H' → R1.R v1 (hid O H') → R2.R v2 (hid O H') → H' p = some (.ins C dx []) → D.nx σ (upd H' p (.ins C dx [(f, v1), (g, v2)]))
theorem wTwo_mono {T : List NTab} {C p : Addr} {f g : Str} {R1 R2 : Rp} (O : List Addr) (H H' : Hp) (D : Ends) (l : Le T H H') (w : WTwo T C p f g R1 R2 O H D) : WTwo T C p f g R1 R2 O H' D := by
  obtain ⟨h1, ⟨dx, h2⟩, h3⟩ := w
  exact ⟨h1, ⟨dx, l.ex _ _ h2 (by intro ps z; cases z)⟩, fun v1 v2 H2 σ dx l2 => h3 v1 v2 H2 σ dx (l.trans l2)⟩
theorem okh_upd {T : List NTab} {O : List Addr} {H : Hp} {p C dx : Addr} {fs fs' : List (Str × V)} (ok : Okh T O H) (hp : H p = some (.ins C dx fs)) : Okh T O (upd H p (.ins C dx fs')) := by
  refine ⟨fun q hq => ?_, fun b hb => ?_⟩
  · obtain ⟨ps, t1, t2, t3⟩ := ok.tabs q hq
    refine ⟨ps, ?_, t2, fun pos cv hc => ?_⟩
    · rw [upd_ne (fun z => by rw [z, hp] at t1; cases t1)]; exact t1
    · obtain ⟨c, c1, c2⟩ := t3 pos cv hc
      exact ⟨c, c1, by rw [upd_ne (fun z => by rw [z, hp] at c2; cases c2)]; exact c2⟩
  · by_cases c : b = p
    · rw [c]; exact ⟨_, upd_same, (fun ps z => by cases z), (fun φ z => by cases z)⟩
    · rw [upd_ne c]; exact ok.pl b hb
/-- self.f = e1; self.g = e2, self hidden -/
theorem tail_two {X : Cx} {T : List NTab} {G : Ctx} {C p : Addr} {f1 f2 : Str} {R1 R2 : Rp} {o1 o2 e1 e2 : Expr} {q1 q2 p1 p2 : Pos} (hc : Cls X.K C) (n1 : NoAttr X.K C f1) (n2 : NoAttr X.K C f2) (hne : f1 ≠ f2)
    (h1 : HasE X T G e1 R1) (h2 : HasE X T G e2 R2) (g1 : HasE X T G o1 (IsR (.ref p))) (g2 : HasE X T G o2 (IsR (.ref p)))
    (sw1 : swapsWith e1 (some (.Attribute o1 f1 q1)) p1.line X.env = pure false := by rfl) (sw2 : swapsWith e2 (some (.Attribute o2 f2 q2)) p2.line X.env = pure false := by rfl) :
    TailS X T G [.Assign [.Attribute o1 f1 q1] e1 p1, .Assign [.Attribute o2 f2 q2] e2 p2] (WTwo T C p f1 f2 R1 R2) := by
  obtain ⟨t1, pt1, y1⟩ := h1
  obtain ⟨t2, pt2, y2⟩ := h2
  obtain ⟨u1, pu1, z1⟩ := g1
  obtain ⟨u2, pu2, z2⟩ := g2
  refine ⟨_, pss_cons (ps_fld pu1 pt1 sw1) (pss_one (ps_fld pu2 pt2 sw2)), fun O σ H ok he D w => ?_⟩
  obtain ⟨hpO, ⟨dx, hp⟩, hq⟩ := w
  refine y1 O σ H ok he _ fun v1 H1 l1 r1 => z1 O σ H1 (ok.le l1) (he.mono (hid_ext l1.ex)) _ fun _ H2 l2 e => ?_
  cases e
  have l12 := l1.trans l2
  have hp2 : H2 p = some (.ins C dx []) := l12.ex _ _ hp (by intro ps z; cases z)
  refine ⟨p, C, dx, [], rfl, hp2, hc, n1, by simp, ?_⟩
  have hh : hid O (upd H2 p (.ins C dx (putF f1 v1 []))) = hid O H2 := hid_upd hpO
  have ok3 : Okh T O (upd H2 p (.ins C dx (putF f1 v1 []))) := okh_upd (ok.le l12) hp2
  refine y2 O σ _ ok3 (by rw [hh]; exact he.mono (hid_ext l12.ex)) _ fun v2 H4 l4 r2 => z2 O σ H4 (ok3.le l4) (by have := (he.mono (hid_ext l12.ex)); rw [← hh] at this; exact this.mono (hid_ext l4.ex)) _ fun _ H5 l5 e => ?_
  cases e
  have l45 := l4.trans l5
  have hp5 : H5 p = some (.ins C dx (putF f1 v1 [])) := l45.ex _ _ upd_same (by intro ps z; cases z)
  refine ⟨p, C, dx, _, rfl, hp5, hc, n2, by simp [putF], ?_⟩
  have e5 : putF f2 v2 (putF f1 v1 []) = [(f1, v1), (f2, v2)] := by simp [putF, hne]
  rw [e5]
  have hp4 : H5 p = some (.ins C dx (putF f1 v1 [])) := hp5
  have ok5 : Okh T O H5 := ok3.le l45
  have hb : hid O (upd H5 p (.ins C dx [])) = hid O H5 := hid_upd hpO
  have lB : Le T H (upd H5 p (.ins C dx [])) := by
    refine ⟨fun b o hb n => ?_, fun _ => (okh_upd (fs' := []) ok5 hp5).tabs, fun b hz => ?_⟩
    · by_cases c : b = p
      · rw [c, hp] at hb
        cases hb
        rw [c, upd_same]
      · rw [upd_ne c]
        refine l45.ex _ _ ?_ n
        rw [upd_ne c]
        exact l12.ex _ _ hb n
    · by_cases c : b = p
      · rw [c, upd_same] at hz; cases hz
      · rw [upd_ne c] at hz
        have := l45.dm b hz
        rw [upd_ne c] at this
        exact l12.dm b this
  have e6 : upd H5 p (.ins C dx [(f1, v1), (f2, v2)]) = upd (upd H5 p (.ins C dx [])) p (.ins C dx [(f1, v1), (f2, v2)]) := upd_upd.symm
  rw [e6]
  refine hq v1 v2 _ σ dx lB ?_ ?_ upd_same
  · rw [hb]
    have := R1.mono (hid_ext l2.ex) r1
    rw [← hh] at this
    exact R1.mono (hid_ext l45.ex) this
  · rw [hb]
    exact R2.mono (hid_ext l5.ex) r2
section
variable {P : Program} {w : World} {K : PySem.W.Frag} {mg : Str → Option Value} {base : Heap} {T : List NTab} {x qual : Str} {st : Stmt} {C : Addr} {k : Nat} {N ps : List Str} {f1 f2 : Str} {S : List Rp → Rp → Rp → Prop} {dvs : List V} {Ds : List Rp}
/-- what an __init__ promises that stores two computed values -/
def spTwo (T : List NTab) (C : Addr) (f g : Str) (S : List Rp → Rp → Rp → Prop) : Sp := fun vs H Q _ => ∃ (p : Addr) (us : List V) (Rs : List Rp) (R1 R2 : Rp) (O : List Addr), vs = .ref p :: us ∧ S Rs R1 R2 ∧ Okh T O H ∧ Holds Rs us (hid O H) ∧
  ∀ D : Ends, D.nx = (fun _ H' => Q .non H') → WTwo T C p f g R1 R2 O H D
theorem cfn_two (I : TIn K mg x C qual st dvs) (sc : FnScope N ps (defScope st)) (dws : List V) (hd : ∀ H, Holds Ds dws H) (hl : ∀ Rs R1 R2, S Rs R1 R2 → Rs.length + 1 = ps.length)
    (bd : ∀ f fd, FnD K "__init__" qual st dvs f fd → ∃ ds, Vals dws ds ∧ Binds K fd ps ds)
    (h : ∀ Rs R1 R2, S Rs R1 R2 → ∀ (f y : Addr) (cdv : Value) (A : Around) (outer : List PySem.Env) (s : Shared) (H : Hp) (E : XK), Room k (A.deeper (envOfC qual (defScope st) s.heap.objs.size f cdv)) →
      TailS (cxOf CX0 P w K mg base N qual (defScope st) f cdv A outer s H E) T (ctx0 N (IsR (.ref y) :: Rs)) (defBody st) (WTwo T C y f1 f2 R1 R2)) :
    CFn P w K mg base T x (k + 1) fun Rs R => ∃ R1 R2, S (Rs ++ Ds) R1 R2 ∧ R = ObjR C [(f1, R1), (f2, R2)] := by
  obtain ⟨hm, f, fd, M, F⟩ := I.ex
  obtain ⟨ds, hds, hB⟩ := bd f fd F
  refine ⟨C, f, fd, ps, ds, dws, spTwo T C f1 f2 S, hm, M, ?_, hB, hds, fun Rs R ⟨R1, R2, hS, hR⟩ vs O H y dx Q ok hh hy hdx hne' q => ?_⟩
  · refine F.ok sc (fun vs H Q E ⟨p, us, Rs, R1, R2, O, e, hS, _, hh, _⟩ => by rw [e, List.length_cons, hh.length]; exact hl Rs R1 R2 hS) fun cdv A outer s H vs Q E hr h0 => ?_
    obtain ⟨p, us, Rs, R1, R2, O, rfl, hS, ok, hh, q⟩ := h0
    obtain ⟨t, pt, yt⟩ := h Rs R1 R2 hS f p cdv A outer s H E hr
    exact ⟨t, pt, yt O _ H ok (env_start (Rs := IsR (.ref p) :: Rs) (vs := .ref p :: us) ⟨rfl, hh⟩) _ (q _ rfl)⟩
  · subst hR
    have l1 : Le T H (upd H dx (.own y)) := Le.new hdx
    have hy1 : upd H dx (.own y) y = none := by rw [upd_ne hne'.symm]; exact hy
    have l2 : Le T (upd H dx (.own y)) (upd (upd H dx (.own y)) y (.ins C dx [])) := Le.new hy1
    have l12 := l1.trans l2
    have hO : y ∉ O := ok.nin hy
    have ok2 : Okh T (y :: O) (upd (upd H dx (.own y)) y (.ins C dx [])) := by
      refine ⟨(ok.le l12).tabs, fun b hb => ?_⟩
      rcases List.mem_cons.mp hb with z | z
      · rw [z]; exact ⟨_, upd_same, (fun ps z => by cases z), (fun φ z => by cases z)⟩
      · exact (ok.le l12).pl b z
    have eH : ExtN (hid O H) (hid (y :: O) (upd (upd H dx (.own y)) y (.ins C dx []))) := by
      rw [hid_cons hy1]
      exact hid_ext l1.ex
    refine ⟨y, vs ++ dws, Rs ++ Ds, R1, R2, y :: O, rfl, hS, ok2, (hh.mono eH).append (hd _), fun D hD => ⟨List.mem_cons_self, ⟨dx, upd_same⟩, fun v1 v2 H' σ dx' l3 r1 r2 hp => ?_⟩⟩
    rw [hD]
    refine ⟨rfl, ?_⟩
    have hy3 : H' y = some (.ins C dx []) := l3.ex _ _ upd_same (by intro ps z; cases z)
    have lE : Le T H (upd H' y (.ins C dx' [(f1, v1), (f2, v2)])) := by
      have ok3 := ok2.le l3
      refine ⟨fun b o hb n => ?_, fun _ => (okh_upd ok3 hp).tabs, fun b hz => ?_⟩
      · have c : b ≠ y := ne_of_none hb hy
        rw [upd_ne c]
        exact l3.ex _ _ (l12.ex _ _ hb n) n
      · by_cases c : b = y
        · rw [c, upd_same] at hz; cases hz
        · rw [upd_ne c] at hz
          exact l12.dm b (l3.dm b hz)
    refine q _ lE ⟨y, dx', _, rfl, (hid_out hO).trans upd_same, rfl, ?_, rfl, ?_, trivial⟩
    · refine R1.mono ?_ r1
      refine extN_same fun b o e => ?_
      have e' := hid_less (O := O) (p := y) (H := H') b o e
      unfold hid at e ⊢
      split at e
      · cases e
      · rename_i hb
        rw [if_neg (fun z => hb (List.mem_cons_of_mem _ z)), upd_ne (fun z => hb (by rw [z]; exact List.mem_cons_self))]
        exact e
    · refine R2.mono ?_ r2
      refine extN_same fun b o e => ?_
      unfold hid at e ⊢
      split at e
      · cases e
      · rename_i hb
        rw [if_neg (fun z => hb (List.mem_cons_of_mem _ z)), upd_ne (fun z => hb (by rw [z]; exact List.mem_cons_self))]
        exact e
end
end Rl

set_option Elab.async false
set_option linter.all false
set_option maxRecDepth 100000
set_option maxHeartbeats 4000000
/-! Typed readings 6: functions that a def hands back. -/
namespace Rl
open PySem PySem.Spec PyProof.Rows L2 NdefX LamX
/-! ### captured cells, tracked -/
def CellO (c : Addr) (v : V) : HO := .ext fun h => ∃ u, RelV v u ∧ h.IsCell c (some u)
section
variable {P : Program} {w : World} {H H' : Hp} {h h' : Heap} {a c f : Addr} {v : V} {o : HO}
theorem cell_at (hok : HOk P w H h) (e : H c = some (CellO c v)) : ∃ u, RelV v u ∧ h.IsCell c (some u) := (hok c _ e).1
theorem cell_not_fn {F : NF} (hok : HOk P w H h) (e : H c = some (CellO c v)) (g : H c = some (FnO c F)) : False := by
  obtain ⟨u, _, o, h1, h2⟩ := cell_at hok e
  obtain ⟨od, sl, doc, pm, ctv, h3⟩ := fnO_at hok g
  rw [h1] at h3
  cases h3
  cases h2
theorem cell_not_code {q : Str} (hok : HOk P w H h) (e : H c = some (CellO c v)) (g : H c = some (CodeO c q)) : False := by
  obtain ⟨u, _, o, h1, h2⟩ := cell_at hok e
  obtain ⟨c', oc, vs, t, e1, h3, h4, h5⟩ := codeO_at hok g
  cases e1
  rw [h1] at h3
  cases h3
  rw [h2] at h4
  cases h4
theorem objOk_of : ∀ {o : HO}, (∀ b xs, H b = some (.tup xs) → H' b = some (.tup xs)) → (∀ b x, H b = some (.own x) → H' b = some (.own x)) → ObjOk P w H h a o → ObjOk P w H' h a o
  | .lst xs, t, ow, z => z
  | .tup xs, t, ow, z => z
  | .dK _, t, ow, z => z
  | .dT _, t, ow, ⟨z1, z2, xs, pr, z3⟩ => ⟨z1, z2, xs, PySem.Paired.mono (fun _ _ q => ⟨q.1, t _ _ q.2.1, q.2.2⟩) pr, z3⟩
  | .set _ _, t, ow, z => z
  | .ins _ _ _, t, ow, ⟨z1, z2⟩ => ⟨ow _ _ z1, z2⟩
  | .own _, t, ow, z => z
  | .xd _, t, ow, z => z
  | .met _ _, t, ow, z => z
  | .rng _ _, t, ow, z => z
  | .frz _ u, t, ow, ⟨z1, z2⟩ => ⟨z1, objOk_of (o := u) t ow z2⟩
  | .tbl _, t, ow, z => z
  | .ext _, t, ow, z => z
end
/-- the heap H' with what H has at cs -/
def putB (cs : List Addr) (H H' : Hp) : Hp := fun b => if b ∈ cs then H b else H' b
/-! ### what a value stands for that no captured cell tells -/
def Rp.Clean (R : Rp) : Prop := ∀ v H (cs : List Addr), (∀ b ∈ cs, ∃ φ, H b = some (.ext φ)) → R.R v H → R.R v (hid cs H)
theorem hid_keep {cs : List Addr} {H : Hp} {b : Addr} {o : HO} (hc : ∀ b ∈ cs, ∃ φ, H b = some (.ext φ)) (e : H b = some o) (n : ∀ φ, o ≠ .ext φ) : hid cs H b = some o := by
  rw [hid_out]
  · exact e
  · intro z
    obtain ⟨φ, q⟩ := hc b z
    rw [q] at e
    exact n φ (Option.some.inj e).symm
theorem clean_is (x : V) : (IsR x).Clean := fun _ _ _ _ h => h
theorem clean_obj {C : Addr} {Fs : List (Str × Rp)} (h : ∀ p ∈ Fs, p.2.Clean) : (ObjR C Fs).Clean := by
  have fh : ∀ (Fs : List (Str × Rp)) (gs : List (Str × V)) (H : Hp) (cs : List Addr), (∀ b ∈ cs, ∃ φ, H b = some (.ext φ)) → (∀ p ∈ Fs, p.2.Clean) → FH Fs gs H → FH Fs gs (hid cs H) := by
    intro Fs
    induction Fs with
    | nil => intro gs H cs hc h g; cases gs with
      | nil => trivial
      | cons => exact g.elim
    | cons F Fs ih => intro gs H cs hc h g; cases gs with
      | nil => exact g.elim
      | cons q gs => exact ⟨g.1, h F List.mem_cons_self _ _ _ hc g.2.1, ih gs H cs hc (fun p hp => h p (List.mem_cons_of_mem _ hp)) g.2.2⟩
  exact fun v H cs hc ⟨a, dx, gs, e1, e2, e3⟩ => ⟨a, dx, gs, e1, hid_keep hc e2 (fun φ z => by cases z), fh Fs gs H cs hc h e3⟩
theorem holds_clean : ∀ {Rs : List Rp} {vs : List V} {H : Hp} {cs : List Addr}, (∀ b ∈ cs, ∃ φ, H b = some (.ext φ)) → (∀ R ∈ Rs, R.Clean) → Holds Rs vs H → Holds Rs vs (hid cs H)
  | [], [], _, _, _, _, _ => trivial
  | R :: Rs, v :: vs, H, cs, hc, h, g => ⟨h R List.mem_cons_self _ _ _ hc g.1, holds_clean hc (fun R hR => h R (List.mem_cons_of_mem _ hR)) g.2⟩
  | [], _ :: _, _, _, _, _, g => g.elim
  | _ :: _, [], _, _, _, _, g => g.elim
theorem hid_comm {cs O : List Addr} {H : Hp} : hid O (hid cs H) = hid cs (hid O H) := by
  funext b
  unfold hid
  by_cases h1 : b ∈ O <;> by_cases h2 : b ∈ cs <;> simp [h1, h2]
/-! ### a function that a def has handed back -/
/-- its words, its cells; each cell's value -/
structure CloAt (st : Stmt) (name qual : Str) (fr : List Str) (f c' : Addr) (cl : List (Str × Addr)) (cs : List Addr) (ws : List V) (H : Hp) : Prop where
  fn : H f = some (FnO f (NF.of st name qual cl c'))
  co : H c' = some (CodeO c' qual)
  lc : cs.length = fr.length
  lw : ws.length = fr.length
  of : ∀ y c, cl.lookup y = some c → ∃ i : Nat, fr[i]? = some y ∧ cs[i]? = some c
  to : ∀ (i : Nat) y c, fr[i]? = some y → cs[i]? = some c → cl.lookup y = some c
  at_ : ∀ (i : Nat) c v, cs[i]? = some c → ws[i]? = some v → H c = some (CellO c v)
  nd : cs.Nodup
theorem CloAt.mono {st : Stmt} {name qual : Str} {fr : List Str} {f c' : Addr} {cl : List (Str × Addr)} {cs : List Addr} {ws : List V} {H H' : Hp} (e : ExtN H H') (h : CloAt st name qual fr f c' cl cs ws H) : CloAt st name qual fr f c' cl cs ws H' :=
  ⟨e _ _ h.fn fnO_ne, e _ _ h.co (by intro ps z; cases z), h.lc, h.lw, h.of, h.to, fun i c v a b => e _ _ (h.at_ i c v a b) (by intro ps z; cases z), h.nd⟩
theorem CloAt.ext {st : Stmt} {name qual : Str} {fr : List Str} {f c' : Addr} {cl : List (Str × Addr)} {cs : List Addr} {ws : List V} {H : Hp} (h : CloAt st name qual fr f c' cl cs ws H) : ∀ b ∈ cs, ∃ v, H b = some (CellO b v) := fun b hb => by
  obtain ⟨i, hi⟩ := List.mem_iff_getElem?.mp hb
  have hl := (List.getElem?_eq_some_iff.mp hi).1
  have hw : i < ws.length := by rw [h.lw, ← h.lc]; exact hl
  exact ⟨ws[i], h.at_ i b _ hi (by simp [hw])⟩
def CloR (st : Stmt) (name qual : Str) (fr : List Str) (Ws : List Rp) : Rp :=
  ⟨fun v H => ∃ f c' cl cs ws, v = .ref f ∧ CloAt st name qual fr f c' cl cs ws H ∧ Holds Ws ws (hid cs H), fun {v H H'} e ⟨f, c', cl, cs, ws, e1, h, g⟩ => ⟨f, c', cl, cs, ws, e1, h.mono e, g.mono (hid_ext e)⟩⟩
/-- what it promises -/
def SpN (T : List NTab) (S : List Rp → List Rp → Rp → Prop) : List (Option V) → Sp := fun ws vs H Q _ => ∃ Rs Ws R O us, S Rs Ws R ∧ Okh T O H ∧ Holds Rs vs (hid O H) ∧ ws = us.map some ∧ Holds Ws us (hid O H) ∧ ∀ v H', Le T H H' → R.R v (hid O H') → Q v H'
def CloOk (P : Program) (w : World) (K : PySem.W.Frag) (mg : Str → Option Value) (base : Heap) (T : List NTab) (st : Stmt) (name qual : Str) (ps fr : List Str) (k : Nat) (S : List Rp → List Rp → Rp → Prop) : Prop :=
  ∀ (f : Addr) (cl : List (Str × Addr)) (c' : Addr), NOk P w K mg base CX0 k f (NF.of st name qual cl c') ps fr (SpN T S)
section
variable {P : Program} {w : World} {K : PySem.W.Frag} {mg : Str → Option Value} {base : Heap} {T : List NTab} {st : Stmt} {name qual : Str} {N ps fr : List Str} {k j : Nat} {S : List Rp → List Rp → Rp → Prop}
theorem CloOk.mono (h : CloOk P w K mg base T st name qual ps fr j S) (hk : j ≤ k) : CloOk P w K mg base T st name qual ps fr k S := fun f cl c' => (h f cl c').mono hk
def ctxF (N : List Str) (Rs Ws : List Rp) : Ctx := Rs.map some ++ (Ws.map some ++ List.replicate (N.length - Rs.length - Ws.length) none)
theorem env_startF {Rs Ws : List Rp} {vs us : List V} {H : Hp} (h : Holds Rs vs H) (g : Holds Ws us H) : Env (ctxF N Rs Ws) (startF N vs (us.map some)) H := by
  have hl := h.length
  have gl := g.length
  refine ⟨by simp [ctxF, startF, hl, gl], fun i R q => ?_⟩
  have hh := h.append g
  have e1 : ctxF N Rs Ws = (Rs ++ Ws).map some ++ List.replicate (N.length - Rs.length - Ws.length) none := by simp [ctxF]
  have e2 : startF N vs (us.map some) = (vs ++ us).map some ++ List.replicate (N.length - vs.length - (us.map some).length) none := by simp [startF]
  rw [e1] at q
  rw [e2]
  by_cases c : i < (Rs ++ Ws).length
  · rw [List.getElem?_append_left (by simpa using c), List.getElem?_map] at q
    rw [List.getElem?_append_left (by simpa [hl, gl] using c), List.getElem?_map]
    cases e : (Rs ++ Ws)[i]? with
    | none => rw [e] at q; cases q
    | some R' =>
      rw [e] at q
      cases q
      obtain ⟨v, a, b⟩ := hh.get e
      exact ⟨v, by rw [a]; rfl, b⟩
  · rw [List.getElem?_append_right (by simpa using Nat.le_of_not_lt c), List.getElem?_replicate] at q
    split at q <;> cases q
theorem clo_mk (sc : NScope N ps fr (C8.fnScope st)) (hb : ∀ (f : Addr) (cl : List (Str × Addr)) (c' : Addr) (doc pm ctv : Value) (us : List Value), us.length = ps.length → bindArgs ((NF.of st name qual cl c').fd doc pm ctv) ⟨us, []⟩ = pure (ps.zip us))
    (hl : ∀ Rs Ws R, S Rs Ws R → Rs.length = ps.length)
    (h : ∀ Rs Ws R, S Rs Ws R → ∀ (f : Addr) (cl : List (Str × Addr)) (c' : Addr) (A : Around) (outer : List PySem.Env) (s : Shared) (H : Hp) (E : XK), Room k (A.deeper (envF (NF.of st name qual cl c') f s.heap.objs.size)) →
      RetS (ncx CX0 P w K mg base N (NF.of st name qual cl c') f A outer s H E).nox T (ctxF N Rs Ws) (C8.fnBody st) R) : CloOk P w K mg base T st name qual ps fr (k + 1) S := by
  intro f cl c'
  refine nok_of (N := N) sc (hb f cl c') (fun ws vs H Q E ⟨Rs, Ws, R, O, us, hS, _, hh, _⟩ => hh.length.trans (hl Rs Ws R hS)) fun A outer s H vs ws Q E hr hf hc hw h0 => ?_
  obtain ⟨Rs, Ws, R, O, us, hS, ok, hh, rfl, gg, q⟩ := h0
  obtain ⟨t, p, y⟩ := h Rs Ws R hS f cl c' A outer s H E hr
  exact ⟨t, p.nox, y O _ H ok (env_startF hh gg) _ q⟩
end
/-! ### its call -/
section
variable {X : Cx} {T : List NTab} {G : Ctx} {g e : Expr} {es : List Expr} {R : Rp} {Rs Ws : List Rp} {pos : Pos} {st : Stmt} {name qual : Str} {ps fr : List Str} {k : Nat} {S : List Rp → List Rp → Rp → Prop}
/-- the call in an abstract heap in which its cells are tracked -/
theorem run_clo {pins : List (Addr × Obj)} {σ : L2.St} {H : Hp} {s : Shared} {Q : VK} {v0 : V} {u0 : Value} {us : List Value} {vs : List V} {O : List Addr} (F : CloOk X.prog X.w X.K X.mg X.base T st name qual ps fr k S) (hr : Room k X.A) (I : Inv X pins σ H s)
    (r0 : RelV v0 u0) (hc : (CloR st name qual fr Ws).R v0 (hid O H)) (ok : Okh T O H) (hcl : ∀ R ∈ Rs, R.Clean) (hh : Holds Rs vs (hid O H)) (hS : S Rs Ws R) (r : Vals vs us) (q : ∀ v H', Le T H H' → R.R v (hid O H') → Q v H') :
    wpAny (model X.prog X.w) X.A (call u0 us) (EP X pins σ Q) X.xe s := by
  obtain ⟨f, c', cl, cs, ws, rfl, C, gg⟩ := hc
  obtain rfl : u0 = Value.ref f := r0
  have CH : CloAt st name qual fr f c' cl cs ws H := C.mono (extN_same (hid_sub O H))
  have hcell := CH.ext
  have hext : ∀ b ∈ cs, ∃ φ, H b = some (.ext φ) := fun b hb => let ⟨v, e⟩ := hcell b hb; ⟨_, e⟩
  have hext' : ∀ b ∈ cs, ∃ φ, hid O H b = some (.ext φ) := fun b hb => let ⟨v, e⟩ := C.ext b hb; ⟨_, e⟩
  have hfn : f ∉ cs := fun z => let ⟨v, e⟩ := hcell f z; cell_not_fn I.hok e CH.fn
  have hco : c' ∉ cs := fun z => let ⟨v, e⟩ := hcell c' z; cell_not_code I.hok e CH.co
  have keep : ∀ b o, H b = some o → (∀ φ, o ≠ .ext φ) → hid cs H b = some o := fun b o e n => hid_keep hext e n
  -- the heap without the cells
  have hok0 : HOk X.prog X.w (hid cs H) s.heap := fun a o e => objOk_of (fun b xs z => keep b _ z (fun φ z => by cases z)) (fun b x z => keep b _ z (fun φ z => by cases z)) (I.hok a o (hid_sub cs H _ _ e))
  have E := I.env0
  have E0' : Env0 X.prog X.w X.K X.mg X.base X.A X.stack s (hid cs H) := ⟨E.frames, E.mod, fun b o e => ⟨(E.bs b o e).1, (hid_sub cs H).free (E.bs b o e).2⟩, E.bsz, E.funs, fun b hb => (hid_sub cs H).free (E.frf b hb), hok0, E.bare⟩
  have ok0 : Okh T O (hid cs H) := by
    refine ⟨fun p hp => ?_, fun b hb => ?_⟩
    · obtain ⟨ps, t1, t2, t3⟩ := ok.tabs p hp
      refine ⟨ps, keep _ _ t1 (fun φ z => by cases z), t2, fun pos cv hc => ?_⟩
      obtain ⟨c, c1, c2⟩ := t3 pos cv hc
      refine ⟨c, c1, ?_⟩
      rw [hid_out (fun z => let ⟨v, e⟩ := hcell c z; cell_not_code I.hok e c2)]
      exact c2
    · obtain ⟨o, e, n1, n2⟩ := ok.pl b hb
      exact ⟨o, keep b o e n2, n1, n2⟩
  have CA : CellsAt cl fr (ws.map some) s.heap (hid cs H) := by
    refine ⟨by rw [List.length_map]; exact C.lw, fun y c e => ?_, fun x y c e1 e2 => ?_, fun i y e => ?_⟩
    · obtain ⟨i, h1, h2⟩ := C.of y c e
      have hm : c ∈ cs := List.mem_of_getElem? h2
      obtain ⟨v, e3⟩ := hcell c hm
      obtain ⟨u, _, z⟩ := cell_at I.hok e3
      exact ⟨if_pos hm, _, z⟩
    · obtain ⟨i, h1, h2⟩ := C.of x c e1
      obtain ⟨j, h3, h4⟩ := C.of y c e2
      have hi := (List.getElem?_eq_some_iff.mp h2).1
      have : i = j := (List.getElem?_inj hi C.nd).mp (h2.trans h4.symm)
      subst this
      exact Option.some.inj (h1.symm.trans h3)
    · have hi := (List.getElem?_eq_some_iff.mp e).1
      have hc : i < cs.length := by rw [C.lc]; exact hi
      refine ⟨cs[i], C.to i y _ e (by simp [hc]), fun v hv => ?_⟩
      rw [List.getElem?_map] at hv
      cases hw : ws[i]? with
      | none => rw [hw] at hv; cases hv
      | some v' =>
        rw [hw] at hv
        cases hv
        exact cell_at I.hok (CH.at_ i _ v (List.getElem?_eq_getElem hc) hw)
  have hsp : SpN T S (ws.map some) vs (hid cs H) (fun v H' => Le T (hid cs H) H' ∧ R.R v (hid O H')) E0 :=
    ⟨Rs, Ws, R, O, ws, hS, ok0, by rw [hid_comm]; exact holds_clean hext' hcl hh, rfl, by rw [hid_comm]; exact gg, fun v H' l r => ⟨l, r⟩⟩
  refine wpAny_call (codeAny_mono ((F f cl c').run X.A X.stack s (hid cs H) us vs _ _ E0 hr E0' ?_ ?_ CA r hsp) fun res s' hq => ?_)
  · rw [hid_out hfn]; exact CH.fn
  · show hid cs H c' = some (CodeO c' qual)
    rw [hid_out hco]; exact CH.co
  cases res with
  | error e => exact hq.elim
  | ok fl =>
    cases fl with
    | next => exact False.elim hq
    | brk => exact False.elim hq
    | cont => exact False.elim hq
    | ret u =>
      obtain ⟨v, H', os, bare, un, hok', rv, l, rr⟩ := hq
      have hcs : ∀ b ∈ cs, H' b = none ∧ ∃ v, H b = some (CellO b v) ∧ ObjOk X.prog X.w (putB cs H H') s'.heap b (CellO b v) := fun b hb => by
        obtain ⟨v, e⟩ := hcell b hb
        obtain ⟨u, ru, o, ho, hd⟩ := cell_at I.hok e
        have n0 : hid cs H b = none := if_pos hb
        have nf : b ∉ frs X.stack := fun z => by
          have := E.frf b z
          rw [e] at this; cases this
        have ho' := un.keep b o ho n0 nf (by simp)
        refine ⟨un.free b o ho n0 (by simp), v, e, ⟨u, ru, o, ho', hd⟩, ⟨o, ho'⟩, ?_⟩
        rintro h1 h2 ⟨u, ru, o, ho, hd⟩ st
        exact ⟨u, ru, o, st o ho, hd⟩
      have up : ∀ b o, H' b = some o → putB cs H H' b = some o := fun b o e => by
        unfold putB
        rw [if_neg (fun z => by rw [(hcs b z).1] at e; cases e)]
        exact e
      have hokB : HOk X.prog X.w (putB cs H H') s'.heap := fun a o e => by
        by_cases ha : a ∈ cs
        · obtain ⟨_, v, e2, z⟩ := hcs a ha
          have e3 : putB cs H H' a = H a := if_pos ha
          rw [e3, e2] at e
          cases e
          exact z
        · have e3 : putB cs H H' a = H' a := if_neg ha
          rw [e3] at e
          exact objOk_of (fun b xs z => up b _ z) (fun b x z => up b _ z) (hok' a o e)
      have unB : Un (frs X.stack) [] H (putB cs H H') s.heap s'.heap := by
        have hn : ∀ b, H b = none → hid cs H b = none := fun b e => (hid_sub cs H).free e
        refine ⟨fun b o e n => un.keep b o e (hn b n), fun b o e n => un.slot b o e (hn b n), fun b o e n hx => ?_, un.there, fun b xs e => up b _ (un.tups b xs (keep b _ e (fun φ z => by cases z))), fun b o u e => up b _ (un.frzs b o u (keep b _ e (fun φ z => by cases z))), fun b ps e => ?_⟩
        · have hb : b ∉ cs := fun z => by
            obtain ⟨_, v, e2, _⟩ := hcs b z
            rw [n] at e2; cases e2
          show putB cs H H' b = none
          unfold putB
          rw [if_neg hb]
          exact un.free b o e (hn b n) hx
        · obtain ⟨more, z⟩ := un.tbls b ps (keep b _ e (fun φ z => by cases z))
          exact ⟨more, up b _ z⟩
      have lB : Le T H (putB cs H H') := by
        refine ⟨fun b o e n => ?_, fun _ => (l.tb ok0.tabs).ext up, fun b e => ?_⟩
        · by_cases hb : b ∈ cs
          · show putB cs H H' b = some o
            unfold putB
            rw [if_pos hb]; exact e
          · exact up b o (l.ex b o ((hid_out hb).trans e) n)
        · by_cases hb : b ∈ cs
          · unfold putB at e
            rw [if_pos hb] at e; exact e
          · unfold putB at e
            rw [if_neg hb] at e
            have := l.dm b e
            rw [hid_out hb] at this
            exact this
      refine I.after ⟨v, putB cs H H', os, bare, unB, hokB, rv, q v _ lB (R.mono (hid_ext (extN_same up)) rr)⟩
theorem he_clo (F : CloOk X.prog X.w X.K X.mg X.base T st name qual ps fr k S) (hr : Room k X.A) (hg : HasE X T G g (CloR st name qual fr Ws)) (ha : HasA X T G (e :: es) Rs) (hcl : ∀ R ∈ Rs, R.Clean) (hS : S Rs Ws R)
    (ht : eval (.Call g (e :: es) [] pos) X.env = (do let cal ← eval g X.env; callWith pos cal [] (backTo pos (starEach (e :: es) X.env)) (backToKw pos (keywordEach [] X.env))) := by rfl)
    (hst : starEach (e :: es) X.env = (false, eval e X.env) :: starEach es X.env := by rfl) (hpl : (backTo pos (starEach es X.env)).any (·.1) = false := by rfl) : HasE X T G (.Call g (e :: es) [] pos) R := by
  obtain ⟨tg, pg, yg⟩ := hg
  obtain ⟨ta, pa, ya⟩ := ha
  refine ⟨fun σ H Q => tg σ H fun v H1 => (∃ f F, v = .ref f ∧ H1 f = some (FnO f F)) ∧ ta σ H1 fun vs H2 => ∃ O, (CloR st name qual fr Ws).R v (hid O H2) ∧ Okh T O H2 ∧ Holds Rs vs (hid O H2) ∧ ∀ v' H', Le T H2 H' → R.R v' (hid O H') → Q v' H', ⟨fun pins s σ H Q I h => ?_⟩, fun O σ H ok hE Q q => ?_⟩
  · rw [ht]
    refine wpAny_bind (thn (pg.run pins s σ H _ I h) fun u1 s1 ⟨x1, H1, I1, rx, ⟨f, F', ex, ef⟩, q1⟩ => ?_)
    have ex' := ex
    subst ex
    obtain rfl : u1 = Value.ref f := rx
    refine PySem.W.callWith_F (first := []) (fnAt_of I1 ef) (thn (pa.run pos pins s1 σ H1 _ I1 q1) fun us s2 ⟨vs, H2, I2, rr, O, rC, ok, hh, q2⟩ => ?_) hst hpl
    refine ⟨?_, ?_⟩
    · obtain ⟨f2, c', cl, cs, ws, e2, C, _⟩ := id rC
      cases e2
      exact fnAt_of I2 (hid_sub _ _ _ _ C.fn)
    · exact run_clo F hr I2 (v0 := .ref f) rfl rC ok hcl hh hS rr q2
  · refine yg O σ H ok hE _ fun v H1 l1 r1 => ⟨?_, ya O σ H1 (ok.le l1) (hE.mono (hid_ext l1.ex)) _ fun vs H2 l2 hh => ⟨O, Rp.mono _ (hid_ext l2.ex) r1, (ok.le l1).le l2, hh, fun v' H' l3 r3 => q v' H' ((l1.trans l2).trans l3) r3⟩⟩
    obtain ⟨f2, c', cl, cs, ws, e2, C, _⟩ := r1
    exact ⟨f2, _, e2, hid_sub _ _ _ _ C.fn⟩
end
/-! ### a def that hands such a function back -/
/-- a def of the top whose code object is at c -/
structure FnC (K : PySem.W.Frag) (x qual : Str) (st : Stmt) (c : Addr) (f : Addr) (fd : FuncData) : Prop where
  ex : ∃ (oc : Value) (od : Option Addr) (kV doc pm : Value) (an : Option Addr) (ct : Value) (osl : Array (Option Value)),
    fd = PySem.W.fnOf x qual (defArgs st) (defBody st) (defScope st) .none kV doc pm an (.ref c) ct ∧ K.lookup f = some ⟨oc, od, .func fd, osl⟩ ∧ PySem.W.codeIn K (.ref c) qual = true
  kp : PySem.W.keepIn K (.ref f) = true
structure TFC (K : PySem.W.Frag) (mg : Str → Option Value) (x : Str) (st : Stmt) (c : Addr) : Prop where
  ex : ∃ f fd, mg x = some (.ref f) ∧ FnC K x x st c f fd
/-- the block ends by a return, behind which more is tracked -/
def EndR (X : Cx) (T : List NTab) (G : Ctx) (sts : List Stmt) (R : Rp) : Prop := ∀ (O : List Addr) (σ : L2.St) (H : Hp) (pins : List (Addr × Obj)) (s : Shared), Okh T O H → Env G σ (hid O H) → Inv X pins σ H s →
  wpAny (model X.prog X.w) X.A (execs sts X.env) (fun fl s' => ∃ u v H' H2 σ', fl = .ret u ∧ RelV v u ∧ Inv X pins σ' H' s' ∧ Le T H H2 ∧ R.R v (hid O H2) ∧ HOk X.prog X.w H2 s'.heap ∧ ∀ b, H2 b ≠ H' b → H' b = none ∧ X.s_0.heap.objs.size ≤ b) X.xe s
section
variable {X : Cx} {T : List NTab} {G G' : Ctx} {st : Stmt} {rest : List Stmt} {R : Rp}
theorem er_cons (h : NxtP X T G st G') (g : EndR X T G' rest R) : EndR X T G (st :: rest) R := by
  intro O σ H pins s ok he I
  obtain ⟨t, p, y⟩ := h
  refine wpAny_execs_cons (thn (p.run pins s σ H { nx := fun σ' H' => Le T H H' ∧ Env G' σ' (hid O H'), rt := fun _ _ => False, bk := fun _ _ => False, ct := fun _ _ => False } I (y O σ H ok he _ fun σ' H' l e => ⟨l, e⟩)) fun fl s1 q => ?_)
  cases fl with
  | next =>
    obtain ⟨σ', H', I', l, e⟩ := q
    refine thn (g O σ' H' pins s1 (ok.le l) e I') fun fl s2 ⟨u, v, H3, H2, σ3, e1, rv, I3, l2, r, ho, hn⟩ => ⟨u, v, H3, H2, σ3, e1, rv, I3, l.trans l2, r, ho, hn⟩
  | ret u =>
    obtain ⟨_, _, _, _, _, z⟩ := q
    exact z.elim
  | brk =>
    obtain ⟨_, _, _, z⟩ := q
    exact z.elim
  | cont =>
    obtain ⟨_, _, _, z⟩ := q
    exact z.elim
end
section
variable {P : Program} {w : World} {K : PySem.W.Frag} {mg : Str → Option Value} {base : Heap} {T : List NTab} {x qual : Str} {st : Stmt} {f c : Addr} {fd : FuncData} {N ps : List Str} {k : Nat} {S : List Rp → Rp → Prop}
theorem fc_typed (F : FnC K x qual st c f fd) (sc : FnScope N ps (defScope st)) (hl : ∀ Rs R, S Rs R → Rs.length = ps.length) (hb : ∀ (kV doc pm : Value) (an : Option Addr) (cdv ct : Value) (us : List Value), us.length = ps.length → bindArgs (PySem.W.fnOf x qual (defArgs st) (defBody st) (defScope st) .none kV doc pm an cdv ct) ⟨us, []⟩ = pure (ps.zip us))
    (h : ∀ Rs R, S Rs R → ∀ (A : Around) (outer : List PySem.Env) (s : Shared) (H : Hp) (E : XK), Room k (A.deeper (envOfC qual (defScope st) s.heap.objs.size f (.ref c))) →
      EndR (cxOf CX0 P w K mg base N qual (defScope st) f (.ref c) A outer s H E) T (ctx0 N Rs) (defBody st) R) : FnOk P w K mg base CX0 (k + 1) f fd ps (spT T S) ∧ Binds K fd ps [] := by
  obtain ⟨oc, od, kV, doc, pm, an, ct, osl, rfl, lk, hcd⟩ := F.ex
  refine ⟨⟨fun vs H Q E ⟨Rs, R, O, hS, _, hh, _⟩ => hh.length.trans (hl Rs R hS), fun A outer s H args us vs Q E hr e0 hbt r hsp => ?_⟩, .all (hb kV doc pm an (.ref c) ct)⟩
  obtain ⟨Rs, R, O, hS, okh, hh, hq⟩ := hsp
  have hlen : vs.length = ps.length := hh.length.trans (hl Rs R hS)
  have KX : K.In s.heap := e0.mod.kin.keeps fun b o e => (e0.bs b o e).1
  have lim : s.heap.NoLimit := e0.mod.nolimit.keeps fun b o e => (e0.bs b o e).1
  have hkind : ∀ y ∈ ps.zip us, (defScope st).names.lookup y.1 = some .local ∨ ((defScope st).names.lookup y.1 = some .cell ∧ ((cellsFrom (s.heap.objs.size + 1) (defScope st).names []).lookup y.1).isSome = true) := fun ⟨n, v⟩ hy => by
    rcases sc.par n (List.of_mem_zip hy).1 with q | q
    · exact .inl q
    · exact .inr ⟨q, PySem.W.cellsFrom_some _ _ _ (.inl q)⟩
  refine codeAny_call_function hr.depth (KX _ _ lk) rfl sc.co sc.gen rfl (PySem.W.codeRec_of KX hcd) (hbt _ _ _ _ ?_)
  refine wpAny_newFunctionEnv_cells sc.kind hkind fun env he s1 y => ?_
  subst he
  refine ⟨lim.keeps y.toInCall.keep, codeAny_func ?_⟩
  have I : Inv (cxOf CX0 P w K mg base N qual (defScope st) f (.ref c) A outer s H E) [] (L2.start N vs) H s1 := inv_start sc hr.hd e0 hlen r y
  refine wpAny_mono (h Rs R hS A outer s H E (hr.deeper _) O (L2.start N vs) H [] s1 okh (env_start hh) I) (fun fl s' hs => ?_) fun e s' hs => hs
  obtain ⟨u, v, H', H2, σ', rfl, rv, J, l, rr, ho, hn⟩ := hs
  refine ⟨v, H2, J.os, J.bare, ?_, ho, rv, hq v H2 l rr⟩
  have un := J.base
  have same : ∀ b o, H' b = some o → H2 b = some o := fun b o e => by
    by_cases z : H2 b = H' b
    · rw [z]; exact e
    · have := (hn b z).1
      rw [e] at this; cases this
  refine ⟨un.keep, un.slot, fun b o e n hx => ?_, un.there, fun b xs e => same b _ (un.tups b xs e), fun b o u e => same b _ (un.frzs b o u e), fun b ps e => let ⟨m, z⟩ := un.tbls b ps e; ⟨m, same b _ z⟩⟩
  by_cases z : H2 b = H' b
  · rw [z]; exact un.free b o e n hx
  · have q := (hn b z).2
    have q2 := Heap.lt_size e
    exact absurd q (Nat.not_le_of_lt q2)
end
/-- the function that a def has just made -/
def FnR (st : Stmt) (name qual : Str) (cl : List (Str × Addr)) : Rp :=
  ⟨fun v H => ∃ f c', v = .ref f ∧ H f = some (FnO f (NF.of st name qual cl c')) ∧ H c' = some (CodeO c' qual), fun {v H H'} e ⟨f, c', e1, h, g⟩ => ⟨f, c', e1, e _ _ h fnO_ne, e _ _ g (by intro ps z; cases z)⟩⟩
section
variable {X : Cx} {T : List NTab} {G : Ctx} {st : Stmt} {name qual : Str} {pos : Pos} {fr : List Str} {js : List Nat} {Ws : List Rp}
theorem np_ndef (i : Nat) {nm : Nat → Nat → Str} {c P : Addr} (hst : st = .FunctionDef name (C8.fnArgs st) (C8.fnBody st) [] none [] (C8.fnScope st) none name pos) (TB : TabB X.base X.mg c P) (hcode : X.env.code = .ref c) (hm : (P, nm) ∈ T) (hn : nm pos.line pos.col = X.env.qual ++ name)
    (hu : ∀ p ∈ T, p.1 = P → p.2 = nm) (hfree : ∀ y ∈ (C8.fnScope st).names, y.2 = .free → X.env.scope.names.lookup y.1 = some .cell ∨ X.env.scope.names.lookup y.1 = some .free) (hd0 : (C8.fnArgs st).defaults = []) (hk0 : (C8.fnArgs st).kw_defaults = []) (ha : annTrees (C8.fnArgs st) none X.env = [])
    (hN : X.N.Nodup) (hi : X.N[i]? = some name) (hx : Loc X.env.scope name) (hf : X.fn name = true ∨ X.env.scope.names.lookup name = some .local) :
    NxtP X T G st (G.set i (some (FnR st name (X.env.qual ++ name) (cloFrom X.env.cells (C8.fnScope st).names [])))) := by
  refine ⟨_, ps_ndefMS hst TB hcode hm hn hu hfree hd0 hk0 ha hN hi hx hf, fun O σ H ok he D q => ⟨ok.tabs, fun f c' H1 ex dm tb f0 f1 c1 => ?_⟩⟩
  have l : Le T H H1 := ⟨ex, fun _ => tb, dm⟩
  refine q _ H1 l ((he.mono (hid_ext l.ex)).set ⟨f, c', rfl, ?_, ?_⟩)
  · rw [hid_out (ok.nin f0)]; exact f1
  · rw [hid_out]
    · exact c1
    · intro z
      obtain ⟨o, e, _, n2⟩ := (ok.le l).pl c' z
      rw [c1] at e
      cases e
      exact n2 _ rfl
theorem env_slots {σ : L2.St} {H : Hp} (he : Env G σ H) : ∀ {js : List Nat} {Ws : List Rp}, js.map (fun j => G[j]?) = Ws.map (fun R => some (some R)) → ∃ ws, js.map (slotAt σ) = ws.map some ∧ Holds Ws ws H
  | [], [], _ => ⟨[], rfl, trivial⟩
  | j :: js, R :: Ws, h => by
    have h1 : G[j]? = some (some R) := by simpa using (List.cons.inj h).1
    obtain ⟨ws, e1, e2⟩ := env_slots he (js := js) (Ws := Ws) (List.cons.inj h).2
    obtain ⟨v, a, b⟩ := he.2 j R h1
    exact ⟨v :: ws, by rw [List.map_cons, List.map_cons, e1, slotAt_of a], b, e2⟩
  | [], _ :: _, h => by cases h
  | _ :: _, [], h => by cases h
theorem er_ret (i : Nat) {x : Str} {p : Pos} (hG : G[i]? = some (some (FnR st name qual (cloFrom X.env.cells (C8.fnScope st).names [])))) (hjs : js.map (fun j => G[j]?) = Ws.map (fun R => some (some R))) (hnj : js.map (fun j => X.N[j]?) = fr.map some)
    (hfree : ∀ y ∈ (C8.fnScope st).names, y.2 = .free → X.env.scope.names.lookup y.1 = some .cell ∨ X.env.scope.names.lookup y.1 = some .free) (hfr : ∀ y ∈ fr, (y, NameKind.free) ∈ (C8.fnScope st).names) (hfr2 : ∀ y ∈ (C8.fnScope st).names, y.2 = .free → y.1 ∈ fr) (hnd : fr.Nodup) (hfn : ∀ y, X.fn y = true)
    (hN : X.N[i]? = some x := by rfl) (hv : Vis X.env.scope x := by first | exact Or.inl rfl | exact Or.inr (Or.inl rfl) | exact Or.inr (Or.inr rfl)) (hd : (x == ("__debug__" : Str)) = false := by decide) (hcd : (x == ("__classdict__" : Str)) = false := by decide) :
    EndR X T G [.Return (some (.Name x p)) pos] (CloR st name qual fr Ws) := by
  intro O σ H pins s ok he I
  obtain ⟨v, h1, f, c', rfl, hf, hc⟩ := he.2 i _ hG
  refine wpAny_execs_cons (wpAny_Return_some (thn ((pe_var (pos := p) hN hv hd hcd).run pins s σ H (fun v H1 => v = .ref f ∧ H1 = H) I ⟨.ref f, h1, rfl, rfl⟩) fun u s1 ⟨v, H1, I1, r1, ev, eH⟩ => ?_))
  subst ev
  subst eH
  have cap := Caps.made I1.ok hfree hfr hnj
  have C := cells_of I1 cap
  obtain ⟨ws, ew, hw⟩ := env_slots he hjs
  rw [ew] at C
  generalize hcl : cloFrom X.env.cells (C8.fnScope st).names [] = cl at *
  -- the cells
  let cs := fr.map fun y => (cl.lookup y).getD 0
  have hat : ∀ (j : Nat) y, fr[j]? = some y → ∃ c, cl.lookup y = some c ∧ cs[j]? = some c := fun j y e => by
    obtain ⟨c, hc, _⟩ := C.has j y e
    refine ⟨c, hc, ?_⟩
    show (fr.map fun y => (cl.lookup y).getD 0)[j]? = some c
    rw [List.getElem?_map, e]
    show some ((cl.lookup y).getD 0) = some c
    rw [hc]; rfl
  have hin : ∀ b ∈ cs, ∃ (j : Nat) (y : Str), fr[j]? = some y ∧ cl.lookup y = some b ∧ cs[j]? = some b := fun b hb => by
    obtain ⟨j, hj⟩ := List.mem_iff_getElem?.mp hb
    have hl := (List.getElem?_eq_some_iff.mp hj).1
    have hl2 : j < fr.length := by simpa [cs] using hl
    obtain ⟨c, e1, e2⟩ := hat j fr[j] (List.getElem?_eq_getElem hl2)
    rw [hj] at e2
    cases e2
    exact ⟨j, fr[j], List.getElem?_eq_getElem hl2, e1, hj⟩
  have hfree0 : ∀ b ∈ cs, H1 b = none := fun b hb => by
    obtain ⟨j, y, _, e, _⟩ := hin b hb
    exact (C.all y b e).1
  have lw : ws.length = fr.length := by have := C.len; rwa [List.length_map] at this
  have hcsn : cs.Nodup := by
    refine List.pairwise_iff_getElem.mpr fun a b ha' hb0 hab e => ?_
    have hb' : b < fr.length := by simpa [cs] using hb0
    have ha : a < fr.length := by omega
    obtain ⟨c1, e1, e2⟩ := hat a fr[a] (List.getElem?_eq_getElem ha)
    obtain ⟨c2, e3, e4⟩ := hat b fr[b] (List.getElem?_eq_getElem hb')
    rw [List.getElem?_eq_getElem ha'] at e2
    rw [List.getElem?_eq_getElem hb0, ← e, Option.some.inj e2] at e4
    cases e4
    have h3 := C.inj _ _ _ e1 e3
    have := (List.getElem_inj hnd).mp h3
    omega
  -- each cell's value
  let At : Addr → V → Prop := fun b v => ∃ j : Nat, cs[j]? = some b ∧ ws[j]? = some v
  have at1 : ∀ {b v v'}, At b v → At b v' → v = v' := fun {b v v'} ⟨j, a1, a2⟩ ⟨j', b1, b2⟩ => by
    have hl := (List.getElem?_eq_some_iff.mp a1).1
    have : j = j' := (List.getElem?_inj hl hcsn).mp (a1.trans b1.symm)
    subst this
    exact Option.some.inj (a2.symm.trans b2)
  have at2 : ∀ {b}, b ∈ cs → ∃ v, At b v := fun {b} hb => by
    obtain ⟨j, y, e1, _, e3⟩ := hin b hb
    have hl := (List.getElem?_eq_some_iff.mp e1).1
    exact ⟨ws[j]'(by omega), j, e3, List.getElem?_eq_getElem (by omega)⟩
  have at3 : ∀ {b v}, At b v → b ∈ cs := fun {b v} ⟨j, a1, _⟩ => List.mem_of_getElem? a1
  classical
  let H2 : Hp := fun b => if h : ∃ v, At b v then some (CellO b (Classical.choose h)) else H1 b
  have h2c : ∀ {b v}, At b v → H2 b = some (CellO b v) := fun {b v} a => by
    have h : ∃ v, At b v := ⟨v, a⟩
    show (if h : ∃ v, At b v then some (CellO b (Classical.choose h)) else H1 b) = _
    rw [dif_pos h, at1 (Classical.choose_spec h) a]
  have h2n : ∀ {b}, b ∉ cs → H2 b = H1 b := fun {b} hb => by
    show (if h : ∃ v, At b v then some (CellO b (Classical.choose h)) else H1 b) = _
    rw [dif_neg (fun ⟨v, a⟩ => hb (at3 a))]
  have up : ∀ b o, H1 b = some o → H2 b = some o := fun b o e => by
    rw [h2n (fun z => by rw [hfree0 b z] at e; cases e)]
    exact e
  have hval : ∀ {b v}, At b v → ObjOk X.prog X.w H2 s1.heap b (CellO b v) := fun {b v} ⟨j, a1, a2⟩ => by
    obtain ⟨j', y, e1, e2, e3⟩ := hin b (List.mem_of_getElem? a1)
    have hl := (List.getElem?_eq_some_iff.mp a1).1
    have : j = j' := (List.getElem?_inj hl hcsn).mp (a1.trans e3.symm)
    subst this
    obtain ⟨c, hc, hv⟩ := C.has j y e1
    rw [e2] at hc
    cases hc
    obtain ⟨u, ru, o, ho, hd⟩ := hv v (by rw [List.getElem?_map, a2]; rfl)
    refine ⟨⟨u, ru, o, ho, hd⟩, ⟨o, ho⟩, ?_⟩
    rintro h1 h2 ⟨u, ru, o, ho, hd⟩ st
    exact ⟨u, ru, o, st o ho, hd⟩
  have hO : ∀ b ∈ cs, b ∉ O := fun b hb z => by
    obtain ⟨o, e, _⟩ := ok.pl b z
    rw [hfree0 b hb] at e; cases e
  have l : Le T H1 H2 := ⟨fun b o e _ => up b o e, fun t => t.ext up, fun b e => by
    by_cases hb : b ∈ cs
    · exact hfree0 b hb
    · rw [← h2n hb]; exact e⟩
  have lO : ExtN (hid O H1) (hid O H2) := hid_ext l.ex
  refine ⟨_, .ref f, H1, H2, σ, rfl, r1, I1, l, ⟨f, c', cl, cs, ws, rfl, ⟨lO _ _ hf fnO_ne, lO _ _ hc (by intro ps z; cases z), by simp [cs], lw, fun y c e => ?_, fun j y c e1 e2 => ?_, fun j c v e1 e2 => ?_, hcsn⟩, hw.mono fun b o e n => ?_⟩, fun a o e => ?_, fun b hb => ?_⟩
  · have hm : y ∈ fr := by
      rw [← hcl] at e
      rcases cloFrom_mem (PySem.mem_of_lookup e) with hm | ⟨h1, _⟩
      · cases hm
      · exact hfr2 _ h1 rfl
    obtain ⟨j, hj⟩ := List.mem_iff_getElem?.mp hm
    obtain ⟨c2, e1, e2⟩ := hat j y hj
    rw [e] at e1
    cases e1
    exact ⟨j, hj, e2⟩
  · obtain ⟨c2, e3, e4⟩ := hat j y e1
    rw [e2] at e4
    cases e4
    exact e3
  · have hm : c ∈ cs := List.mem_of_getElem? e1
    rw [hid_out (hO c hm)]
    exact h2c ⟨j, e1, e2⟩
  · have e1 := hid_sub O H1 _ _ e
    have nb : b ∉ cs := fun z => by rw [hfree0 b z] at e1; cases e1
    have nO : b ∉ O := fun z => by
      unfold hid at e
      rw [if_pos z] at e; cases e
    rw [hid_out nb, hid_out nO]
    exact up b o e1
  · by_cases ha : a ∈ cs
    · obtain ⟨v, av⟩ := at2 ha
      rw [h2c av] at e
      cases e
      exact hval av
    · rw [h2n ha] at e
      exact objOk_of (fun b xs z => up b _ z) (fun b x z => up b _ z) (I1.hok a o e)
  · have hm : b ∈ cs := by
      by_cases z : b ∈ cs
      · exact z
      · exact absurd (h2n z) hb
    refine ⟨hfree0 b hm, ?_⟩
    obtain ⟨j, y, _, e, _⟩ := hin b hm
    exact I1.ok.cab y b (hfn y) (cap.sub y b e)
end
end Rl

set_option Elab.async false
set_option linter.all false
set_option maxRecDepth 100000
set_option maxHeartbeats 4000000
/-! Typed readings 7: something there is; lists that change. -/
namespace Rl
open PySem PySem.Spec PyProof.Rows L2 NdefX LamX
/-! ### one of many -/
universe u1
def ExR {α : Sort u1} (f : α → Rp) : Rp := ⟨fun v H => ∃ a, (f a).R v H, fun e ⟨a, h⟩ => ⟨a, (f a).mono e h⟩⟩
theorem ExR.le {α : Sort u1} {f : α → Rp} (a : α) : (f a).le (ExR f) := fun _ _ h => ⟨a, h⟩
theorem env_open {α : Sort u1} {f : α → Rp} {G : Ctx} {i : Nat} {σ : L2.St} {H : Hp} (hG : G[i]? = some (some (ExR f))) (he : Env G σ H) : ∃ a, Env (G.set i (some (f a))) σ H := by
  obtain ⟨v, h1, a, h2⟩ := he.2 i _ hG
  refine ⟨a, ?_⟩
  have := he.set (i := i) (R := f a) (v := v) h2
  have e : σ.set i (some v) = σ := by
    apply List.ext_getElem?
    intro j
    by_cases c : j = i
    · subst c
      rw [List.getElem?_set_self (List.getElem?_eq_some_iff.mp h1).1, h1]
    · rw [List.getElem?_set_ne (Ne.symm c)]
  rwa [e] at this
section
variable {X : Cx} {T : List NTab} {G G' : Ctx} {sts : List Stmt} {R : Rp} {α : Sort u1} {f : α → Rp} {e : Expr}
theorem rs_open (i : Nat) (hG : G[i]? = some (some (ExR f))) (h : ∀ a, RetS X T (G.set i (some (f a))) sts R) : RetS X T G sts R :=
  ⟨_, pss_max, fun O σ H ok he D q => by
    obtain ⟨a, he'⟩ := env_open hG he
    obtain ⟨t, p, y⟩ := h a
    exact ⟨t, p, y O σ H ok he' D q⟩⟩
theorem ns_open (i : Nat) (hG : G[i]? = some (some (ExR f))) (h : ∀ a, NxtS X T (G.set i (some (f a))) sts G') : NxtS X T G sts G' :=
  ⟨_, pss_max, fun O σ H ok he D q => by
    obtain ⟨a, he'⟩ := env_open hG he
    obtain ⟨t, p, y⟩ := h a
    exact ⟨t, p, y O σ H ok he' D q⟩⟩
def tMaxE (X : Cx) (e : Expr) : TE := fun σ H Q => ∃ t, PE X e t ∧ t σ H Q
theorem pe_max : PE X e (tMaxE X e) := ⟨fun pins s σ H Q I ⟨t, p, h⟩ => p.run pins s σ H Q I h⟩
theorem he_open (i : Nat) (hG : G[i]? = some (some (ExR f))) (h : ∀ a, HasE X T (G.set i (some (f a))) e R) : HasE X T G e R :=
  ⟨_, pe_max, fun O σ H ok he Q q => by
    obtain ⟨a, he'⟩ := env_open hG he
    obtain ⟨t, p, y⟩ := h a
    exact ⟨t, p, y O σ H ok he' Q q⟩⟩
end
theorem holds_ex {α : Type u1} {f : α → Rp} : ∀ {n : Nat} {vs : List V} {H : Hp}, Holds (List.replicate n (ExR f)) vs H → ∃ as : List α, as.length = n ∧ Holds (as.map f) vs H
  | 0, [], _, _ => ⟨[], rfl, trivial⟩
  | n + 1, v :: vs, H, h => by
    obtain ⟨a, ha⟩ := h.1
    obtain ⟨as, hl, hh⟩ := holds_ex (n := n) h.2
    exact ⟨a :: as, by rw [List.length_cons, hl], ha, hh⟩
  | 0, _ :: _, _, h => h.elim
  | n + 1, [], _, h => h.elim
theorem lstR_ex {α : Type u1} {f : α → Rp} {n : Nat} : (LstR (List.replicate n (ExR f))).le (ExR fun as : { as : List α // as.length = n } => LstR (as.1.map f)) := fun v H ⟨p, xs, e1, e2, h⟩ => by
  obtain ⟨as, hl, hh⟩ := holds_ex h
  exact ⟨⟨as, hl⟩, p, xs, e1, e2, hh⟩
/-! ### a list that changes -/
/-- the list at D -/
def LstD (D : Addr) (Rs : List Rp) : Rp := ⟨fun v H => v = .ref D ∧ ∃ xs, H D = some (.lst xs) ∧ Holds Rs xs H, fun e ⟨e1, xs, h, g⟩ => ⟨e1, xs, e _ _ h (by intro ps z; cases z), g.mono e⟩⟩
theorem LstD.le {D : Addr} {Rs : List Rp} : (LstD D Rs).le (LstR Rs) := fun v H ⟨e, xs, h, g⟩ => ⟨D, xs, e, h, g⟩
/-- what no list tells -/
def Rp.Lf (R : Rp) : Prop := ∀ v H D xs, H D = some (.lst xs) → R.R v H → R.R v (hid [D] H)
theorem hid1 {D : Addr} {H : Hp} {xs : List V} {b : Addr} {o : HO} (hD : H D = some (.lst xs)) (e : H b = some o) (n : ∀ xs, o ≠ .lst xs) : hid [D] H b = some o := by
  rw [hid_out]
  · exact e
  · intro z
    rw [List.mem_singleton] at z
    subst z
    rw [hD] at e
    exact n xs (Option.some.inj e).symm
theorem lf_is (x : V) : (IsR x).Lf := fun _ _ _ _ _ h => h
theorem lf_any : AnyR.Lf := fun _ _ _ _ _ h => h
theorem lf_obj {C : Addr} {Fs : List (Str × Rp)} (h : ∀ p ∈ Fs, p.2.Lf) : (ObjR C Fs).Lf := by
  have fh : ∀ (Fs : List (Str × Rp)) (gs : List (Str × V)) (H : Hp) (D : Addr) (xs : List V), H D = some (.lst xs) → (∀ p ∈ Fs, p.2.Lf) → FH Fs gs H → FH Fs gs (hid [D] H) := by
    intro Fs
    induction Fs with
    | nil => intro gs H D xs hc h g; cases gs with
      | nil => trivial
      | cons => exact g.elim
    | cons F Fs ih => intro gs H D xs hc h g; cases gs with
      | nil => exact g.elim
      | cons q gs => exact ⟨g.1, h F List.mem_cons_self _ _ _ _ hc g.2.1, ih gs H D xs hc (fun p hp => h p (List.mem_cons_of_mem _ hp)) g.2.2⟩
  exact fun v H D xs hc ⟨a, dx, gs, e1, e2, e3⟩ => ⟨a, dx, gs, e1, hid1 hc e2 (fun φ z => by cases z), fh Fs gs H D xs hc h e3⟩
theorem lf_ex {α : Sort u1} {f : α → Rp} (h : ∀ a, (f a).Lf) : (ExR f).Lf := fun v H D xs hc ⟨a, r⟩ => ⟨a, h a v H D xs hc r⟩
theorem holds_lf : ∀ {Rs : List Rp} {vs : List V} {H : Hp} {D : Addr} {xs : List V}, H D = some (.lst xs) → (∀ R ∈ Rs, R.Lf) → Holds Rs vs H → Holds Rs vs (hid [D] H)
  | [], [], _, _, _, _, _, _ => trivial
  | R :: Rs, v :: vs, H, D, xs, hc, h, g => ⟨h R List.mem_cons_self _ _ _ _ hc g.1, holds_lf hc (fun R hR => h R (List.mem_cons_of_mem _ hR)) g.2⟩
  | [], _ :: _, _, _, _, _, _, g => g.elim
  | _ :: _, [], _, _, _, _, _, g => g.elim
theorem hid1_upd {D : Addr} {H : Hp} {o : HO} : ExtN (hid [D] H) (upd H D o) := fun b u e n => by
  have hb : b ≠ D := fun z => by
    subst z
    unfold hid at e
    rw [if_pos (by simp)] at e; cases e
  rw [upd_ne hb]
  exact hid_sub _ _ _ _ e
/-- a step of a block that may change the list at D, new since H0 -/
def NxtM (D : Addr) (X : Cx) (T : List NTab) (G : Ctx) (sts : List Stmt) (G' : Ctx) : Prop :=
  ∃ t, PSs X sts t ∧ ∀ O σ H H0, Okh T O H0 → Le T H0 H → H0 D = none → Env G σ (hid O H) → ∀ Dn : Ends, (∀ σ' H', Le T H0 H' → Env G' σ' (hid O H') → Dn.nx σ' H') → t Dn σ H
def NmP (D : Addr) (X : Cx) (T : List NTab) (G : Ctx) (st : Stmt) (G' : Ctx) : Prop :=
  ∃ t, PS X st t ∧ ∀ O σ H H0, Okh T O H0 → Le T H0 H → H0 D = none → Env G σ (hid O H) → ∀ Dn : Ends, (∀ σ' H', Le T H0 H' → Env G' σ' (hid O H') → Dn.nx σ' H') → t Dn σ H
section
variable {X : Cx} {T : List NTab} {G G' G'' : Ctx} {st : Stmt} {sts sts2 rest body : List Stmt} {R : Rp} {Ls : List Rp} {D : Addr} {e o a c tg iter elt : Expr} {pos p2 apos : Pos}
theorem nm_of (h : NxtS X T G sts G') : NxtM D X T G sts G' := by
  obtain ⟨t, p, y⟩ := h
  exact ⟨t, p, fun O σ H H0 ok l hD he Dn q => y O σ H (ok.le l) he Dn fun σ' H' l' e' => q σ' H' (l.trans l') e'⟩
theorem mp_of (h : NxtP X T G st G') : NmP D X T G st G' := by
  obtain ⟨t, p, y⟩ := h
  exact ⟨t, p, fun O σ H H0 ok l hD he Dn q => y O σ H (ok.le l) he Dn fun σ' H' l' e' => q σ' H' (l.trans l') e'⟩
theorem nm_nil : NxtM D X T G [] G := nm_of ns_nil
theorem nm_cons (h : NmP D X T G st G') (g : NxtM D X T G' rest G'') : NxtM D X T G (st :: rest) G'' := by
  obtain ⟨t, p, y⟩ := h
  obtain ⟨u, p', y'⟩ := g
  exact ⟨_, pss_cons p p', fun O σ H H0 ok l hD he Dn q => y O σ H H0 ok l hD he _ fun σ' H' l' e' => y' O σ' H' H0 ok l' hD e' Dn q⟩
theorem nm_one (h : NmP D X T G st G') : NxtM D X T G [st] G' := let ⟨t, p, y⟩ := h; ⟨t, pss_one p, y⟩
theorem nm_open {α : Sort u1} {f : α → Rp} (i : Nat) (hG : G[i]? = some (some (ExR f))) (h : ∀ a, NxtM D X T (G.set i (some (f a))) sts G') : NxtM D X T G sts G' :=
  ⟨_, pss_max, fun O σ H H0 ok l hD he Dn q => by
    obtain ⟨a, he'⟩ := env_open hG he
    obtain ⟨t, p, y⟩ := h a
    exact ⟨t, p, y O σ H H0 ok l hD he' Dn q⟩⟩
theorem nm_weak (h : NxtM D X T G sts G') (hl : G''.length = G'.length) (w : ∀ (i : Nat) (R : Rp), G''[i]? = some (some R) → ∃ R', G'[i]? = some (some R') ∧ R'.le R) : NxtM D X T G sts G'' := by
  obtain ⟨t, p, y⟩ := h
  exact ⟨t, p, fun O σ H H0 ok l hD he Dn q => y O σ H H0 ok l hD he Dn fun σ' H' l' e' => q σ' H' l' (e'.weak hl w)⟩
theorem mp_ifT (h : HasT X T G c true) (g : NxtM D X T G sts G') : NmP D X T G (.If c sts sts2 pos) G' := by
  obtain ⟨t, p, y⟩ := h
  obtain ⟨u, p', y'⟩ := g
  exact ⟨_, ps_if p p' pss_never, fun O σ H H0 ok l hD he Dn q => y O σ H (ok.le l) he _ fun H' l1 => iteT (y' O σ H' H0 ok (l.trans l1) hD (he.mono (hid_ext l1.ex)) Dn q)⟩
/-- other names only: all but the list's tell no list -/
def LfBut (G : Ctx) (i : Nat) : Prop := ∀ (j : Nat) (R : Rp), j ≠ i → G[j]? = some (some R) → R.Lf
theorem env_list {i : Nat} {σ : L2.St} {O : List Addr} {H : Hp} {xs ys : List V} {Ms : List Rp} (he : Env G σ (hid O H)) (hi : G[i]? = some (some (LstD D Ls))) (hf : LfBut G i) (hD : H D = some (.lst xs)) (nO : D ∉ O) (hys : Holds Ms ys (hid [D] (hid O H))) :
    Env (G.set i (some (LstD D Ms))) σ (hid O (upd H D (.lst ys))) := by
  have hDO : hid O H D = some (.lst xs) := (hid_out nO).trans hD
  have up : ExtN (hid [D] (hid O H)) (hid O (upd H D (.lst ys))) := fun b u e n => by
    have hb : b ≠ D := fun z => by
      subst z
      unfold hid at e
      rw [if_pos (by simp)] at e; cases e
    have e1 := hid_sub _ _ _ _ e
    have nb : b ∉ O := fun z => by
      unfold hid at e1
      rw [if_pos z] at e1; cases e1
    rw [hid_out nb, upd_ne hb]
    exact hid_sub _ _ _ _ e1
  refine ⟨by rw [List.length_set]; exact he.1, fun j R q => ?_⟩
  by_cases c : j = i
  · subst c
    have hl := (List.getElem?_eq_some_iff.mp hi).1
    rw [List.getElem?_set_self hl] at q
    cases q
    obtain ⟨v, h1, e1, _⟩ := he.2 j _ hi
    exact ⟨v, h1, e1, ys, (hid_out nO).trans upd_same, hys.mono up⟩
  · rw [List.getElem?_set_ne (Ne.symm c)] at q
    obtain ⟨v, h1, h2⟩ := he.2 j R q
    exact ⟨v, h1, R.mono up (hf j R c q _ _ D xs hDO h2)⟩
theorem le_upd {H0 H : Hp} {xs ys : List V} (l : Le T H0 H) (hD0 : H0 D = none) (hD : H D = some (.lst xs)) : Le T H0 (upd H D (.lst ys)) := by
  refine ⟨fun b o e n => ?_, fun t p hp => ?_, fun b e => ?_⟩
  · rw [upd_ne (ne_of_none e hD0)]
    exact l.ex b o e n
  · obtain ⟨ps, t1, t2, t3⟩ := l.tb t p hp
    refine ⟨ps, ?_, t2, fun pos cv hc => ?_⟩
    · rw [upd_ne (fun z => by rw [z, hD] at t1; cases t1)]; exact t1
    · obtain ⟨c, c1, c2⟩ := t3 pos cv hc
      exact ⟨c, c1, by rw [upd_ne (fun z => by rw [z, hD] at c2; cases c2)]; exact c2⟩
  · by_cases hb : b = D
    · rw [hb]; exact hD0
    · rw [upd_ne hb] at e
      exact l.dm b e
/-- xs.append(e) -/
theorem mp_append (i : Nat) {x : Str} {xp : Pos} (hi : G[i]? = some (some (LstD D Ls))) (hf : LfBut G i) (he : HasE X T G e R) (hR : R.Lf) (hLs : ∀ L ∈ Ls, L.Lf) (hz : Ls.length < sizeLine) (hN : X.N[i]? = some x := by rfl) (hv : Vis X.env.scope x := by first | exact Or.inl rfl | exact Or.inr (Or.inl rfl) | exact Or.inr (Or.inr rfl)) (hd : (x == ("__debug__" : Str)) = false := by decide) (hcd : (x == ("__classdict__" : Str)) = false := by decide)
    (hbase : attributeBase (.Name x xp) "append" X.env (eval (.Name x xp) X.env) = eval (.Name x xp) X.env := by rfl)
    (hfew : ((backTo p2 (starEach [e] X.env)).all (fun x => !x.1) && (backToKw p2 (keywordEach [] X.env)).all (fun x => x.1.isSome)
      && decide ([e].length + ([] : List Keyword).length + (if ([] : List Keyword).isEmpty then 0 else 1) < 30)) = true := by rfl)
    (hline : (apos.endLine == p2.line) = true := by rfl) (hs : starEach [e] X.env = (false, eval e X.env) :: starEach [] X.env := by rfl)
    (hsw : swapsWith (.Call (.Attribute (.Name x xp) "append" apos) [e] [] p2) none pos.line X.env = pure false := by rfl) :
    NmP D X T G (.Expr (.Call (.Attribute (.Name x xp) "append" apos) [e] [] p2) pos) (G.set i (some (LstD D (Ls ++ [R])))) := by
  obtain ⟨t, p, y⟩ := he
  refine ⟨_, ps_expr (pe_bm PySem.F.plainAttrs_list PySem.F.slot_list_append PySem.F.type_list_append mt_append (pe_var (i := i) hN hv hd hcd) (pa_cons p pa_nil hs) hbase hfew hline hs rfl) hsw, fun O σ H H0 ok l hD he Dn q => ?_⟩
  obtain ⟨v, h1, rfl, xs, h2, hh⟩ := he.2 i _ hi
  have nO : D ∉ O := ok.nin hD
  refine ⟨.ref D, h1, .inl ⟨rfl, xs, SqL.of (hid_sub _ _ _ _ h2)⟩, y O σ H (ok.le l) he _ fun u H1 l1 r1 => ?_⟩
  have l2 := l.trans l1
  have he1 := he.mono (hid_ext (O := O) l1.ex)
  have h2' : H1 D = some (.lst xs) := l1.ex _ _ (hid_sub _ _ _ _ h2) (by intro ps z; cases z)
  have h2O : hid O H1 D = some (.lst xs) := (hid_out nO).trans h2'
  have hh1 : Holds Ls xs (hid O H1) := hh.mono (hid_ext l1.ex)
  refine ⟨D, xs, u, rfl, rfl, h2', by rw [hh.length]; exact hz, q σ _ (le_upd l2 hD h2') ?_⟩
  exact env_list he1 hi hf h2' nO (holds_snoc (holds_lf h2O hLs hh1) (hR _ _ _ _ h2O r1))
/-- xs[k] = e -/
theorem mp_set (i : Nat) {x : Str} {xp ip : Pos} {ix : Expr} {k : Int} {j : Nat} (hi : G[i]? = some (some (LstD D Ls))) (hf : LfBut G i) (he : HasE X T G e R) (hR : R.Lf) (hLs : ∀ L ∈ Ls, L.Lf) (hx : HasE X T G ix (IntR k)) (hj : ixN Ls.length k = some j) (hN : X.N[i]? = some x := by rfl) (hv : Vis X.env.scope x := by first | exact Or.inl rfl | exact Or.inr (Or.inl rfl) | exact Or.inr (Or.inr rfl)) (hd : (x == ("__debug__" : Str)) = false := by decide) (hcd : (x == ("__classdict__" : Str)) = false := by decide)
    (ha : ∀ v, assign (.Subscript (.Name x xp) ix ip) X.env v = (do
      let ov ← holding [v] (eval (.Name x xp) X.env)
      let iv ← holding [v, ov] (eval ix X.env)
      standAt ip
      holding [v, ov, iv] (setItem ov iv v)
      release [v, ov, iv] []) := by intro _; rfl)
    (hs : swapsWithSole [.Subscript (.Name x xp) ix ip] e pos.line X.env = pure false := by rfl) (hw : swappedStores [.Subscript (.Name x xp) ix ip] e X.env = pure none := by rfl)
    (h1 : (assignEach [.Subscript (.Name x xp) ix ip] X.env).map (·.2) = [assign (.Subscript (.Name x xp) ix ip) X.env] := by rfl) :
    NmP D X T G (.Assign [.Subscript (.Name x xp) ix ip] e pos) (G.set i (some (LstD D (Ls.set j R)))) := by
  obtain ⟨t, p, y⟩ := he
  obtain ⟨tx, px, yx⟩ := hx
  refine ⟨_, ps_asg p (pg_sub (pe_var (i := i) hN hv hd hcd) px set_list ha) hs hw h1, fun O σ H H0 ok l hD he Dn q => ?_⟩
  have nO : D ∉ O := ok.nin hD
  refine y O σ H (ok.le l) he _ fun u H1 l1 r1 => ?_
  have he1 := he.mono (hid_ext (O := O) l1.ex)
  obtain ⟨v, h1, rfl, xs, h2, hh⟩ := he1.2 i _ hi
  refine ⟨.ref D, h1, yx O σ H1 ((ok.le l).le l1) he1 _ fun v2 H2 l2 e2 => ?_⟩
  cases e2
  have l3 := (l.trans l1).trans l2
  have he2 := he1.mono (hid_ext (O := O) l2.ex)
  have h2' : H2 D = some (.lst xs) := l2.ex _ _ (hid_sub _ _ _ _ h2) (by intro ps z; cases z)
  have h2O : hid O H2 D = some (.lst xs) := (hid_out nO).trans h2'
  have hh1 : Holds Ls xs (hid O H2) := hh.mono (hid_ext l2.ex)
  refine ⟨D, xs, k, j, rfl, rfl, h2', by rw [hh.length]; exact hj, q σ _ (le_upd l3 hD h2') ?_⟩
  exact env_list he2 hi hf h2' nO ((holds_lf h2O hLs hh1).set j (hR _ _ _ _ h2O (R.mono (hid_ext l2.ex) r1)))
/-- range(j), whatever the heap -/
def HasR (X : Cx) (T : List NTab) (G : Ctx) (tg iter : Expr) (lo : Int) (n : Nat) : Prop := ∃ wi, PI X tg iter wi ∧ ∀ O σ H, Okh T O H → Env G σ (hid O H) → ∀ Q : It → Hp → Prop, (∀ H1, Le T H H1 → Q (Itr lo n) H1) → wi σ H Q
theorem hr_range1 {p : Pos} {j : Int} (h : HasE X T G a (IntR j)) (hm : X.mg "range" = none) (h0 : -(2 ^ 62) ≤ j) (h1 : j < 2 ^ 62) (hg : Gl X "range" := by rfl) (hs : starEach [a] X.env = [(false, eval a X.env)] := by rfl) :
    HasR X T G tg (.Call (.Name "range" p) [a] [] pos) 0 j.toNat := by
  obtain ⟨t, pa, y⟩ := ha_cons h ha_nil hs
  refine ⟨_, pi_range1 hg hm pa hs, fun O σ H ok he Q q => y O σ H ok he _ fun vs H1 l hh => ?_⟩
  obtain ⟨v, rfl, e1⟩ := holds1 hh
  exact ⟨j, by rw [show v = V.int j from e1], h0, h1, q H1 l⟩
/-- a for over a range whose body may change the list -/
theorem mp_for {n : Nat} {lo : Int} {g : TG} {U : Rp → Ctx → Ctx → Prop} (Gs : Nat → Ctx) (hI : HasR X T (Gs 0) tg iter lo n) (hg : TgOk X T tg g U) (hb : ∀ (i : Nat), i < n → ∃ G1, U (IntR (lo + (i : Int))) (Gs i) G1 ∧ NxtM D X T G1 body (Gs (i + 1)))
    (hp : PassesOwn (model X.prog X.w) X.A X.env X.xe) (hc : X.calm = true := by rfl) (hs : ∀ x, foldedSetIterable iter X.env x = pure x := by intro _; rfl) : NmP D X T (Gs 0) (.For tg iter body [] pos) (Gs n) := by
  obtain ⟨wi, pi, yi⟩ := hI
  refine ⟨_, ps_for hp hc pi hg.1 pss_max hs, fun O σ H H0 ok l hD he Dn q => yi O σ H (ok.le l) he _ fun H1 l1 => ?_⟩
  refine ⟨fun i m σ' H' => m = n - i ∧ i ≤ n ∧ Le T H0 H' ∧ Env (Gs i) σ' (hid O H'), ⟨n, by simp, Nat.zero_le _, l.trans l1, he.mono (hid_ext l1.ex)⟩, ?_⟩
  rintro i m σ' H' ⟨rfl, hi, l2, he2⟩
  obtain ⟨hgo, hstop⟩ := src_range (T := T) (O := O) (H1 := H') (lo := lo) (n := n) O H' (ok.le l2) (extN_refl _)
  by_cases hlt : i < n
  · obtain ⟨go, yld⟩ := hgo i (IntR (lo + (i : Int))) (by simp [hlt])
    refine .inr ⟨go, fun σ2 H2 => i + 1 ≤ n ∧ Le T H0 H2 ∧ Env (Gs (i + 1)) σ2 (hid O H2), fun σ2 H2 ⟨a, b, c⟩ => ⟨n - (i + 1), by omega, rfl, a, b, c⟩, fun x H2 hy => ?_⟩
    obtain ⟨l3, r⟩ := yld x H2 hy
    obtain ⟨G1, hU, t, pt, yt⟩ := hb i hlt
    refine hg.2 _ _ _ hU O x σ' H2 ((ok.le l2).le l3) (he2.mono (hid_ext l3.ex)) r _ fun σ3 he3 => ?_
    exact ⟨t, pt, yt O σ3 H2 H0 ok (l2.trans l3) hD he3 _ fun σ4 H4 l4 he4 => ⟨hlt, l4, he4⟩⟩
  · have e : i = n := by omega
    subst e
    exact .inl ⟨by simpa using hstop, q _ _ l2 he2⟩
theorem mp_range {n : Nat} {j : Int} {g : TG} {U : Rp → Ctx → Ctx → Prop} {rp cp : Pos} (Gs : Nat → Ctx) (h : HasE X T (Gs 0) a (IntR j)) (hm : X.mg "range" = none) (hj : j = (n : Int)) (hn : n < 2 ^ 62) (hg : TgOk X T tg g U) (hb : ∀ (i : Nat), i < n → ∃ G1, U (IntR (0 + (i : Int))) (Gs i) G1 ∧ NxtM D X T G1 body (Gs (i + 1)))
    (hp : PassesOwn (model X.prog X.w) X.A X.env X.xe) (hgl : Gl X "range" := by rfl) (hst : starEach [a] X.env = [(false, eval a X.env)] := by rfl) (hc : X.calm = true := by rfl) (hs : ∀ x, foldedSetIterable (.Call (.Name "range" rp) [a] [] cp) X.env x = pure x := by intro _; rfl) :
    NmP D X T (Gs 0) (.For tg (.Call (.Name "range" rp) [a] [] cp) body [] pos) (Gs n) := by
  subst hj
  have := hr_range1 (tg := tg) (p := rp) (pos := cp) h hm (by omega) (by omega) hgl hst
  rw [Int.toNat_natCast] at this
  exact mp_for Gs this hg hb hp hc hs
/-- name = [] and what is done with it -/
theorem ns_own (i : Nat) {x : Str} {lp xp : Pos} (hN : X.N.Nodup) (h : ∀ D, NxtM D X T (G.set i (some (LstD D []))) rest G') (hi : X.N[i]? = some x := by rfl) (hx : Loc X.env.scope x := by first | exact Or.inl rfl | exact Or.inr rfl)
    (hf : X.fn x = true ∨ X.env.scope.names.lookup x = some .local := by first | exact .inl rfl | exact .inr rfl) (hs : swapsWith (.List [] lp) (some (.Name x xp)) pos.line X.env = pure false := by rfl) :
    NxtS X T G (.Assign [.Name x xp] (.List [] lp) pos :: rest) G' := by
  refine ⟨_, pss_cons (ps_set (i := i) hN hi hx (pe_lst pa_nil) hs hf) pss_max, fun O σ H ok he Dn q => ⟨by decide, fun D hD => ?_⟩⟩
  obtain ⟨t, p, y⟩ := h D
  refine ⟨t, p, y O _ _ H ok (Le.new hD) hD ?_ Dn q⟩
  exact (he.mono (hid_ext (extN_same (same_new hD)))).set ⟨rfl, [], (hid_out (ok.nin hD)).trans upd_same, trivial⟩
/-- name = [.. for ..] and what is done with it -/
theorem ns_ownLc (i : Nat) {x : Str} {xp spos : Pos} {scope : Scope} {own : List (Str × Nat)} {Ys Zs : List Rp} {g : TG} {U : Rp → Ctx → Ctx → Prop} (hI : HasI X T G tg iter Ys) (ok : BlkOk X.N X.env.scope scope own) (hN : X.N.Nodup) (hg : TgB X scope T tg g (own.map (·.2)) U) (hl : Zs.length = Ys.length) (hz : Ys.length ≤ sizeLine)
    (hb : ∀ (i : Nat) (Y Z : Rp), Ys[i]? = some Y → Zs[i]? = some Z → ∃ G1, U Y (wipeG G (own.map (·.2))) G1 ∧ HasB X scope T G1 elt Z) (h : ∀ D, NxtM D X T (G.set i (some (LstD D Zs))) rest G')
    (hsw : swapsWith (.ListComp elt [⟨tg, iter, [], 0⟩] scope pos) (some (.Name x xp)) spos.line X.env = pure true) (hy : X.N[i]? = some x := by rfl) (hyl : X.env.scope.names.lookup x = some .local := by rfl) (hc : X.calm = true := by rfl) (hs : ∀ x, foldedSetIterable iter X.env x = pure x := by intro _; rfl) :
    NxtS X T G (.Assign [.Name x xp] (.ListComp elt [⟨tg, iter, [], 0⟩] scope pos) spos :: rest) G' := by
  obtain ⟨wi, pi, yy⟩ := lc_strong hI hg hl hz hb
  refine ⟨_, pss_cons (ps_setLc hc hN hy hyl hsw pi ok hg.pg (fun _ _ _ _ _ => pts_nil) pe_maxB hs) pss_max, fun O σ H okh he Dn q => ?_⟩
  refine (yy O σ H okh he (fun v H1 => gName i v σ H1 (tMaxS X rest Dn)) fun D H1 hD l1 ⟨xs, a, b⟩ => ?_ :)
  obtain ⟨t, p, y⟩ := h D
  exact ⟨t, p, y O _ H1 H okh l1 hD ((he.mono (hid_ext l1.ex)).set ⟨rfl, xs, a, b⟩) Dn q⟩
end
/-! ends of blocks that change a list -/
def RetM (D : Addr) (X : Cx) (T : List NTab) (G : Ctx) (sts : List Stmt) (R : Rp) : Prop :=
  ∃ t, PSs X sts t ∧ ∀ O σ H H0, Okh T O H0 → Le T H0 H → H0 D = none → Env G σ (hid O H) → ∀ Dn : Ends, (∀ v H', Le T H0 H' → R.R v (hid O H') → Dn.rt v H') → t Dn σ H
section
variable {X : Cx} {T : List NTab} {G G' G'' : Ctx} {st : Stmt} {sts sts2 rest body : List Stmt} {R R' : Rp} {Ls Rs Ds : List Rp} {D : Addr} {e o a c tg iter elt : Expr} {es : List Expr} {pos p p2 apos : Pos}
theorem rm_of (h : RetS X T G sts R) : RetM D X T G sts R := by
  obtain ⟨t, p, y⟩ := h
  exact ⟨t, p, fun O σ H H0 ok l hD he Dn q => y O σ H (ok.le l) he Dn fun v H' l' r => q v H' (l.trans l') r⟩
theorem rm_cons (h : NmP D X T G st G') (g : RetM D X T G' rest R) : RetM D X T G (st :: rest) R := by
  obtain ⟨t, p, y⟩ := h
  obtain ⟨u, p', y'⟩ := g
  exact ⟨_, pss_cons p p', fun O σ H H0 ok l hD he Dn q => y O σ H H0 ok l hD he _ fun σ' H' l' e' => y' O σ' H' H0 ok l' hD e' Dn q⟩
theorem rm_forget {G0 : Ctx} (h : RetM D X T G0 sts R) (hl : G0.length = G.length) (w : ∀ (i : Nat) (R : Rp), G0[i]? = some (some R) → ∃ R', G[i]? = some (some R') ∧ R'.le R) : RetM D X T G sts R := by
  obtain ⟨t, p, y⟩ := h
  exact ⟨t, p, fun O σ H H0 ok l hD he Dn q => y O σ H H0 ok l hD (he.weak hl w) Dn q⟩
theorem rs_forget {G0 : Ctx} (h : RetS X T G0 sts R) (hl : G0.length = G.length) (w : ∀ (i : Nat) (R : Rp), G0[i]? = some (some R) → ∃ R', G[i]? = some (some R') ∧ R'.le R) : RetS X T G sts R := by
  obtain ⟨t, p, y⟩ := h
  exact ⟨t, p, fun O σ H ok he Dn q => y O σ H ok (he.weak hl w) Dn q⟩
/-- a name forgotten -/
theorem drop_w {G : Ctx} (i : Nat) : ∀ (j : Nat) (R : Rp), (G.set i none)[j]? = some (some R) → ∃ R', G[j]? = some (some R') ∧ R'.le R := fun j R q => by
  by_cases c : j = i
  · subst c
    by_cases hl : j < G.length
    · rw [List.getElem?_set_self hl] at q; cases q
    · rw [List.getElem?_eq_none (by simpa using hl)] at q; cases q
  · rw [List.getElem?_set_ne (Ne.symm c)] at q
    exact ⟨R, q, Rp.le_refl R⟩
theorem rm_drop (i : Nat) (h : RetM D X T (G.set i none) sts R) : RetM D X T G sts R := rm_forget h (List.length_set ..) (drop_w i)
theorem rs_drop (i : Nat) (h : RetS X T (G.set i none) sts R) : RetS X T G sts R := rs_forget h (List.length_set ..) (drop_w i)
theorem nm_pre {G0 : Ctx} (h : NxtM D X T G0 sts G') (hl : G0.length = G.length) (w : ∀ (i : Nat) (R : Rp), G0[i]? = some (some R) → ∃ R', G[i]? = some (some R') ∧ R'.le R) : NxtM D X T G sts G' := by
  obtain ⟨t, p, y⟩ := h
  exact ⟨t, p, fun O σ H H0 ok l hD he Dn q => y O σ H H0 ok l hD (he.weak hl w) Dn q⟩
theorem ns_pre {G0 : Ctx} (h : NxtS X T G0 sts G') (hl : G0.length = G.length) (w : ∀ (i : Nat) (R : Rp), G0[i]? = some (some R) → ∃ R', G[i]? = some (some R') ∧ R'.le R) : NxtS X T G sts G' := by
  obtain ⟨t, p, y⟩ := h
  exact ⟨t, p, fun O σ H ok he Dn q => y O σ H ok (he.weak hl w) Dn q⟩
theorem mp_skip (h : HasT X T G c false) : NmP D X T G (.If c sts [] pos) G := mp_of (np_skip h)
theorem rs_own (i : Nat) {x : Str} {lp xp : Pos} (hN : X.N.Nodup) (h : ∀ D, RetM D X T (G.set i (some (LstD D []))) rest R) (hi : X.N[i]? = some x := by rfl) (hx : Loc X.env.scope x := by first | exact Or.inl rfl | exact Or.inr rfl)
    (hf : X.fn x = true ∨ X.env.scope.names.lookup x = some .local := by first | exact .inl rfl | exact .inr rfl) (hs : swapsWith (.List [] lp) (some (.Name x xp)) pos.line X.env = pure false := by rfl) :
    RetS X T G (.Assign [.Name x xp] (.List [] lp) pos :: rest) R := by
  refine ⟨_, pss_cons (ps_set (i := i) hN hi hx (pe_lst pa_nil) hs hf) pss_max, fun O σ H ok he Dn q => ⟨by decide, fun D hD => ?_⟩⟩
  obtain ⟨t, p, y⟩ := h D
  refine ⟨t, p, y O _ _ H ok (Le.new hD) hD ?_ Dn q⟩
  exact (he.mono (hid_ext (extN_same (same_new hD)))).set ⟨rfl, [], (hid_out (ok.nin hD)).trans upd_same, trivial⟩
theorem rs_ownLc (i : Nat) {x : Str} {xp spos : Pos} {scope : Scope} {own : List (Str × Nat)} {Ys Zs : List Rp} {g : TG} {U : Rp → Ctx → Ctx → Prop} (hI : HasI X T G tg iter Ys) (ok : BlkOk X.N X.env.scope scope own) (hN : X.N.Nodup) (hg : TgB X scope T tg g (own.map (·.2)) U) (hl : Zs.length = Ys.length) (hz : Ys.length ≤ sizeLine)
    (hb : ∀ (i : Nat) (Y Z : Rp), Ys[i]? = some Y → Zs[i]? = some Z → ∃ G1, U Y (wipeG G (own.map (·.2))) G1 ∧ HasB X scope T G1 elt Z) (h : ∀ D, RetM D X T (G.set i (some (LstD D Zs))) rest R)
    (hsw : swapsWith (.ListComp elt [⟨tg, iter, [], 0⟩] scope pos) (some (.Name x xp)) spos.line X.env = pure true) (hy : X.N[i]? = some x := by rfl) (hyl : X.env.scope.names.lookup x = some .local := by rfl) (hc : X.calm = true := by rfl) (hs : ∀ x, foldedSetIterable iter X.env x = pure x := by intro _; rfl) :
    RetS X T G (.Assign [.Name x xp] (.ListComp elt [⟨tg, iter, [], 0⟩] scope pos) spos :: rest) R := by
  obtain ⟨wi, pi, yy⟩ := lc_strong hI hg hl hz hb
  refine ⟨_, pss_cons (ps_setLc hc hN hy hyl hsw pi ok hg.pg (fun _ _ _ _ _ => pts_nil) pe_maxB hs) pss_max, fun O σ H okh he Dn q => ?_⟩
  refine (yy O σ H okh he (fun v H1 => gName i v σ H1 (tMaxS X rest Dn)) fun D H1 hD l1 ⟨xs, a, b⟩ => ?_ :)
  obtain ⟨t, p, y⟩ := h D
  exact ⟨t, p, y O _ H1 H okh l1 hD ((he.mono (hid_ext l1.ex)).set ⟨rfl, xs, a, b⟩) Dn q⟩
theorem ns_weak (h : NxtS X T G sts G') (hl : G''.length = G'.length) (w : ∀ (i : Nat) (R : Rp), G''[i]? = some (some R) → ∃ R', G'[i]? = some (some R') ∧ R'.le R) : NxtS X T G sts G'' := by
  obtain ⟨t, p, y⟩ := h
  exact ⟨t, p, fun O σ H ok he Dn q => y O σ H ok he Dn fun σ' H' l' e' => q σ' H' l' (e'.weak hl w)⟩
/-! calls whose arguments are some of many -/
theorem he_callX {x : Str} {k : Nat} {S : List Rp → Rp → Prop} (F : GFn X.prog X.w X.K X.mg X.base T x k Ds S) (hr : Room k X.A) (ha : HasA X T G (e :: es) Rs) (hS : ∀ vs H, Holds Rs vs H → ∃ Rs' R, Holds Rs' vs H ∧ S (Rs' ++ Ds) R ∧ R.le R') (hg : Gl X x := by rfl) (hdb : (x == ("__debug__" : Str)) = false := by decide)
    (he : starEach (e :: es) X.env = (false, eval e X.env) :: starEach es X.env := by rfl) (hpl : (backTo pos (starEach es X.env)).any (·.1) = false := by rfl) : HasE X T G (.Call (.Name x p) (e :: es) [] pos) R' := by
  obtain ⟨f, fd, ps, ds, dvs, h1, h2, h3, h4, h5, h6⟩ := F.ex
  obtain ⟨t, pt, y⟩ := ha
  refine ⟨_, pe_call h3 hr hg h1 h2 h4 h5 pass0 pt hdb he hpl, fun O σ H ok hE Q q => y O σ H ok hE _ fun vs H' l hh => ?_⟩
  obtain ⟨Rs', R, hh', hS', hle⟩ := hS vs _ hh
  exact ⟨Rs' ++ Ds, R, O, hS', ok.le l, hh'.append (h6 _), fun v H2 l2 r => q v H2 (l.trans l2) (hle _ _ r)⟩
theorem he_makeX {x : Str} {k : Nat} {S : List Rp → Rp → Prop} (F : CFn X.prog X.w X.K X.mg X.base T x k S) (hr : Room (k + 1) X.A) (ha : HasA X T G (e :: es) Rs) (hS : ∀ vs H, Holds Rs vs H → ∃ Rs' R, Holds Rs' vs H ∧ S Rs' R ∧ R.le R') (hg : Gl X x := by rfl) (hdb : (x == ("__debug__" : Str)) = false := by decide)
    (he : starEach (e :: es) X.env = (false, eval e X.env) :: starEach es X.env := by rfl) (hpl : (backTo pos (starEach es X.env)).any (·.1) = false := by rfl) : HasE X T G (.Call (.Name x p) (e :: es) [] pos) R' := by
  obtain ⟨C, f, fd, ps, ds, dvs, sp, h1, h2, h3, h4, h5, h6⟩ := F.ex
  obtain ⟨t, pt, y⟩ := ha
  refine ⟨_, pe_make h2 h3 hr hg h1 h4 h5 pass0 pt hdb he hpl, fun O σ H ok hE Q q => y O σ H ok hE _ fun vs H' l hh z dx hz hdx hne => ?_⟩
  obtain ⟨Rs', R, hh', hS', hle⟩ := hS vs _ hh
  exact h6 Rs' R hS' vs O H' z dx Q (ok.le l) hh' hz hdx hne fun H2 l2 r => q _ H2 (l.trans l2) (hle _ _ r)
theorem he_fldX {f : Str} {C : Addr} {α : Sort u1} {F : α → Rp} {Fs : α → List (Str × Rp)} {R : α → Rp} (h : HasE X T G e (ExR F)) (hF : ∀ a, F a = ObjR C (Fs a)) (hc : Cls X.K C) (hn : NoAttr X.K C f) (hl : ∀ a, (Fs a).lookup f = some (R a)) (hle : ∀ a, (R a).le R') (hb : attributeBase e f X.env (eval e X.env) = eval e X.env := by rfl) :
    HasE X T G (.Attribute e f pos) R' := by
  obtain ⟨t, p, y⟩ := h
  refine ⟨_, pe_fld p hb, fun O σ H hT he Q q => y O σ H hT he _ fun v H1 l1 ⟨z, r⟩ => ?_⟩
  rw [hF z] at r
  obtain ⟨a, dx, gs, e1, h1, g⟩ := r
  obtain ⟨u, hu, r⟩ := g.look (hl z)
  exact ⟨a, C, dx, gs, u, e1, hid_sub _ _ _ _ h1, hc, hn, hu, q u H1 l1 (hle _ _ _ r)⟩
end
/-! a list beside one of another length -/
section
variable {X : Cx} {T : List NTab} {G : Ctx} {a b : Expr} {pos : Pos} {k : Nat} {Rs Ss : List Rp}
theorem op_eqLen (hu : X.A.units < cLine) : OpR X (compareOp .Eq) (fun x y H Q => ∃ p q xs ys, x = .ref p ∧ y = .ref q ∧ H p = some (.lst xs) ∧ H q = some (.lst ys) ∧ xs.length ≠ ys.length ∧ Q (.bl false) H) := by
  intro pins s σ H x y v u Q I rx ry h
  obtain ⟨p, q, xs, ys, rfl, rfl, hp, hq, hne, qq⟩ := h
  cases rx
  cases ry
  obtain ⟨its, n, r, e, _⟩ := I.lst hp
  obtain ⟨its2, n2, r2, e2, _⟩ := I.lst hq
  have hl := r.length
  have hl2 := r2.length
  refine (SeqAt.RcAt.lists_lengths (items := its.toArray) (items2 := its2.toArray) ⟨_, e, rfl, n, rfl⟩ ⟨_, e2, rfl, n2, rfl⟩ ?_ hu) X.prog X.w _ _ ⟨.bl false, H, I, rfl, qq⟩
  simp only [List.size_toArray, bne_iff_ne, ne_eq]
  omega
theorem he_eqLen (ha : HasE X T G a (LstR Rs)) (hb : HasE X T G b (LstR Ss)) (hr : Room k X.A) (hne : Rs.length ≠ Ss.length) : HasE X T G (.Compare a [.Eq] [b] pos) (BoolR false) :=
  he_cmp (op_eqLen hr.units0) ha hb (fun O x y H ok ⟨p, xs, e1, h1, g1⟩ ⟨q, ys, e2, h2, g2⟩ Q qq => ⟨p, q, xs, ys, e1, e2, hid_sub _ _ _ _ h1, hid_sub _ _ _ _ h2, by rw [g1.length, g2.length]; exact hne, qq _ H (Le.refl H) rfl⟩) (nomark _)
end
end Rl

set_option Elab.async false
set_option linter.all false
set_option maxRecDepth 100000
set_option maxHeartbeats 4000000
/-! The end of a law: its call in the state that the top has left; tables of code objects; division of any size. -/
namespace Rl
open PySem PySem.Spec PyProof.Rows L2 NdefX LamX
/-- the tracked heap at the call: the tables; the script, where the frozen part does not hold it -/
def hp0 (K : PySem.W.Frag) (tabs : List Addr) (a : Addr) (ob : Obj) (xs : List V) : Hp := fun b => if b ∈ tabs then some (.tbl #[]) else if b = a ∧ K.lookup a = none then some (.frz ob (.lst xs)) else none
section
variable {P : Program} {w : World} {K : PySem.W.Frag} {p : Program} {loose : List Str} {mean : ExcName → Option Value} {mg mb : Str → Option Value} {s : Shared} {tabs : List Addr} {a : Addr} {vs : List Value} {ns : List Int}
theorem hp0_tab {ob : Obj} {xs : List V} {b : Addr} (h : b ∈ tabs) : hp0 K tabs a ob xs b = some (.tbl #[]) := if_pos h
theorem hp0_cases {ob : Obj} {xs : List V} {b : Addr} {o : HO} (e : hp0 K tabs a ob xs b = some o) : (b ∈ tabs ∧ o = .tbl #[]) ∨ (b ∉ tabs ∧ b = a ∧ K.lookup a = none ∧ o = .frz ob (.lst xs)) := by
  unfold hp0 at e
  by_cases h : b ∈ tabs
  · rw [if_pos h] at e; exact .inl ⟨h, (Option.some.inj e).symm⟩
  · rw [if_neg h] at e
    by_cases g : b = a ∧ K.lookup a = none
    · rw [if_pos g] at e; exact .inr ⟨h, g.1, g.2, (Option.some.inj e).symm⟩
    · rw [if_neg g] at e; cases e
theorem hp0_none {ob : Obj} {xs : List V} {b : Addr} (h : b ∉ tabs) (g : b ≠ a ∨ K.lookup a ≠ none) : hp0 K tabs a ob xs b = none := by
  unfold hp0
  rw [if_neg h, if_neg]
  rintro ⟨x, y⟩
  exact g.elim (fun q => q x) (fun q => q y)
/-- the end, by the def's promise at every base that holds what the top has left -/
theorem own_call {k : Nat} {fa : Addr} {fd : FuncData} {x : Str} {cs : List (Addr × Addr)} {S : List Rp → Rp → Prop} {Tb : List NTab} (hTb : ∀ q ∈ Tb, q.1 ∈ cs.map (·.2))
    (T : Top p loose mean mg mb s.heap) (hi : importsNone p = true) (KX : K.In s.heap) (hc : ∀ q ∈ cs, PySem.W.CodeHd s.heap q.1 q.2 ∧ s.heap.get? q.2 = some (PySem.W.tabObj #[])) (hK : ∀ q ∈ cs, K.lookup q.2 = none)
    (hg : s.gens = #[]) (ha : s.heap.get? a = some { cls := .type "list", data := .seq vs.toArray }) (his : IntsAre vs ns) (hl : ns.length ≤ sizeLine) (hr : Room k callerA)
    (F : ∀ base : Heap, base.NoSeer → (∀ q ∈ cs, TabB base mg q.1 q.2) → FnOk P w K mg base CX0 k fa fd [x] (spT Tb S)) (hb : ∀ (s : Shared) (u : Value), BindsTo s fd ⟨[u], []⟩ [(x, u)]) (hS : S [ListR K (ns.map IntR)] (BoolR true)) :
    codeAny (model P w) callerA (.call (.ref fa) ⟨[.ref a], []⟩) (fun r s' => r = .ok (.ret (.bool true)) ∧ OldK s.heap s'.heap ∧ s'.os = s.os ∧ AllBare s'.gens) s := by
  have hv := vals_ints his
  have hlen := his.length
  have tabAt : ∀ b ∈ cs.map (·.2), s.heap.get? b = some (PySem.W.tabObj #[]) := fun b z => by
    obtain ⟨q, h1, rfl⟩ := List.mem_map.mp z
    exact (hc q h1).2
  have inT : ∀ q ∈ cs, q.2 ∈ cs.map (·.2) := fun q h1 => List.mem_map_of_mem h1
  have aN : a ∉ cs.map (·.2) := fun z => by
    have := tabAt a z
    rw [ha] at this
    cases this
  let ob : Obj := { cls := .type "list", data := .seq vs.toArray }
  let H : Hp := hp0 K (cs.map (·.2)) a ob (ns.map V.int)
  -- what is neither a table nor the script is not tracked
  have free : ∀ {b : Addr} {o : Obj}, s.heap.get? b = some o → o ≠ PySem.W.tabObj #[] → o ≠ ob → H b = none := fun {b o} e n1 n2 => hp0_none (fun z => n1 (Option.some.inj (e.symm.trans (tabAt b z)))) (.inl fun z => n2 (by rw [z, ha] at e; exact (Option.some.inj e).symm))
  have keep : ∀ {b : Addr} {o : Obj}, s.heap.get? b = some o → o ≠ PySem.W.tabObj #[] → o ≠ ob → (hidT s.heap H).get? b = some o := fun e n1 n2 => hidT_get e (free e n1 n2)
  have ns' : ∀ {b : Addr} {m : Str → Option Value}, s.heap.Ns b m → (hidT s.heap H).Ns b m := fun {b m} ⟨o, es, ep, e, d, r⟩ => ⟨o, es, ep, keep e (fun z => by rw [z] at d; cases d) (fun z => by rw [z] at d; cases d), d, r⟩
  have kin : K.In (hidT s.heap H) := fun b o e => by
    refine hidT_get (KX b o e) (hp0_none (fun z => ?_) ?_)
    · obtain ⟨q, h1, rfl⟩ := List.mem_map.mp z
      rw [hK q h1] at e
      cases e
    · by_cases c : b = a
      · right; rw [← c, e]; exact fun z => by cases z
      · exact .inl c
  have seer : (hidT s.heap H).NoSeer := by
    have q := T.seer hi
    obtain ⟨bm, om, b1, b2, b3, b4, b5, b6⟩ := T.bmain
    exact ⟨let ⟨mc, x1, x2⟩ := q.statics; ⟨mc, ns' x1, x2⟩, let ⟨mm, x1, x2⟩ := q.mods; ⟨mm, ns' x1, x2⟩, ⟨mb, ns' T.b, T.builtins⟩, mg, bm, om, ns' T.g, b1, keep b3 (fun z => by rw [z] at b6; cases b6) (fun z => by rw [z] at b6; cases b6), b4, b5⟩
  have TB : ∀ q ∈ cs, TabB (hidT s.heap H) mg q.1 q.2 := fun q h1 => by
    obtain ⟨⟨oc, us, file, tf, flags, tg, inF, text, tt, c1, c2, c3, c4, c5⟩, c6⟩ := hc q h1
    obtain ⟨bm, om, b1, b2, b3, b4, b5, b6⟩ := T.bmain
    obtain ⟨og, es, ep, g1, g2, g3⟩ := T.g
    refine ⟨⟨oc, us, file, tf, flags, tg, inF, text, tt, keep c1 (fun z => by rw [z] at c2; cases c2) (fun z => by rw [z] at c3; cases c3), c2, c3, c4, c5⟩, ⟨bm, om, b1, b2, fun z => ?_, fun z => ?_, keep b3 (fun z => by rw [z] at b6; cases b6) (fun z => by rw [z] at b6; cases b6), b4, b5, b6⟩, fun z => ?_⟩
    · rw [z, g1] at b3
      cases b3
      rw [g2] at b6; cases b6
    · rw [z, c6] at b3
      cases b3
      cases b6
    · rw [z, c6] at g1
      cases g1
      cases g2
  have hok : HOk P w H s.heap := fun b o e => by
    rcases hp0_cases e with ⟨h1, rfl⟩ | ⟨_, rfl, _, rfl⟩
    · exact tabAt b h1
    · exact ⟨ha, by rw [List.length_map]; exact hl, vs, _, hv, ha⟩
  have md : L2.Mod K mg (hidT s.heap H) := ⟨kin, ns' T.g, ⟨mb, ns' T.b, T.builtins⟩, let ⟨mc, x1, x2⟩ := T.nolimit; ⟨mc, ns' x1, x2⟩⟩
  have e0 : Env0 P w K mg (hidT s.heap H) callerA [] s H := ⟨rfl, md, fun b o e => of_hidT e, Nat.le_of_eq (hidT_size _ _), trivial, fun b z => absurd (show b ∈ ([] : List Addr) from z) (by simp), hok, .of_eq hg⟩
  have hsq : SqL K H a (ns.map V.int) := by
    cases hk : K.lookup a with
    | some o =>
      have z := KX a o hk
      rw [ha] at z
      cases z
      exact .inr ⟨_, vs.toArray, _, hk, rfl, rfl, rfl, by rw [List.size_toArray, hlen]; exact hl, by simpa using hv⟩
    | none => exact .inl (.inr ⟨ob, by show hp0 K _ a ob _ a = _; unfold hp0; rw [if_neg aN, if_pos ⟨rfl, hk⟩]⟩)
  have hints : ∀ (l : List Int) (H : Hp), Holds (l.map IntR) (l.map V.int) H := fun l H => by
    induction l with
    | nil => trivial
    | cons z zs ih => exact ⟨rfl, ih⟩
  have ok0 : Okh Tb [] H := ⟨fun q hq => TabN.nil (hp0_tab (hTb q hq)), fun b z => by cases z⟩
  have h0 : hid [] H = H := by funext b; exact if_neg (by simp)
  have sp : spT Tb S [.ref a] H (fun v _ => v = .bl true) E0 := ⟨[ListR K (ns.map IntR)], BoolR true, [], hS, ok0, ⟨⟨a, ns.map V.int, rfl, by rw [h0]; exact hsq, hints _ _⟩, trivial⟩, fun v H' _ r => r⟩
  refine codeAny_mono ((F _ seer TB).run callerA [] s H ⟨[.ref a], []⟩ [.ref a] [.ref a] _ _ hr e0 (hb s (.ref a)) (.cons rfl .nil) sp) fun r s' h => ?_
  cases r with
  | error e => exact h.elim
  | ok fl =>
    cases fl with
    | next => exact h.elim
    | brk => exact h.elim
    | cont => exact h.elim
    | ret u =>
      obtain ⟨v, H', os, bare, un, hok', rv, q⟩ := h
      obtain rfl : v = .bl true := q
      obtain rfl : u = Value.bool true := rv
      -- a table has grown, all else stands
      have grew : ∀ q ∈ cs, ∃ more : Array Value, s'.heap.get? q.2 = some (PySem.W.tabObj more) := fun q h1 => by
        obtain ⟨more, z⟩ := un.tbls q.2 #[] (hp0_tab (inT q h1))
        exact ⟨_, hok' q.2 _ z⟩
      have stays : ∀ b o, b ∉ cs.map (·.2) → s.heap.get? b = some o → s'.heap.get? b = some o := fun b o nb e => by
        cases hb' : H b with
        | none => exact un.keep b o e hb' (fun z => by cases z) (by simp)
        | some u =>
          rcases hp0_cases hb' with ⟨h1, _⟩ | ⟨_, rfl, _, rfl⟩
          · exact absurd h1 nb
          · obtain ⟨z1, _⟩ := hok' b _ (un.frzs b _ _ hb')
            rw [ha] at e
            cases e
            exact z1
      refine ⟨rfl, ⟨fun b o e => ?_, fun b o e => ?_⟩, os, bare⟩
      · by_cases nb : b ∈ cs.map (·.2)
        · obtain ⟨q, h1, rfl⟩ := List.mem_map.mp nb
          obtain ⟨more, hm⟩ := grew q h1
          rw [(hc q h1).2] at e
          cases e
          exact .inr (.inl ⟨((hc q h1).1.tab (hc q h1).2).isCodeTable, rfl, #[], more, rfl, by rw [Array.empty_append]; exact hm⟩)
        · exact .inl (stays b o nb e)
      · by_cases nb : b ∈ cs.map (·.2)
        · obtain ⟨q, h1, rfl⟩ := List.mem_map.mp nb
          obtain ⟨more, hm⟩ := grew q h1
          exact ⟨_, hm⟩
        · exact ⟨o, stays b o nb e⟩
end
/-! what the top has written, from the frozen part -/
section
variable {K : PySem.W.Frag} {h : Heap} {mg : Str → Option Value} {x m qual : Str} {st : Stmt} {f C : Addr} {oc kV doc pm cd ct : Value} {od an : Option Addr} {sl : Array (Option Value)}
theorem tfn_of (X : K.In h) (G : h.Ns mainGlobals mg) (a : PySem.W.nsIn K mainGlobals x = some (some (.ref f))) (l : K.lookup f = some ⟨oc, od, .func (PySem.W.fnOf x x (defArgs st) (defBody st) (defScope st) .none kV doc pm an cd ct), sl⟩) (c : PySem.W.codeIn K cd x = true) (k : PySem.W.keepIn K (.ref f) = true) : TFn K mg x st [] :=
  ⟨f, _, PySem.W.mg_of X G a, ⟨⟨oc, od, .none, kV, doc, pm, an, cd, ct, sl, rfl, l, c, .inl ⟨rfl, rfl⟩, .inl rfl⟩, k⟩⟩
theorem dfl1 {T : Addr} {ot : Value} {odt : Option Addr} {slt : Array (Option Value)} {nt : Nat} {u : Value} {v : V} (e : K.lookup T = some ⟨ot, odt, .seq #[u] nt, slt⟩) (r : RelV v u) : DflV K (.ref T) [v] := .inr ⟨by simp, T, _, [u], nt, rfl, e, rfl, .cons r .nil⟩
theorem tfn_of1 {T : Addr} {v : V} (X : K.In h) (G : h.Ns mainGlobals mg) (a : PySem.W.nsIn K mainGlobals x = some (some (.ref f))) (l : K.lookup f = some ⟨oc, od, .func (PySem.W.fnOf x x (defArgs st) (defBody st) (defScope st) (.ref T) kV doc pm an cd ct), sl⟩) (c : PySem.W.codeIn K cd x = true) (k : PySem.W.keepIn K (.ref f) = true) (d : DflV K (.ref T) [v]) : TFn K mg x st [v] :=
  ⟨f, _, PySem.W.mg_of X G a, ⟨⟨oc, od, .ref T, kV, doc, pm, an, cd, ct, sl, rfl, l, c, d, .inl rfl⟩, k⟩⟩
theorem tfc_of {c0 : Addr} (X : K.In h) (G : h.Ns mainGlobals mg) (a : PySem.W.nsIn K mainGlobals x = some (some (.ref f))) (l : K.lookup f = some ⟨oc, od, .func (PySem.W.fnOf x x (defArgs st) (defBody st) (defScope st) .none kV doc pm an (.ref c0) ct), sl⟩) (c : PySem.W.codeIn K (.ref c0) x = true) (k : PySem.W.keepIn K (.ref f) = true) : TFC K mg x st c0 :=
  ⟨f, _, PySem.W.mg_of X G a, ⟨⟨oc, od, kV, doc, pm, an, ct, sl, rfl, l, c⟩, k⟩⟩
theorem tmt_of (a : PySem.W.findIn K (.ref C) m = some (some (.ref f))) (i : PySem.W.isFn K (.ref f) = true) (l : K.lookup f = some ⟨oc, od, .func (PySem.W.fnOf m qual (defArgs st) (defBody st) (defScope st) .none kV doc pm an cd ct), sl⟩) (c : PySem.W.codeIn K cd qual = true) (k : PySem.W.keepIn K (.ref f) = true) : TMt K C m qual st [] :=
  ⟨f, _, ⟨a, i, k⟩, ⟨⟨oc, od, .none, kV, doc, pm, an, cd, ct, sl, rfl, l, c, .inl ⟨rfl, rfl⟩, .inl rfl⟩, k⟩⟩
theorem tin_of (X : K.In h) (G : h.Ns mainGlobals mg) (a0 : PySem.W.nsIn K mainGlobals x = some (some (.ref C))) (mk : PySem.W.makesIn K C = true) (kc : PySem.W.keepIn K (.ref C) = true) (a : PySem.W.findIn K (.ref C) "__init__" = some (some (.ref f))) (i : PySem.W.isFn K (.ref f) = true) (l : K.lookup f = some ⟨oc, od, .func (PySem.W.fnOf "__init__" qual (defArgs st) (defBody st) (defScope st) .none kV doc pm an cd ct), sl⟩) (c : PySem.W.codeIn K cd qual = true) (k : PySem.W.keepIn K (.ref f) = true) : TIn K mg x C qual st [] :=
  ⟨PySem.W.mg_of X G a0, f, _, ⟨mk, a, i, kc⟩, ⟨⟨oc, od, .none, kV, doc, pm, an, cd, ct, sl, rfl, l, c, .inl ⟨rfl, rfl⟩, .inl rfl⟩, k⟩⟩
theorem tin_of1 {T : Addr} {v : V} (X : K.In h) (G : h.Ns mainGlobals mg) (a0 : PySem.W.nsIn K mainGlobals x = some (some (.ref C))) (mk : PySem.W.makesIn K C = true) (kc : PySem.W.keepIn K (.ref C) = true) (a : PySem.W.findIn K (.ref C) "__init__" = some (some (.ref f))) (i : PySem.W.isFn K (.ref f) = true) (l : K.lookup f = some ⟨oc, od, .func (PySem.W.fnOf "__init__" qual (defArgs st) (defBody st) (defScope st) (.ref T) kV doc pm an cd ct), sl⟩) (c : PySem.W.codeIn K cd qual = true) (k : PySem.W.keepIn K (.ref f) = true) (d : DflV K (.ref T) [v]) : TIn K mg x C qual st [v] :=
  ⟨PySem.W.mg_of X G a0, f, _, ⟨mk, a, i, kc⟩, ⟨⟨oc, od, .ref T, kV, doc, pm, an, cd, ct, sl, rfl, l, c, d, .inl rfl⟩, k⟩⟩
end
end Rl

set_option Elab.async false
set_option linter.all false
set_option maxRecDepth 100000
set_option maxHeartbeats 4000000
/-! Numbers of a tower: what they are worth, what they tell, how great they are, how they lie in the heap. -/
namespace Rl
open PySem PySem.Spec PyProof.Rows L2 NdefX LamX

structure OF where
  C : Type
  i : OFld C
instance ofC (K : OF) : OFld K.C := K.i
def OF.rat : OF := ⟨Rat, inferInstance⟩
def OF.ext (K : OF) (s : K.C) (h : NSq s) : OF := ⟨Quad K.C s, @Quad.instOFld _ _ s h⟩
abbrev OF.q {K : OF} {s : K.C} {h : NSq s} (u : (K.ext s h).C) : Quad K.C s := u
abbrev OF.r (u : OF.rat.C) : Rat := u
inductive Tow : OF → Type 1 where
  | base : Tow OF.rat
  | ext {K : OF} (t : Tow K) (s : K.C) (h : NSq s) : Tow (K.ext s h)
namespace Tow
/-- how many storeys -/
def ht : {K : OF} → Tow K → Nat
  | _, .base => 0
  | _, .ext t _ _ => t.ht + 1
/-- a fraction there -/
def emb : {K : OF} → Tow K → Rat → K.C
  | _, .base, q => q
  | _, .ext t s _, q => (⟨t.emb q, 0⟩ : Quad _ s)
/-- the storey of a number -/
def st : {K : OF} → (t : Tow K) → K.C → Nat
  | _, .base, _ => 0
  | _, .ext t s _, u => if (OF.q u).im = 0 then t.st (OF.q u).re else t.ht + 1
/-- what it tells -/
def told : {K : OF} → (t : Tow K) → K.C → PyData
  | _, .base, u => .tuple [.int (OF.r u).num, .int (OF.r u).den]
  | _, .ext t s _, u => if (OF.q u).im = 0 then t.told (OF.q u).re else .tuple [.int t.ht, t.told (OF.q u).re, t.told (OF.q u).im]
/-- the bits of its numbers -/
def bits (q : Rat) : Nat := max (q.num.natAbs.log2 + 1) (q.den.log2 + 1)
def sz : {K : OF} → (t : Tow K) → K.C → Nat
  | _, .base, u => bits (OF.r u)
  | _, .ext t s _, u => max (t.sz (OF.q u).re) (t.sz (OF.q u).im)
/-- no root's square is greater than so many bits -/
def Sm : {K : OF} → Tow K → Nat → Prop
  | _, .base, _ => True
  | _, .ext t s _, n => t.Sm n ∧ t.sz s ≤ n
/-- the bits of a product, of an inverse: by the height, the roots' bits -/
def mB : Nat → Nat → Nat → Nat → Nat
  | 0, _, n, m => n + m
  | h + 1, z, n, m => mB h z n m + mB h z (mB h z n m) z + 1
def nB (h z n : Nat) : Nat := mB h z n n + mB h z (mB h z n n) z + 1
def iB : Nat → Nat → Nat → Nat
  | 0, _, n => n
  | h + 1, z, n => mB h z n (iB h z (nB h z n))
/-- 1, 0, -1 -/
noncomputable def sgn {F : Type} [OFld F] (u : F) : Int := open Classical in if u = 0 then 0 else if 0 ≤ u then 1 else -1
end Tow
open Tow

section
variable {K : OF} (t : Tow K)
theorem emb_add : ∀ {K : OF} (t : Tow K) (a b : Rat), t.emb (a + b) = t.emb a + t.emb b
  | _, .base, a, b => rfl
  | _, .ext t s h, a, b => by
    apply Quad.ext
    · exact emb_add t a b
    · show (0 : _) = 0 + 0
      grind
theorem emb_mul : ∀ {K : OF} (t : Tow K) (a b : Rat), t.emb (a * b) = t.emb a * t.emb b
  | _, .base, a, b => rfl
  | _, .ext t s h, a, b => by
    apply Quad.ext
    · show t.emb (a * b) = t.emb a * t.emb b + 0 * 0 * s
      rw [emb_mul t a b]; grind
    · show (0 : _) = t.emb a * 0 + 0 * t.emb b
      grind
theorem emb_neg : ∀ {K : OF} (t : Tow K) (a : Rat), t.emb (-a) = -t.emb a
  | _, .base, a => rfl
  | _, .ext t s h, a => by
    apply Quad.ext
    · exact emb_neg t a
    · show (0 : _) = -0
      grind
theorem emb_zero : ∀ {K : OF} (t : Tow K), t.emb 0 = 0
  | _, .base => rfl
  | _, .ext t s h => by
    apply Quad.ext
    · exact emb_zero t
    · rfl
theorem emb_one : ∀ {K : OF} (t : Tow K), t.emb 1 = 1
  | _, .base => rfl
  | _, .ext t s h => by
    apply Quad.ext
    · exact emb_one t
    · rfl
theorem emb_inj : ∀ {K : OF} (t : Tow K) {a b : Rat}, t.emb a = t.emb b → a = b
  | _, .base, a, b, e => e
  | _, .ext t s h, a, b, e => emb_inj t (congrArg Quad.re e)
theorem emb_eq_zero {a : Rat} : t.emb a = 0 ↔ a = 0 := ⟨fun e => emb_inj t (e.trans (emb_zero t).symm), fun e => by rw [e]; exact emb_zero t⟩
theorem emb_inv (a : Rat) : t.emb (a⁻¹) = (t.emb a)⁻¹ := by
  by_cases c : a = 0
  · subst c
    rw [emb_zero, Rat.inv_zero, emb_zero, Lean.Grind.Field.inv_zero]
  · have h1 : t.emb a * t.emb (a⁻¹) = 1 := by rw [← emb_mul, Rat.mul_inv_cancel _ c, emb_one]
    have h2 : t.emb a ≠ 0 := fun e => c ((emb_eq_zero t).mp e)
    have h3 : t.emb a * (t.emb a)⁻¹ = 1 := Lean.Grind.Field.mul_inv_cancel h2
    grind
theorem emb_le : ∀ {K : OF} (t : Tow K) (a : Rat), 0 ≤ a → 0 ≤ t.emb a
  | _, .base, a, h => h
  | _, .ext t s h, a, g => by
    have ih := emb_le t a g
    show Quad.nn (_ - _)
    left
    have e : t.emb a - 0 = t.emb a := by grind
    refine ⟨?_, ?_⟩
    · show 0 ≤ (t.emb a - 0) * (t.emb a - 0) - (0 - 0) * (0 - 0) * s
      have := sq_nn (t.emb a)
      grind
    · show 0 ≤ t.emb a - 0
      rw [e]; exact ih
end
/-! told: one form -/
theorem eqv_tup2 {a b c d : PyData} : PyData.eqv (.tuple [a, b]) (.tuple [c, d]) = (PyData.eqv a c && PyData.eqv b d) := by
  simp [PyData.eqv, PyData.eqvAll]
theorem eqv_tup3 {a b e c d f : PyData} : PyData.eqv (.tuple [a, b, e]) (.tuple [c, d, f]) = (PyData.eqv a c && (PyData.eqv b d && PyData.eqv e f)) := by
  simp [PyData.eqv, PyData.eqvAll]
theorem eqv_tup23 {a b c d f : PyData} : PyData.eqv (.tuple [a, b]) (.tuple [c, d, f]) = false := by
  simp [PyData.eqv, PyData.eqvAll]
theorem eqv_tup32 {a b c d f : PyData} : PyData.eqv (.tuple [c, d, f]) (.tuple [a, b]) = false := by
  simp [PyData.eqv, PyData.eqvAll]
theorem eqv_int {i j : Int} : PyData.eqv (.int i) (.int j) = decide (i = j) := by
  rw [PyData.eqv]
  by_cases h : i = j <;> simp [h]
/-- a tuple of three begins with a place that is below the height -/
theorem told_low : ∀ {K : OF} (t : Tow K) (u : K.C), (∃ a b, t.told u = .tuple [.int a, .int b]) ∨ (∃ (k : Nat) (a b : PyData), k < t.ht ∧ t.told u = .tuple [.int k, a, b])
  | _, .base, u => .inl ⟨_, _, rfl⟩
  | _, .ext t s h, u => by
    rw [told]
    split
    · rcases told_low t (OF.q u).re with h | ⟨k, a, b, h1, h2⟩
      · exact .inl h
      · exact .inr ⟨k, a, b, Nat.lt_succ_of_lt h1, h2⟩
    · exact .inr ⟨t.ht, _, _, Nat.lt_succ_self _, rfl⟩
theorem told_eqv : ∀ {K : OF} (t : Tow K) (u v : K.C), PyData.eqv (t.told u) (t.told v) = decide (u = v)
  | _, .base, u, v => by
    rw [told, told, eqv_tup2, eqv_int, eqv_int]
    by_cases e : u = v
    · subst e; simp
    · rw [decide_eq_false e]
      have : ¬ ((OF.r u).num = (OF.r v).num ∧ (OF.r u).den = (OF.r v).den) := fun ⟨a, b⟩ => e (Rat.ext a b)
      rcases Classical.not_and_iff_not_or_not.mp this with z | z
      · simp [z]
      · have z' : ¬ (((OF.r u).den : Int) = ((OF.r v).den : Int)) := fun q => z (by exact_mod_cast q)
        rw [decide_eq_false z']; simp
  | _, .ext t s h, u, v => by
    have ext_iff : (u = v) ↔ ((OF.q u).re = (OF.q v).re ∧ (OF.q u).im = (OF.q v).im) := ⟨fun e => by subst e; exact ⟨rfl, rfl⟩, fun ⟨a, b⟩ => Quad.ext a b⟩
    rw [told, told]
    by_cases cu : (OF.q u).im = 0
    · by_cases cv : (OF.q v).im = 0
      · rw [if_pos cu, if_pos cv, told_eqv t]
        exact decide_eq_decide.mpr ⟨fun e => ext_iff.mpr ⟨e, cu.trans cv.symm⟩, fun e => (ext_iff.mp e).1⟩
      · rw [if_pos cu, if_neg cv, decide_eq_false (fun e => cv ((ext_iff.mp e).2.symm.trans cu))]
        rcases told_low t (OF.q u).re with ⟨a, b, e⟩ | ⟨k, a, b, hk, e⟩
        · rw [e]; exact eqv_tup23
        · rw [e, eqv_tup3, eqv_int, decide_eq_false (by omega)]; rfl
    · by_cases cv : (OF.q v).im = 0
      · rw [if_neg cu, if_pos cv, decide_eq_false (fun e => cu ((ext_iff.mp e).2.trans cv))]
        rcases told_low t (OF.q v).re with ⟨a, b, e⟩ | ⟨k, a, b, hk, e⟩
        · rw [e]; exact eqv_tup32
        · rw [e, eqv_tup3, eqv_int, decide_eq_false (by omega)]; rfl
      · rw [if_neg cu, if_neg cv, eqv_tup3, eqv_int, told_eqv t, told_eqv t, decide_eq_true rfl, Bool.true_and, ← Bool.decide_and]
        exact decide_eq_decide.mpr ext_iff.symm
theorem told_ok : ∀ {K : OF} (t : Tow K) (u : K.C), (t.told u).canLay0 = true ∧ (t.told u).depth ≤ t.ht + 1
  | _, .base, u => by
    rw [told]
    constructor
    · simp [PyData.canLay0, PyData.canLayAll0]
    · simp [PyData.depth, PyData.depthAll]
  | _, .ext t s h, u => by
    rw [told]
    split
    · exact ⟨(told_ok t _).1, Nat.le_succ_of_le (told_ok t _).2⟩
    · have h1 := told_ok t (OF.q u).re
      have h2 := told_ok t (OF.q u).im
      constructor
      · simp [PyData.canLay0, PyData.canLayAll0, h1.1, h2.1]
      · simp only [PyData.depth, PyData.depthAll, ht]
        omega
theorem told_shaped {K : OF} (t : Tow K) (u : K.C) (h : t.ht ≤ 60) : SeqAt.shaped (t.told u) = true := by
  have := told_ok t u
  unfold SeqAt.shaped
  rw [this.1, decide_eq_true (by omega)]
  rfl
/-! sizes -/
theorem log_le {a n : Nat} (h : a < 2 ^ n) (h0 : 0 < n) : a.log2 + 1 ≤ n := by
  by_cases c : a = 0
  · subst c; exact h0
  · have := (Nat.log2_lt c).mpr h
    omega
theorem lt_pow {a n : Nat} (h : a.log2 + 1 ≤ n) : a < 2 ^ n := by
  by_cases c : a = 0
  · subst c; exact Nat.two_pow_pos n
  · exact (Nat.log2_lt c).mp (by omega)
theorem bits_pos (q : Rat) : 1 ≤ bits q := by unfold bits; omega
theorem bits_num {q : Rat} {n : Nat} (h : bits q ≤ n) : q.num.natAbs < 2 ^ n ∧ q.den < 2 ^ n := by
  unfold bits at h
  exact ⟨lt_pow (by omega), lt_pow (by omega)⟩
theorem bits_of {q : Rat} {n : Nat} (h1 : q.num.natAbs < 2 ^ n) (h2 : q.den < 2 ^ n) : bits q ≤ n := by
  have : 0 < n := by
    rcases Nat.eq_zero_or_pos n with z | z
    · subst z
      have := q.den_pos
      omega
    · exact z
  unfold bits
  have z1 := log_le h1 this
  have z2 := log_le h2 this
  omega
theorem divInt_num_le (a b : Int) : (Rat.divInt a b).num.natAbs ≤ a.natAbs := by
  rw [Rat.num_divInt, Int.natAbs_ediv_of_dvd, Int.natAbs_mul, Int.natAbs_natCast]
  · refine Nat.le_trans (Nat.div_le_self _ _) ?_
    have : b.sign.natAbs ≤ 1 := by
      rcases Int.lt_trichotomy b 0 with h | h | h
      · rw [Int.sign_eq_neg_one_of_neg h]; decide
      · subst h; decide
      · rw [Int.sign_eq_one_of_pos h]; decide
    exact Nat.le_trans (Nat.mul_le_mul_right _ this) (by omega)
  · exact Int.dvd_trans (Int.gcd_dvd_right ..) (Int.dvd_mul_left ..)
theorem divInt_den_le {a b : Int} (h : b ≠ 0) : (Rat.divInt a b).den ≤ b.natAbs := by
  rw [Rat.den_divInt, if_neg h]
  exact Nat.div_le_self _ _
theorem bits_divInt {a b : Int} {n : Nat} (h : b ≠ 0) (h1 : a.natAbs < 2 ^ n) (h2 : b.natAbs < 2 ^ n) : bits (Rat.divInt a b) ≤ n :=
  bits_of (Nat.lt_of_le_of_lt (divInt_num_le a b) h1) (Nat.lt_of_le_of_lt (divInt_den_le h) h2)
theorem rat_add (a b : Rat) : a + b = Rat.divInt (a.num * b.den + b.num * a.den) (a.den * b.den) := by
  have ha : ((a.den : Nat) : Int) ≠ 0 := by have := a.den_nz; omega
  have hb : ((b.den : Nat) : Int) ≠ 0 := by have := b.den_nz; omega
  rw [← Rat.divInt_add_divInt _ _ ha hb, Rat.num_divInt_den, Rat.num_divInt_den]
theorem rat_mul (a b : Rat) : a * b = Rat.divInt (a.num * b.num) (a.den * b.den) := by
  rw [← Rat.divInt_mul_divInt, Rat.num_divInt_den, Rat.num_divInt_den]
theorem mul_lt_pow {a b n m : Nat} (h : a < 2 ^ n) (g : b < 2 ^ m) : a * b < 2 ^ (n + m) := by
  rw [Nat.pow_add]; exact Nat.mul_lt_mul'' h g
theorem bits_add {a b : Rat} {n m : Nat} (h : bits a ≤ n) (g : bits b ≤ m) : bits (a + b) ≤ n + m + 1 := by
  obtain ⟨h1, h2⟩ := bits_num h
  obtain ⟨g1, g2⟩ := bits_num g
  have := a.den_nz
  have := b.den_nz
  have x1 := mul_lt_pow h1 g2
  have x2 := mul_lt_pow g1 h2
  have x3 := mul_lt_pow h2 g2
  have e : 2 ^ (n + m + 1) = 2 * 2 ^ (n + m) := by rw [Nat.pow_succ, Nat.mul_comm]
  rw [rat_add]
  refine bits_divInt (by exact_mod_cast Nat.mul_ne_zero a.den_nz b.den_nz) ?_ ?_
  · refine Nat.lt_of_le_of_lt (Int.natAbs_add_le _ _) ?_
    rw [Int.natAbs_mul, Int.natAbs_mul, Int.natAbs_natCast, Int.natAbs_natCast, e, Nat.add_comm m n] at *
    omega
  · rw [Int.natAbs_mul, Int.natAbs_natCast, Int.natAbs_natCast]
    omega
theorem bits_mul {a b : Rat} {n m : Nat} (h : bits a ≤ n) (g : bits b ≤ m) : bits (a * b) ≤ n + m := by
  obtain ⟨h1, h2⟩ := bits_num h
  obtain ⟨g1, g2⟩ := bits_num g
  rw [rat_mul]
  refine bits_divInt (by exact_mod_cast Nat.mul_ne_zero a.den_nz b.den_nz) ?_ ?_
  · rw [Int.natAbs_mul]; exact mul_lt_pow h1 g1
  · rw [Int.natAbs_mul, Int.natAbs_natCast, Int.natAbs_natCast]; exact mul_lt_pow h2 g2
theorem bits_neg (a : Rat) : bits (-a) = bits a := by
  unfold bits
  rw [Rat.neg_num, Rat.neg_den, Int.natAbs_neg]
theorem bits_inv {a : Rat} {n : Nat} (h : bits a ≤ n) : bits (a⁻¹) ≤ n := by
  by_cases c : a = 0
  · subst c; rw [Rat.inv_zero]; exact h
  · obtain ⟨h1, h2⟩ := bits_num h
    rw [Rat.inv_def]
    refine bits_divInt (fun e => c (Rat.num_eq_zero.mp e)) ?_ h1
    rw [Int.natAbs_natCast]; exact h2
section
theorem mB_mono : ∀ {h z n m n' m' : Nat}, n ≤ n' → m ≤ m' → mB h z n m ≤ mB h z n' m'
  | 0, z, n, m, n', m', a, b => by simp only [mB]; omega
  | h + 1, z, n, m, n', m', a, b => by
    simp only [mB]
    have i1 := mB_mono (h := h) (z := z) a b
    have i2 := mB_mono (h := h) (z := z) i1 (Nat.le_refl z)
    omega
theorem mB_up {h z n m : Nat} : mB h z n m ≤ mB (h + 1) z n m := by simp only [mB]; omega
theorem mB_ge : ∀ {h z n m : Nat}, n + m ≤ mB h z n m
  | 0, z, n, m => Nat.le_refl _
  | h + 1, z, n, m => Nat.le_trans mB_ge mB_up
theorem sz_add : ∀ {K : OF} (t : Tow K) {u v : K.C} {n m : Nat}, t.sz u ≤ n → t.sz v ≤ m → t.sz (u + v) ≤ n + m + 1
  | _, .base, u, v, n, m, a, b => bits_add a b
  | _, .ext t s h, u, v, n, m, a, b => by
    simp only [sz] at a b ⊢
    have := sz_add t (u := (OF.q u).re) (v := (OF.q v).re) (n := n) (m := m) (by omega) (by omega)
    have := sz_add t (u := (OF.q u).im) (v := (OF.q v).im) (n := n) (m := m) (by omega) (by omega)
    exact Nat.max_le.mpr ⟨by assumption, by assumption⟩
theorem sz_neg : ∀ {K : OF} (t : Tow K) (u : K.C), t.sz (-u) = t.sz u
  | _, .base, u => bits_neg _
  | _, .ext t s h, u => by
    show max (t.sz (-(OF.q u).re)) (t.sz (-(OF.q u).im)) = _
    rw [sz_neg t, sz_neg t]; rfl
theorem sz_sub {K : OF} (t : Tow K) {u v : K.C} {n m : Nat} (a : t.sz u ≤ n) (b : t.sz v ≤ m) : t.sz (u - v) ≤ n + m + 1 := by
  rw [Lean.Grind.Ring.sub_eq_add_neg]
  exact sz_add t a (by rw [sz_neg]; exact b)
theorem sz_mul : ∀ {K : OF} (t : Tow K) {z : Nat} {u v : K.C} {n m : Nat}, t.Sm z → t.sz u ≤ n → t.sz v ≤ m → t.sz (u * v) ≤ mB t.ht z n m
  | _, .base, z, u, v, n, m, _, a, b => bits_mul a b
  | _, .ext t s h, z, u, v, n, m, hz, a, b => by
    simp only [sz] at a b
    have a1 : t.sz (OF.q u).re ≤ n := by omega
    have a2 : t.sz (OF.q u).im ≤ n := by omega
    have b1 : t.sz (OF.q v).re ≤ m := by omega
    have b2 : t.sz (OF.q v).im ≤ m := by omega
    have i1 := sz_mul t hz.1 a1 b1
    have i2 := sz_mul t hz.1 a2 b2
    have i3 := sz_mul t hz.1 i2 hz.2
    have i4 := sz_mul t hz.1 a1 b2
    have i5 := sz_mul t hz.1 a2 b1
    have k1 := sz_add t i1 i3
    have k2 := sz_add t i4 i5
    have g := mB_ge (h := t.ht) (z := z) (n := mB t.ht z n m) (m := z)
    show max (t.sz ((OF.q u).re * (OF.q v).re + (OF.q u).im * (OF.q v).im * s)) (t.sz ((OF.q u).re * (OF.q v).im + (OF.q u).im * (OF.q v).re)) ≤ mB t.ht z n m + mB t.ht z (mB t.ht z n m) z + 1
    omega
theorem sz_nrm {K : OF} (t : Tow K) {s : K.C} {z : Nat} (hz : t.Sm z) (hs : t.sz s ≤ z) {u : Quad K.C s} {n : Nat} (a1 : t.sz u.re ≤ n) (a2 : t.sz u.im ≤ n) : t.sz (Quad.nrm u) ≤ nB t.ht z n := by
  have i1 := sz_mul t hz a1 a1
  have i2 := sz_mul t hz a2 a2
  have i3 := sz_mul t hz i2 hs
  exact sz_sub t i1 i3
theorem sz_inv : ∀ {K : OF} (t : Tow K) {z : Nat} {u : K.C} {n : Nat}, t.Sm z → t.sz u ≤ n → t.sz (u⁻¹) ≤ iB t.ht z n
  | _, .base, z, u, n, _, a => bits_inv a
  | _, .ext t s h, z, u, n, hz, a => by
    simp only [sz] at a
    have a1 : t.sz (OF.q u).re ≤ n := by omega
    have a2 : t.sz (OF.q u).im ≤ n := by omega
    have i := sz_inv t hz.1 (sz_nrm t hz.1 hz.2 a1 a2)
    have j1 := sz_mul t hz.1 a1 i
    have j2 := sz_mul t hz.1 (show t.sz (-(OF.q u).im) ≤ n by rw [sz_neg]; exact a2) i
    exact Nat.max_le.mpr ⟨j1, j2⟩
theorem sz_emb : ∀ {K : OF} (t : Tow K) (q : Rat), t.sz (t.emb q) ≤ bits q
  | _, .base, q => Nat.le_refl _
  | _, .ext t s h, q => by
    have := sz_emb t q
    have h0 := sz_emb t 0
    rw [emb_zero] at h0
    have e : bits 0 = 1 := by decide
    have := bits_pos q
    show max (t.sz (t.emb q)) (t.sz 0) ≤ bits q
    omega
end
/-! how they lie in the heap -/
/-- the classes -/
structure Cl where
  F : Addr
  M : Addr
  R : Addr
def fracR (c : Cl) (q : Rat) : Rp := ObjR c.F [("top", IntR q.num), ("bottom", IntR q.den)]
def NumR (c : Cl) : {K : OF} → (t : Tow K) → K.C → Rp
  | _, .base, u => fracR c u
  | _, .ext t s h, u => if (OF.q u).im = 0 then NumR c t (OF.q u).re else
      ObjR c.M [("plain", NumR c t (OF.q u).re), ("part", NumR c t (OF.q u).im), ("root", ObjR c.R [("place", IntR t.ht), ("square", NumR c t s)])]
def RootR (c : Cl) {K : OF} (t : Tow K) (s : K.C) : Rp := ObjR c.R [("place", IntR t.ht), ("square", NumR c t s)]
def MixR (c : Cl) {K : OF} (t : Tow K) (s a b : K.C) : Rp := ObjR c.M [("plain", NumR c t a), ("part", NumR c t b), ("root", RootR c t s)]
section
variable {c : Cl}
theorem numR_ext {K : OF} {t : Tow K} {s : K.C} {h : NSq s} (u : (K.ext s h).C) : NumR c (.ext t s h) u = if (OF.q u).im = 0 then NumR c t (OF.q u).re else MixR c t s (OF.q u).re (OF.q u).im := by
  rw [NumR]; rfl
theorem numR_low {K : OF} {t : Tow K} {s : K.C} {h : NSq s} {a : K.C} : NumR c (.ext t s h) (show (K.ext s h).C from (⟨a, 0⟩ : Quad _ s)) = NumR c t a :=
  (numR_ext _).trans (if_pos rfl)
theorem numR_mix {K : OF} {t : Tow K} {s : K.C} {h : NSq s} {a b : K.C} (hb : b ≠ 0) : NumR c (.ext t s h) (show (K.ext s h).C from (⟨a, b⟩ : Quad _ s)) = MixR c t s a b :=
  (numR_ext _).trans (if_neg hb)
theorem numR_emb : ∀ {K : OF} (t : Tow K) (q : Rat), NumR c t (t.emb q) = fracR c q
  | _, .base, q => by rw [NumR]; rfl
  | _, .ext t s h, q => (numR_low (a := t.emb q)).trans (numR_emb t q)
end
end Rl

set_option Elab.async false
set_option linter.all false
set_option maxRecDepth 100000
set_option maxHeartbeats 4000000
/-! The lowest storey in which two numbers stand. -/
namespace Rl
open PySem PySem.Spec PyProof.Rows L2 NdefX LamX Tow

structure Nf (c : Cl) {K K' : OF} (t : Tow K) (t' : Tow K') (u v : K.C) (u' v' : K'.C) : Prop where
  ht : t'.ht ≤ t.ht
  sm : ∀ z, t.Sm z → t'.Sm z
  ru : NumR c t u = NumR c t' u'
  rv : NumR c t v = NumR c t' v'
  radd : NumR c t (u + v) = NumR c t' (u' + v')
  rmul : NumR c t (u * v) = NumR c t' (u' * v')
  rneg : NumR c t (-u) = NumR c t' (-u')
  rinv : NumR c t (u⁻¹) = NumR c t' (u'⁻¹)
  su : t'.sz u' ≤ t.sz u
  sv : t'.sz v' ≤ t.sz v
  stu : t'.st u' = t.st u
  stv : t'.st v' = t.st v
  tu : t'.told u' = t.told u
  zu : u = 0 ↔ u' = 0
theorem Nf.refl (c : Cl) {K : OF} (t : Tow K) (u v : K.C) : Nf c t t u v u v := ⟨Nat.le_refl _, fun _ h => h, rfl, rfl, rfl, rfl, rfl, rfl, Nat.le_refl _, Nat.le_refl _, rfl, rfl, rfl, Iff.rfl⟩
theorem Nf.trans {c : Cl} {K K' K'' : OF} {t : Tow K} {t' : Tow K'} {t'' : Tow K''} {u v : K.C} {u' v' : K'.C} {u'' v'' : K''.C} (a : Nf c t t' u v u' v') (b : Nf c t' t'' u' v' u'' v'') : Nf c t t'' u v u'' v'' :=
  ⟨Nat.le_trans b.ht a.ht, fun z h => b.sm z (a.sm z h), a.ru.trans b.ru, a.rv.trans b.rv, a.radd.trans b.radd, a.rmul.trans b.rmul, a.rneg.trans b.rneg, a.rinv.trans b.rinv, Nat.le_trans b.su a.su, Nat.le_trans b.sv a.sv, b.stu.trans a.stu, b.stv.trans a.stv, b.tu.trans a.tu, a.zu.trans b.zu⟩
section
variable {K : OF} {t : Tow K} {s : K.C} {h : NSq s}
theorem low_st (u : (K.ext s h).C) (hu : (OF.q u).im = 0) : (Tow.ext t s h).st u = t.st (OF.q u).re := by rw [Tow.st, if_pos hu]
theorem high_st (u : (K.ext s h).C) (hu : (OF.q u).im ≠ 0) : (Tow.ext t s h).st u = t.ht + 1 := by rw [Tow.st, if_neg hu]
theorem st_le : ∀ {K : OF} (t : Tow K) (u : K.C), t.st u ≤ t.ht
  | _, .base, _ => Nat.le_refl _
  | _, .ext t s h, u => by
    rw [Tow.st]
    split
    · exact Nat.le_succ_of_le (st_le t _)
    · exact Nat.le_refl _
theorem Nf.low {c : Cl} (u v : (K.ext s h).C) (hu : (OF.q u).im = 0) (hv : (OF.q v).im = 0) : Nf c (.ext t s h) t u v (OF.q u).re (OF.q v).re := by
  have eu : NumR c (.ext t s h) u = NumR c t (OF.q u).re := (numR_ext u).trans (if_pos hu)
  have ev : NumR c (.ext t s h) v = NumR c t (OF.q v).re := (numR_ext v).trans (if_pos hv)
  have ei : (OF.q (u⁻¹)).re = (OF.q u).re⁻¹ := by
    show (OF.q u).re * (Quad.nrm (OF.q u))⁻¹ = _
    have e : Quad.nrm (OF.q u) = (OF.q u).re * (OF.q u).re := by
      unfold Quad.nrm
      rw [hu]; grind
    rw [e]
    by_cases c : (OF.q u).re = 0
    · rw [c]; grind
    · grind
  refine ⟨Nat.le_succ _, fun z hz => hz.1, eu, ev, ?_, ?_, ?_, ?_, ?_, ?_, (low_st u hu).symm, (low_st v hv).symm, ?_, ?_⟩
  · refine (numR_ext (u + v)).trans (if_pos ?_)
    show (OF.q u).im + (OF.q v).im = 0
    rw [hu, hv]; grind
  · have e : (OF.q (u * v)).re = (OF.q u).re * (OF.q v).re := by
      show (OF.q u).re * (OF.q v).re + (OF.q u).im * (OF.q v).im * s = _
      rw [hu]; grind
    rw [← e]
    refine (numR_ext (u * v)).trans (if_pos ?_)
    show (OF.q u).re * (OF.q v).im + (OF.q u).im * (OF.q v).re = 0
    rw [hu, hv]; grind
  · refine (numR_ext (-u)).trans (if_pos ?_)
    show -(OF.q u).im = 0
    rw [hu]; grind
  · rw [← ei]
    refine (numR_ext (u⁻¹)).trans (if_pos ?_)
    show -(OF.q u).im * _ = 0
    rw [hu]; grind
  · show t.sz (OF.q u).re ≤ max _ _
    omega
  · show t.sz (OF.q v).re ≤ max _ _
    omega
  · rw [told, if_pos hu]
  · constructor
    · intro e; rw [e]; rfl
    · intro e; exact Quad.ext e hu
end
theorem nf (c : Cl) : ∀ {K : OF} (t : Tow K) (u v : K.C), (∃ a b : Rat, Nf c t .base u v a b) ∨ (∃ (K' : OF) (t' : Tow K') (s : K'.C) (h : NSq s) (u' v' : (K'.ext s h).C), Nf c t (.ext t' s h) u v u' v' ∧ ((OF.q u').im ≠ 0 ∨ (OF.q v').im ≠ 0))
  | _, .base, u, v => .inl ⟨u, v, Nf.refl c _ _ _⟩
  | _, .ext t s h, u, v => by
    by_cases hu : (OF.q u).im = 0
    · by_cases hv : (OF.q v).im = 0
      · have L := Nf.low (c := c) (t := t) u v hu hv
        rcases nf c t (OF.q u).re (OF.q v).re with ⟨a, b, F⟩ | ⟨K', t', s', h', u', v', F, q⟩
        · exact .inl ⟨a, b, L.trans F⟩
        · exact .inr ⟨K', t', s', h', u', v', L.trans F, q⟩
      · exact .inr ⟨_, t, s, h, u, v, Nf.refl c _ _ _, .inr hv⟩
    · exact .inr ⟨_, t, s, h, u, v, Nf.refl c _ _ _, .inl hu⟩
/-- what it is made of -/
theorem num_form (c : Cl) : ∀ {K : OF} (t : Tow K) (u : K.C), (t.st u = 0 ∧ ∃ A B : Rp, NumR c t u = ObjR c.F [("top", A), ("bottom", B)]) ∨ (0 < t.st u ∧ ∃ A B D : Rp, NumR c t u = ObjR c.M [("plain", A), ("part", B), ("root", D)])
  | _, .base, u => .inl ⟨rfl, _, _, by rw [NumR]; rfl⟩
  | _, .ext t s h, u => by
    by_cases hu : (OF.q u).im = 0
    · rw [low_st u hu, numR_ext, if_pos hu]
      exact num_form c t _
    · rw [high_st u hu, numR_ext, if_neg hu]
      exact .inr ⟨Nat.succ_pos _, _, _, _, rfl⟩
theorem mB_h : ∀ {h h' z n m : Nat}, h ≤ h' → mB h z n m ≤ mB h' z n m := by
  intro h h' z n m le
  induction h' with
  | zero => rw [Nat.le_zero.mp le]; exact Nat.le_refl _
  | succ k ih =>
    rcases Nat.lt_or_ge k h with q | q
    · rw [show h = k + 1 by omega]; exact Nat.le_refl _
    · exact Nat.le_trans (ih q) mB_up
theorem nB_mono {h z n n' : Nat} (a : n ≤ n') : nB h z n ≤ nB h z n' := by
  unfold nB
  have i1 := mB_mono (h := h) (z := z) a a
  have i2 := mB_mono (h := h) (z := z) i1 (Nat.le_refl z)
  omega
theorem nB_ge {h z n : Nat} : n ≤ nB h z n := by
  unfold nB
  have := mB_ge (h := h) (z := z) (n := n) (m := n)
  omega
theorem iB_mono : ∀ {h z n n' : Nat}, n ≤ n' → iB h z n ≤ iB h z n'
  | 0, z, n, n', a => a
  | h + 1, z, n, n', a => by
    simp only [iB]
    exact mB_mono a (iB_mono (nB_mono a))
theorem iB_ge : ∀ {h z n : Nat}, n ≤ iB h z n
  | 0, z, n => Nat.le_refl _
  | h + 1, z, n => by
    simp only [iB]
    have := mB_ge (h := h) (z := z) (n := n) (m := iB h z (nB h z n))
    omega
theorem iB_up {h z n : Nat} : iB h z n ≤ iB (h + 1) z n := by
  have e : iB (h + 1) z n = mB h z n (iB h z (nB h z n)) := rfl
  rw [e]
  have := mB_ge (h := h) (z := z) (n := n) (m := iB h z (nB h z n))
  have := iB_mono (h := h) (z := z) (nB_ge (h := h) (z := z) (n := n))
  omega
theorem iB_h : ∀ {h h' z n : Nat}, h ≤ h' → iB h z n ≤ iB h' z n := by
  intro h h' z n le
  induction h' with
  | zero => rw [Nat.le_zero.mp le]; exact Nat.le_refl _
  | succ k ih =>
    rcases Nat.lt_or_ge k h with q | q
    · rw [show h = k + 1 by omega]; exact Nat.le_refl _
    · exact Nat.le_trans (ih q) iB_up
theorem sz_pos : ∀ {K : OF} (t : Tow K) (u : K.C), 1 ≤ t.sz u
  | _, .base, u => bits_pos _
  | _, .ext t s h, u => by
    have := sz_pos t (OF.q u).re
    show 1 ≤ max (t.sz (OF.q u).re) (t.sz (OF.q u).im)
    omega
end Rl

set_option Elab.async false
set_option linter.all false
set_option maxRecDepth 100000
set_option maxHeartbeats 4000000
/-! What has no root among the fractions. -/
namespace Rl
theorem nsq_int {n f : Int} (h0 : 0 ≤ f) (h1 : f * f < n) (h2 : n < (f + 1) * (f + 1)) : NSq (n : Rat) := by
  have hff : 0 ≤ f * f := Int.mul_nonneg h0 h0
  constructor
  · exact_mod_cast (show (0 : Int) < n by omega)
  · intro x hx
    have hd : ((x.den : Nat) : Int) ≠ 0 := by have := x.den_nz; omega
    have e1 : (n : Rat) = Rat.divInt n 1 := by rw [← Rat.num_divInt_den (n : Rat), Rat.num_intCast, Rat.den_intCast]; rfl
    rw [rat_mul, e1, Rat.divInt_eq_divInt_iff (Int.mul_ne_zero hd hd) (by decide)] at hx
    have e2 : x.num.natAbs * x.num.natAbs = n.natAbs * (x.den * x.den) := by
      have := congrArg Int.natAbs hx
      rw [Int.mul_one, Int.natAbs_mul, Int.natAbs_mul, Int.natAbs_mul, Int.natAbs_natCast] at this
      exact this
    have hdv : x.den ∣ x.num.natAbs * x.num.natAbs := ⟨n.natAbs * x.den, by rw [e2]; simp only [Nat.mul_comm, Nat.mul_left_comm, Nat.mul_assoc]⟩
    have hc : Nat.Coprime x.den x.num.natAbs := x.reduced.symm
    have hd1 : x.den ∣ x.num.natAbs := hc.dvd_of_dvd_mul_left hdv
    have h1' : x.den = 1 := Nat.Coprime.eq_one_of_dvd hc hd1
    rw [h1'] at e2
    simp only [Nat.mul_one] at e2
    have hn : (n.natAbs : Int) = n := by omega
    have e3 : ((x.num.natAbs * x.num.natAbs : Nat) : Int) = n := by rw [e2]; exact hn
    rcases Nat.lt_or_ge f.toNat x.num.natAbs with q | q
    · have : (f.toNat + 1) * (f.toNat + 1) ≤ x.num.natAbs * x.num.natAbs := Nat.mul_le_mul q q
      have e4 : (((f.toNat + 1) * (f.toNat + 1) : Nat) : Int) = (f + 1) * (f + 1) := by
        rw [Int.natCast_mul, Int.natCast_add, Int.toNat_of_nonneg h0]; rfl
      omega
    · have : x.num.natAbs * x.num.natAbs ≤ f.toNat * f.toNat := Nat.mul_le_mul q q
      have e4 : ((f.toNat * f.toNat : Nat) : Int) = f * f := by
        rw [Int.natCast_mul, Int.toNat_of_nonneg h0]
      omega
theorem nsq_scale {F : Type} [OFld F] {p s : F} (h : NSq p) (hs : s ≠ 0) : NSq (p * s * s) := by
  constructor
  · have := mul_pos' h.pos (sq_pos hs)
    grind
  · intro x hx
    refine h.ns (x / s) ?_
    have : s * s⁻¹ = 1 := Lean.Grind.Field.mul_inv_cancel hs
    have e : x / s = x * s⁻¹ := Lean.Grind.Field.div_eq_mul_inv x s
    rw [e]
    grind
end Rl

set_option Elab.async false
set_option linter.all false
set_option maxRecDepth 100000
set_option maxHeartbeats 4000000
namespace Rl
open PySem PySem.Spec PyProof.Rows L2 NdefX LamX
def topS (i : Nat) : Stmt := PySem.Challenge.pw_rodleg_k77_movings_behind_one_another.main.body.getD i (.Pass ⟨0, 0, 0, 0⟩)
abbrev s__wall : Stmt := topS 0
abbrev n__wall : List Str := ["k"]
theorem sc__wall : FnScope n__wall ["k"] (defScope s__wall) := ⟨rfl, rfl, rfl, by decide +kernel, rfl, by decide +kernel, by decide +kernel⟩
abbrev s_way_of : Stmt := topS 2
abbrev n_way_of : List Str := ["way"]
theorem sc_way_of : FnScope n_way_of ["way"] (defScope s_way_of) := ⟨rfl, rfl, rfl, by decide +kernel, rfl, by decide +kernel, by decide +kernel⟩
abbrev s_mixed : Stmt := topS 12
abbrev n_mixed : List Str := ["plain", "part", "root"]
theorem sc_mixed : FnScope n_mixed ["plain", "part", "root"] (defScope s_mixed) := ⟨rfl, rfl, rfl, by decide +kernel, rfl, by decide +kernel, by decide +kernel⟩
abbrev s_alike : Stmt := topS 14
abbrev n_alike : List Str := ["one", "other"]
theorem sc_alike : FnScope n_alike ["one", "other"] (defScope s_alike) := ⟨rfl, rfl, rfl, by decide +kernel, rfl, by decide +kernel, by decide +kernel⟩
abbrev s_common : Stmt := topS 19
abbrev n_common : List Str := ["one", "other"]
theorem sc_common : FnScope n_common ["one", "other"] (defScope s_common) := ⟨rfl, rfl, rfl, by decide +kernel, rfl, by decide +kernel, by decide +kernel⟩
abbrev s_ways_between : Stmt := topS 23
abbrev n_ways_between : List Str := ["a", "b", "c", "d", "ux", "uy"]
theorem sc_ways_between : FnScope n_ways_between ["a", "b", "c", "d"] (defScope s_ways_between) := ⟨rfl, rfl, rfl, by decide +kernel, rfl, by decide +kernel, by decide +kernel⟩
abbrev s_carrying : Stmt := topS 24
abbrev n_carrying : List Str := ["a", "b", "c", "d", "ux", "uy", "vx", "vy", "whole", "p", "q", "carried"]
theorem sc_carrying : FnScope n_carrying ["a", "b", "c", "d"] (defScope s_carrying) := ⟨rfl, rfl, rfl, by decide +kernel, rfl, by decide +kernel, by decide +kernel⟩
abbrev s_mirroring : Stmt := topS 25
abbrev n_mirroring : List Str := ["a", "b", "c", "d", "ux", "uy", "vx", "vy", "whole", "p", "q", "mirrored"]
theorem sc_mirroring : FnScope n_mirroring ["a", "b", "c", "d"] (defScope s_mirroring) := ⟨rfl, rfl, rfl, by decide +kernel, rfl, by decide +kernel, by decide +kernel⟩
abbrev s_behind : Stmt := topS 26
abbrev n_behind : List Str := ["first", "second", "moved"]
theorem sc_behind : FnScope n_behind ["first", "second"] (defScope s_behind) := ⟨rfl, rfl, rfl, by decide +kernel, rfl, by decide +kernel, by decide +kernel⟩
abbrev s__law_cell_at : Stmt := topS 28
abbrev n__law_cell_at : List Str := ["_law_script", "_law_k"]
theorem sc__law_cell_at : FnScope n__law_cell_at ["_law_script", "_law_k"] (defScope s__law_cell_at) := ⟨rfl, rfl, rfl, by decide +kernel, rfl, by decide +kernel, by decide +kernel⟩
abbrev s__law_mix : Stmt := topS 29
abbrev n__law_mix : List Str := ["_law_cell", "_law_k", "_law_mix_here"]
theorem sc__law_mix : FnScope n__law_mix ["_law_cell", "_law_k"] (defScope s__law_mix) := ⟨rfl, rfl, rfl, by decide +kernel, rfl, by decide +kernel, by decide +kernel⟩
abbrev s__law_fraction : Stmt := topS 30
abbrev n__law_fraction : List Str := ["_law_cell", "_law_great", "_law_top", "_law_bottom"]
theorem sc__law_fraction : FnScope n__law_fraction ["_law_cell", "_law_great"] (defScope s__law_fraction) := ⟨rfl, rfl, rfl, by decide +kernel, rfl, by decide +kernel, by decide +kernel⟩
abbrev s__law_scaled : Stmt := topS 31
abbrev n__law_scaled : List Str := ["_law_cell", "_law_number_here", "_law_size"]
theorem sc__law_scaled : FnScope n__law_scaled ["_law_cell", "_law_number_here"] (defScope s__law_scaled) := ⟨rfl, rfl, rfl, by decide +kernel, rfl, by decide +kernel, by decide +kernel⟩
abbrev s__law_chain : Stmt := topS 32
abbrev n__law_chain : List Str := ["_law_cell", "_law_many", "_law_floor_here", "_law_square", "_law_found", "_law_place", "_law_more"]
theorem sc__law_chain : FnScope n__law_chain ["_law_cell", "_law_many"] (defScope s__law_chain) := ⟨rfl, rfl, rfl, by decide +kernel, rfl, by decide +kernel, by decide +kernel⟩
abbrev s__law_floor : Stmt := topS 33
abbrev n__law_floor : List Str := ["_law_n", "_law_low", "_law_high", "_law_middle"]
theorem sc__law_floor : FnScope n__law_floor ["_law_n"] (defScope s__law_floor) := ⟨rfl, rfl, rfl, by decide +kernel, rfl, by decide +kernel, by decide +kernel⟩
abbrev s__law_roots : Stmt := topS 34
abbrev n__law_roots : List Str := ["_law_cell", "_law_many", "_law_primes", "_law_at", "_law_found", "_law_place", "_law_prime"]
theorem sc__law_roots : FnScope n__law_roots ["_law_cell", "_law_many"] (defScope s__law_roots) := ⟨rfl, rfl, rfl, by decide +kernel, rfl, by decide +kernel, by decide +kernel⟩
abbrev s__law_number : Stmt := topS 35
abbrev n__law_number : List Str := ["_law_cell", "_law_roots_here", "_law_great", "_law_plain"]
theorem sc__law_number : FnScope n__law_number ["_law_cell", "_law_roots_here", "_law_great"] (defScope s__law_number) := ⟨rfl, rfl, rfl, by decide +kernel, rfl, by decide +kernel, by decide +kernel⟩
abbrev s__law_point : Stmt := topS 36
abbrev n__law_point : List Str := ["_law_cell", "_law_roots_here", "_law_great", "_law_x"]
theorem sc__law_point : FnScope n__law_point ["_law_cell", "_law_roots_here"] (defScope s__law_point) := ⟨rfl, rfl, rfl, by decide +kernel, rfl, by decide +kernel, by decide +kernel⟩
abbrev s__law_four : Stmt := topS 37
abbrev n__law_four : List Str := ["_law_cell", "_law_roots_here", "_law_found", "_law_k", "_law_way"]
theorem sc__law_four : FnScope n__law_four ["_law_cell", "_law_roots_here"] (defScope s__law_four) := ⟨rfl, rfl, rfl, by decide +kernel, rfl, by decide +kernel, by decide +kernel⟩
abbrev s__law_moving : Stmt := topS 38
abbrev n__law_moving : List Str := ["_law_way", "_law_four_here", "_law_back", "_law_a", "_law_b", "_law_c", "_law_d"]
theorem sc__law_moving : FnScope n__law_moving ["_law_way", "_law_four_here", "_law_back"] (defScope s__law_moving) := ⟨rfl, rfl, rfl, by decide +kernel, rfl, by decide +kernel, by decide +kernel⟩
abbrev s__law_by_hand : Stmt := topS 39
abbrev n__law_by_hand : List Str := ["_law_n", "_law_spots", "_law_four_here", "_law_x", "_law_y", "_law_carried", "_law_mirrored", "_law_point_here", "_law_some", "_law_dues", "_law_one"]
theorem sc__law_by_hand : FnScope n__law_by_hand ["_law_n"] (defScope s__law_by_hand) := ⟨rfl, rfl, rfl, by decide +kernel, rfl, by decide +kernel, by decide +kernel⟩
abbrev s_law : Stmt := topS 40
abbrev n_law : List Str := ["_law_script", "_law_one", "_law_roots_here", "_law_fours", "_law_four_here", "_law_ways", "_law_first", "_law_second", "_law_both", "_law_round_trip", "_law_points", "_law_k", "_law_cell", "_law_point_here"]
theorem sc_law : FnScope n_law ["_law_script"] (defScope s_law) := ⟨rfl, rfl, rfl, by decide +kernel, rfl, by decide +kernel, by decide +kernel⟩
abbrev s_DrawError_init : Stmt := inClass (topS 5) 0
abbrev n_DrawError_init : List Str := ["self", "way", "number"]
theorem sc_DrawError_init : FnScope n_DrawError_init ["self", "way", "number"] (defScope s_DrawError_init) := ⟨rfl, rfl, rfl, by decide +kernel, rfl, by decide +kernel, by decide +kernel⟩
abbrev s_Number_minus : Stmt := inClass (topS 8) 0
abbrev n_Number_minus : List Str := ["self", "other"]
theorem sc_Number_minus : FnScope n_Number_minus ["self", "other"] (defScope s_Number_minus) := ⟨rfl, rfl, rfl, by decide +kernel, rfl, by decide +kernel, by decide +kernel⟩
abbrev s_Number_over : Stmt := inClass (topS 8) 1
abbrev n_Number_over : List Str := ["self", "other"]
theorem sc_Number_over : FnScope n_Number_over ["self", "other"] (defScope s_Number_over) := ⟨rfl, rfl, rfl, by decide +kernel, rfl, by decide +kernel, by decide +kernel⟩
abbrev s_Number_is_nought : Stmt := inClass (topS 8) 2
abbrev n_Number_is_nought : List Str := ["self"]
theorem sc_Number_is_nought : FnScope n_Number_is_nought ["self"] (defScope s_Number_is_nought) := ⟨rfl, rfl, rfl, by decide +kernel, rfl, by decide +kernel, by decide +kernel⟩
abbrev s_Root_init : Stmt := inClass (topS 10) 0
abbrev n_Root_init : List Str := ["self", "place", "square"]
theorem sc_Root_init : FnScope n_Root_init ["self", "place", "square"] (defScope s_Root_init) := ⟨rfl, rfl, rfl, by decide +kernel, rfl, by decide +kernel, by decide +kernel⟩
abbrev s_Mixed_init : Stmt := inClass (topS 11) 0
abbrev n_Mixed_init : List Str := ["self", "plain", "part", "root"]
theorem sc_Mixed_init : FnScope n_Mixed_init ["self", "plain", "part", "root"] (defScope s_Mixed_init) := ⟨rfl, rfl, rfl, by decide +kernel, rfl, by decide +kernel, by decide +kernel⟩
abbrev s_Mixed_plus : Stmt := inClass (topS 11) 1
abbrev n_Mixed_plus : List Str := ["self", "other"]
theorem sc_Mixed_plus : FnScope n_Mixed_plus ["self", "other"] (defScope s_Mixed_plus) := ⟨rfl, rfl, rfl, by decide +kernel, rfl, by decide +kernel, by decide +kernel⟩
abbrev s_Mixed_times : Stmt := inClass (topS 11) 2
abbrev n_Mixed_times : List Str := ["self", "other", "plain"]
theorem sc_Mixed_times : FnScope n_Mixed_times ["self", "other"] (defScope s_Mixed_times) := ⟨rfl, rfl, rfl, by decide +kernel, rfl, by decide +kernel, by decide +kernel⟩
abbrev s_Mixed_norm : Stmt := inClass (topS 11) 3
abbrev n_Mixed_norm : List Str := ["self", "square"]
theorem sc_Mixed_norm : FnScope n_Mixed_norm ["self"] (defScope s_Mixed_norm) := ⟨rfl, rfl, rfl, by decide +kernel, rfl, by decide +kernel, by decide +kernel⟩
abbrev s_Mixed_one_by : Stmt := inClass (topS 11) 4
abbrev n_Mixed_one_by : List Str := ["self", "below"]
theorem sc_Mixed_one_by : FnScope n_Mixed_one_by ["self"] (defScope s_Mixed_one_by) := ⟨rfl, rfl, rfl, by decide +kernel, rfl, by decide +kernel, by decide +kernel⟩
abbrev s_Mixed_is_nought : Stmt := inClass (topS 11) 5
abbrev n_Mixed_is_nought : List Str := ["self"]
theorem sc_Mixed_is_nought : FnScope n_Mixed_is_nought ["self"] (defScope s_Mixed_is_nought) := ⟨rfl, rfl, rfl, by decide +kernel, rfl, by decide +kernel, by decide +kernel⟩
abbrev s_Mixed_turned : Stmt := inClass (topS 11) 6
abbrev n_Mixed_turned : List Str := ["self"]
theorem sc_Mixed_turned : FnScope n_Mixed_turned ["self"] (defScope s_Mixed_turned) := ⟨rfl, rfl, rfl, by decide +kernel, rfl, by decide +kernel, by decide +kernel⟩
abbrev s_Mixed_sign : Stmt := inClass (topS 11) 7
abbrev n_Mixed_sign : List Str := ["self", "plain", "part"]
theorem sc_Mixed_sign : FnScope n_Mixed_sign ["self"] (defScope s_Mixed_sign) := ⟨rfl, rfl, rfl, by decide +kernel, rfl, by decide +kernel, by decide +kernel⟩
abbrev s_Mixed_storey : Stmt := inClass (topS 11) 8
abbrev n_Mixed_storey : List Str := ["self"]
theorem sc_Mixed_storey : FnScope n_Mixed_storey ["self"] (defScope s_Mixed_storey) := ⟨rfl, rfl, rfl, by decide +kernel, rfl, by decide +kernel, by decide +kernel⟩
abbrev s_Mixed_told : Stmt := inClass (topS 11) 9
abbrev n_Mixed_told : List Str := ["self"]
theorem sc_Mixed_told : FnScope n_Mixed_told ["self"] (defScope s_Mixed_told) := ⟨rfl, rfl, rfl, by decide +kernel, rfl, by decide +kernel, by decide +kernel⟩
abbrev s_Mixed_text : Stmt := inClass (topS 11) 10
abbrev n_Mixed_text : List Str := ["self"]
theorem sc_Mixed_text : FnScope n_Mixed_text ["self"] (defScope s_Mixed_text) := ⟨rfl, rfl, rfl, by decide +kernel, rfl, by decide +kernel, by decide +kernel⟩
abbrev s_Form_kind : Stmt := inClass (topS 16) 0
abbrev n_Form_kind : List Str := ["self"]
theorem sc_Form_kind : FnScope n_Form_kind ["self"] (defScope s_Form_kind) := ⟨rfl, rfl, rfl, by decide +kernel, rfl, by decide +kernel, by decide +kernel⟩
abbrev s_Form_numbers : Stmt := inClass (topS 16) 1
abbrev n_Form_numbers : List Str := ["self"]
theorem sc_Form_numbers : FnScope n_Form_numbers ["self"] (defScope s_Form_numbers) := ⟨rfl, rfl, rfl, by decide +kernel, rfl, by decide +kernel, by decide +kernel⟩
abbrev s_Form_told : Stmt := inClass (topS 16) 2
abbrev n_Form_told : List Str := ["self", "number"]
theorem sc_Form_told : FnScope n_Form_told ["self"] (defScope s_Form_told) := ⟨rfl, rfl, rfl, by decide +kernel, rfl, by decide +kernel, by decide +kernel⟩
abbrev s_Form_same : Stmt := inClass (topS 16) 3
abbrev n_Form_same : List Str := ["self", "other"]
theorem sc_Form_same : FnScope n_Form_same ["self", "other"] (defScope s_Form_same) := ⟨rfl, rfl, rfl, by decide +kernel, rfl, by decide +kernel, by decide +kernel⟩
abbrev s_Point_init : Stmt := inClass (topS 17) 0
abbrev n_Point_init : List Str := ["self", "x", "y"]
theorem sc_Point_init : FnScope n_Point_init ["self", "x", "y"] (defScope s_Point_init) := ⟨rfl, rfl, rfl, by decide +kernel, rfl, by decide +kernel, by decide +kernel⟩
abbrev s_Point_kind : Stmt := inClass (topS 17) 1
abbrev n_Point_kind : List Str := ["self"]
theorem sc_Point_kind : FnScope n_Point_kind ["self"] (defScope s_Point_kind) := ⟨rfl, rfl, rfl, by decide +kernel, rfl, by decide +kernel, by decide +kernel⟩
abbrev s_Point_numbers : Stmt := inClass (topS 17) 2
abbrev n_Point_numbers : List Str := ["self"]
theorem sc_Point_numbers : FnScope n_Point_numbers ["self"] (defScope s_Point_numbers) := ⟨rfl, rfl, rfl, by decide +kernel, rfl, by decide +kernel, by decide +kernel⟩
abbrev s_Point_same : Stmt := inClass (topS 17) 3
abbrev n_Point_same : List Str := ["self", "other"]
theorem sc_Point_same : FnScope n_Point_same ["self", "other"] (defScope s_Point_same) := ⟨rfl, rfl, rfl, by decide +kernel, rfl, by decide +kernel, by decide +kernel⟩
abbrev s_Fraction_init : Stmt := inClass (topS 21) 0
abbrev n_Fraction_init : List Str := ["self", "top", "bottom", "both"]
theorem sc_Fraction_init : FnScope n_Fraction_init ["self", "top", "bottom"] (defScope s_Fraction_init) := ⟨rfl, rfl, rfl, by decide +kernel, rfl, by decide +kernel, by decide +kernel⟩
abbrev s_Fraction_plus : Stmt := inClass (topS 21) 1
abbrev n_Fraction_plus : List Str := ["self", "other"]
theorem sc_Fraction_plus : FnScope n_Fraction_plus ["self", "other"] (defScope s_Fraction_plus) := ⟨rfl, rfl, rfl, by decide +kernel, rfl, by decide +kernel, by decide +kernel⟩
abbrev s_Fraction_times : Stmt := inClass (topS 21) 2
abbrev n_Fraction_times : List Str := ["self", "other"]
theorem sc_Fraction_times : FnScope n_Fraction_times ["self", "other"] (defScope s_Fraction_times) := ⟨rfl, rfl, rfl, by decide +kernel, rfl, by decide +kernel, by decide +kernel⟩
abbrev s_Fraction_one_by : Stmt := inClass (topS 21) 3
abbrev n_Fraction_one_by : List Str := ["self"]
theorem sc_Fraction_one_by : FnScope n_Fraction_one_by ["self"] (defScope s_Fraction_one_by) := ⟨rfl, rfl, rfl, by decide +kernel, rfl, by decide +kernel, by decide +kernel⟩
abbrev s_Fraction_turned : Stmt := inClass (topS 21) 4
abbrev n_Fraction_turned : List Str := ["self"]
theorem sc_Fraction_turned : FnScope n_Fraction_turned ["self"] (defScope s_Fraction_turned) := ⟨rfl, rfl, rfl, by decide +kernel, rfl, by decide +kernel, by decide +kernel⟩
abbrev s_Fraction_sign : Stmt := inClass (topS 21) 5
abbrev n_Fraction_sign : List Str := ["self"]
theorem sc_Fraction_sign : FnScope n_Fraction_sign ["self"] (defScope s_Fraction_sign) := ⟨rfl, rfl, rfl, by decide +kernel, rfl, by decide +kernel, by decide +kernel⟩
abbrev s_Fraction_storey : Stmt := inClass (topS 21) 6
abbrev n_Fraction_storey : List Str := ["self"]
theorem sc_Fraction_storey : FnScope n_Fraction_storey ["self"] (defScope s_Fraction_storey) := ⟨rfl, rfl, rfl, by decide +kernel, rfl, by decide +kernel, by decide +kernel⟩
abbrev s_Fraction_told : Stmt := inClass (topS 21) 7
abbrev n_Fraction_told : List Str := ["self"]
theorem sc_Fraction_told : FnScope n_Fraction_told ["self"] (defScope s_Fraction_told) := ⟨rfl, rfl, rfl, by decide +kernel, rfl, by decide +kernel, by decide +kernel⟩
abbrev s_Fraction_text : Stmt := inClass (topS 21) 8
abbrev n_Fraction_text : List Str := ["self"]
theorem sc_Fraction_text : FnScope n_Fraction_text ["self"] (defScope s_Fraction_text) := ⟨rfl, rfl, rfl, by decide +kernel, rfl, by decide +kernel, by decide +kernel⟩
end Rl

set_option Elab.async false
set_option linter.all false
set_option maxRecDepth 100000
set_option maxHeartbeats 4000000
/-! Fractions: what the program's own class does. -/
namespace Rl
open PySem PySem.Spec PyProof.Rows L2 NdefX LamX Tow

/-- what stands around: room for any division -/
structure Gd (P : Program) (base : Heap) : Prop where
  ns : base.NoSeer
  tr : P.given.tree = none
/-- what the top has written of the numbers' classes -/
structure NT (K : PySem.W.Frag) (mg : Str → Option Value) (c : Cl) : Prop where
  clF : Cls K c.F
  clM : Cls K c.M
  clR : Cls K c.R
  nF_top : NoAttr K c.F "top"
  nF_bottom : NoAttr K c.F "bottom"
  nM_plain : NoAttr K c.M "plain"
  nM_part : NoAttr K c.M "part"
  nM_root : NoAttr K c.M "root"
  nR_place : NoAttr K c.R "place"
  nR_square : NoAttr K c.R "square"
  inF : TIn K mg "Fraction" c.F "Fraction.__init__" s_Fraction_init [.int 1]
  inM : TIn K mg "Mixed" c.M "Mixed.__init__" s_Mixed_init []
  inR : TIn K mg "Root" c.R "Root.__init__" s_Root_init []
  F_plus : TMt K c.F "plus" "Fraction.plus" s_Fraction_plus []
  F_times : TMt K c.F "times" "Fraction.times" s_Fraction_times []
  F_one_by : TMt K c.F "one_by" "Fraction.one_by" s_Fraction_one_by []
  F_turned : TMt K c.F "turned" "Fraction.turned" s_Fraction_turned []
  F_sign : TMt K c.F "sign" "Fraction.sign" s_Fraction_sign []
  F_storey : TMt K c.F "storey" "Fraction.storey" s_Fraction_storey []
  F_told : TMt K c.F "told" "Fraction.told" s_Fraction_told []
  F_minus : TMt K c.F "minus" "Number.minus" s_Number_minus []
  F_over : TMt K c.F "over" "Number.over" s_Number_over []
  F_is_nought : TMt K c.F "is_nought" "Number.is_nought" s_Number_is_nought []
  M_plus : TMt K c.M "plus" "Mixed.plus" s_Mixed_plus []
  M_times : TMt K c.M "times" "Mixed.times" s_Mixed_times []
  M_norm : TMt K c.M "norm" "Mixed.norm" s_Mixed_norm []
  M_one_by : TMt K c.M "one_by" "Mixed.one_by" s_Mixed_one_by []
  M_turned : TMt K c.M "turned" "Mixed.turned" s_Mixed_turned []
  M_storey : TMt K c.M "storey" "Mixed.storey" s_Mixed_storey []
  M_told : TMt K c.M "told" "Mixed.told" s_Mixed_told []
  M_is_nought : TMt K c.M "is_nought" "Mixed.is_nought" s_Mixed_is_nought []
  M_minus : TMt K c.M "minus" "Number.minus" s_Number_minus []
  M_over : TMt K c.M "over" "Number.over" s_Number_over []
  mixed : TFn K mg "mixed" s_mixed []
  common : TFn K mg "common" s_common []
  abs : mg "abs" = none
  int : mg "int" = none
section
variable {P : Program} {w : World} {K : PySem.W.Frag} {mg : Str → Option Value} {base : Heap} {Tb : List NTab} {c : Cl}
/-! the greatest common divisor -/
def gcdNx (p : Int × Int) : Int × Int := (p.2, p.1 % p.2)
theorem gcd_go {a b : Int} (h0 : 0 ≤ a) (h1 : 0 ≤ b) : Goes' (fun p : Int × Int => decide (0 < p.2)) gcdNx (a, b) ((Int.gcd a b : Int), 0) := by
  obtain ⟨q, g, ⟨i1, i2, i3⟩, i4⟩ := Goes'.total (tst := fun p : Int × Int => decide (0 < p.2)) (nxt := gcdNx) (fun p => 0 ≤ p.1 ∧ 0 ≤ p.2 ∧ Int.gcd p.1 p.2 = Int.gcd a b) (fun p => p.2.toNat)
    (fun p ⟨h1, h2, h3⟩ ht => by
      have ht := of_decide_eq_true ht
      have e1 := Int.emod_nonneg p.1 (show p.2 ≠ 0 by omega)
      have e2 := Int.emod_lt_of_pos p.1 ht
      refine ⟨⟨h2, e1, ?_⟩, ?_⟩
      · show Int.gcd p.2 (p.1 % p.2) = _
        rw [← h3]
        unfold Int.gcd
        rw [Int.natAbs_emod_of_nonneg h1, Nat.gcd_comm, ← Nat.gcd_rec, Nat.gcd_comm]
      · show (p.1 % p.2).toNat < p.2.toNat
        omega) _ (a, b) (Nat.le_refl _) ⟨h0, h1, rfl⟩
  have i4 := of_decide_eq_false i4
  have e : q.2 = 0 := by omega
  have e1 : q.1 = (Int.gcd a b : Int) := by
    rw [← i3, e, Int.gcd_zero_right]
    omega
  have : q = ((Int.gcd a b : Int), 0) := Prod.ext e1 e
  rwa [this] at g
def Scom : List Rp → Rp → Prop := fun Rs R => ∃ a b : Int, Rs = [IntR a, IntR b] ∧ R = IntR (Int.gcd a b : Int)
theorem g_common (N : NT K mg c) : GFn P w K mg base Tb "common" 1 [] Scom := by
  refine gfn_mk (k := 0) N.common sc_common (fun _ _ _ _ _ _ us hl => match us, hl with | [_, _], _ => rfl) (fun Rs R ⟨a, b, e, _⟩ => by rw [e]; rfl) ?_
  rintro Rs R ⟨a, b, rfl, rfl⟩ f cdv A outer s H E hr
  refine rs_cons (np_set 0 (he_abs (he_var 0 rfl) N.abs) sc_common.nd) (rs_cons (np_set 1 (he_abs (he_var 1 rfl) N.abs) sc_common.nd) (rs_cons (np_while (α := Int × Int) (nxt := gcdNx) (tst := fun p => decide (0 < p.2))
    (Gs := fun p => [some (IntR p.1), some (IntR p.2)]) (fun p => 0 ≤ p.1 ∧ 0 ≤ p.2) (fun p => p.2.toNat) (a0 := ((a.natAbs : Int), (b.natAbs : Int))) ⟨by omega, by omega⟩ (gcd_go (by omega) (by omega)) ?_ ?_ PassesOwn.never) (rs_one (rp_ret ?_))))
  · rintro p ⟨h1, h2⟩
    exact ht_gt (he_var 1 rfl) he_int
  · rintro p ⟨h1, h2⟩ ht
    have ht := of_decide_eq_true ht
    have e1 := Int.emod_nonneg p.1 (show p.2 ≠ 0 by omega)
    have e2 := Int.emod_lt_of_pos p.1 ht
    refine ⟨⟨h2, e1⟩, (by show (p.1 % p.2).toNat < p.2.toNat; omega), ns_one ?_⟩
    exact np_par2 0 1 (ha_cons (he_var 1 rfl) (ha_cons (he_mod (he_var 0 rfl) (he_var 1 rfl) ht) ha_nil)) sc_common.nd
  · have e : Int.gcd (a.natAbs : Int) (b.natAbs : Int) = Int.gcd a b := by unfold Int.gcd; rfl
    rw [e]
    exact he_var 0 rfl
theorem fr_parts {a b : Int} (hb : b ≠ 0) : (if b < 0 then -(Int.gcd a b : Int) else (Int.gcd a b : Int)) ≠ 0 ∧ a.fdiv (if b < 0 then -(Int.gcd a b : Int) else (Int.gcd a b : Int)) = (Rat.divInt a b).num ∧
    b.fdiv (if b < 0 then -(Int.gcd a b : Int) else (Int.gcd a b : Int)) = ((Rat.divInt a b).den : Int) := by
  have hg : (Int.gcd a b : Int) ≠ 0 := by
    have := Int.gcd_ne_zero_right (a := a) hb
    omega
  have d1 : (Int.gcd a b : Int) ∣ a := Int.gcd_dvd_left ..
  have d2 : (Int.gcd a b : Int) ∣ b := Int.gcd_dvd_right ..
  have hc : Int.gcd b a = Int.gcd a b := Int.gcd_comm ..
  rw [Rat.num_divInt, Rat.den_divInt, if_neg hb, hc]
  split
  · rename_i h
    refine ⟨by omega, ?_, ?_⟩
    · rw [Int.fdiv_eq_ediv_of_dvd (Int.neg_dvd.mpr d1), Int.ediv_neg, Int.sign_eq_neg_one_of_neg h, Int.neg_mul, Int.one_mul, Int.neg_ediv_of_dvd d1]
    · rw [Int.fdiv_eq_ediv_of_dvd (Int.neg_dvd.mpr d2), Int.ediv_neg, ← Int.neg_ediv_of_dvd d2]
      rw [Int.natCast_ediv]
      congr 1
      omega
  · rename_i h
    refine ⟨hg, ?_, ?_⟩
    · rw [Int.fdiv_eq_ediv_of_dvd d1, Int.sign_eq_one_of_pos (by omega), Int.one_mul]
    · rw [Int.fdiv_eq_ediv_of_dvd d2, Int.natCast_ediv]
      congr 1
      omega
def SFr : List Rp → Rp → Rp → Prop := fun Rs R1 R2 => ∃ a b : Int, Rs = [IntR a, IntR b] ∧ b ≠ 0 ∧ R1 = IntR (Rat.divInt a b).num ∧ R2 = IntR ((Rat.divInt a b).den : Int)
theorem fr_body (G : Gd P base) (N : NT K mg c) : ∀ Rs R1 R2, SFr Rs R1 R2 → ∀ (f y : Addr) (cdv : Value) (A : Around) (outer : List PySem.Env) (s : Shared) (H : Hp) (E : XK), Room 34 (A.deeper (envOfC "Fraction.__init__" (defScope s_Fraction_init) s.heap.objs.size f cdv)) →
      TailS (cxOf CX0 P w K mg base n_Fraction_init "Fraction.__init__" (defScope s_Fraction_init) f cdv A outer s H E) Tb (ctx0 n_Fraction_init (IsR (.ref y) :: Rs)) (defBody s_Fraction_init) (WTwo Tb c.F y "top" "bottom" R1 R2) := by
  rintro _ _ _ ⟨a, b, rfl, hb, rfl, rfl⟩ f y cdv A outer s H E hr
  have hC := g_common (P := P) (w := w) (base := base) (Tb := Tb) N
  obtain ⟨hg, e1, e2⟩ := fr_parts (a := a) hb
  have hnd := sc_Fraction_init.nd
  refine tail_cons (np_skip ((ht_eqS (he_var 2 rfl) he_int).eq (decide_eq_false (fun z => hb (by injection z))))) ?_ wTwo_mono
  refine tail_cons (np_set 3 (he_call hC (hr.mono (by decide)) (ha_cons (he_var 1 rfl) (ha_cons (he_var 2 rfl) ha_nil)) ⟨a, b, rfl, rfl⟩) hnd) ?_ wTwo_mono
  have key : ∀ g : Int, g ≠ 0 → a.fdiv g = (Rat.divInt a b).num → b.fdiv g = ((Rat.divInt a b).den : Int) →
      TailS (cxOf CX0 P w K mg base n_Fraction_init "Fraction.__init__" (defScope s_Fraction_init) f cdv A outer s H E) Tb [some (IsR (.ref y)), some (IntR a), some (IntR b), some (IntR g)] ((defBody s_Fraction_init).drop 3) (WTwo Tb c.F y "top" "bottom" (IntR (Rat.divInt a b).num) (IntR ((Rat.divInt a b).den : Int))) := by
    intro g hg e1 e2
    rw [← e1, ← e2]
    exact tail_two N.clF N.nF_top N.nF_bottom (by decide) (he_fdiv G.ns G.tr hr (he_var 1 rfl) (he_var 3 rfl) hg) (he_fdiv G.ns G.tr hr (he_var 2 rfl) (he_var 3 rfl) hg) (he_var 0 rfl) (he_var 0 rfl)
  by_cases h : b < 0
  · rw [if_pos h] at hg e1 e2
    refine tail_cons (np_ifT ((ht_lt (he_var 2 rfl) he_int).eq (decide_eq_true h)) (ns_one (np_set 3 (he_neg (he_var 3 rfl)) hnd))) ?_ wTwo_mono
    exact key _ hg e1 e2
  · rw [if_neg h] at hg e1 e2
    refine tail_cons (np_skip ((ht_lt (he_var 2 rfl) he_int).eq (decide_eq_false h))) ?_ wTwo_mono
    exact key _ hg e1 e2
/-- Fraction(a, b) -/
def SFr2 (c : Cl) : List Rp → Rp → Prop := fun Rs R => ∃ a b : Int, Rs = [IntR a, IntR b] ∧ b ≠ 0 ∧ R = fracR c (Rat.divInt a b)
def SFr1 (c : Cl) : List Rp → Rp → Prop := fun Rs R => ∃ a : Int, Rs = [IntR a] ∧ R = fracR c (a : Rat)
theorem CFn.imp {x : Str} {k : Nat} {S S' : List Rp → Rp → Prop} (h : CFn P w K mg base Tb x k S) (q : ∀ Rs R, S' Rs R → S Rs R) : CFn P w K mg base Tb x k S' := by
  obtain ⟨C, f, fd, ps, ds, dvs, sp, h1, h2, h3, h4, h5, h6⟩ := h.ex
  exact ⟨C, f, fd, ps, ds, dvs, sp, h1, h2, h3, h4, h5, fun Rs R hS => h6 Rs R (q Rs R hS)⟩
theorem c_frac2 (G : Gd P base) (N : NT K mg c) : CFn P w K mg base Tb "Fraction" 35 (SFr2 c) := by
  refine CFn.imp (cfn_two (S := SFr) (Ds := []) N.inF sc_Fraction_init [] (fun _ => trivial) (fun Rs R1 R2 ⟨a, b, e, _⟩ => by rw [e]; rfl) (fun f fd F => ?_) (fr_body G N)) (fun Rs R ⟨a, b, e, hb, hR⟩ => ?_)
  · have := F.binds1 (ps := ["self", "top", "bottom"]) 3 1 (by simp) rfl (fun T kV doc pm an cdv ct us its h1 h2 => match us, h1, its, h2 with | [_, _, _], _, [_], _ => ⟨_, rfl, rfl⟩)
    exact this
  · exact ⟨_, _, ⟨a, b, by rw [e]; rfl, hb, rfl, rfl⟩, hR⟩
theorem c_frac1 (G : Gd P base) (N : NT K mg c) : CFn P w K mg base Tb "Fraction" 35 (SFr1 c) := by
  refine CFn.imp (cfn_two (S := SFr) (Ds := [IntR 1]) N.inF sc_Fraction_init [.int 1] (fun _ => ⟨rfl, trivial⟩) (fun Rs R1 R2 ⟨a, b, e, _⟩ => by rw [e]; rfl) (fun f fd F => ?_) (fr_body G N)) (fun Rs R ⟨a, e, hR⟩ => ?_)
  · have := F.binds1 (ps := ["self", "top", "bottom"]) 2 0 (by simp) rfl (fun T kV doc pm an cdv ct us its h1 h2 => match us, h1, its, h2 with | [_, _], _, [_], _ => ⟨_, rfl, rfl⟩)
    exact this
  · refine ⟨_, _, ⟨a, 1, by rw [e]; rfl, by decide, rfl, rfl⟩, ?_⟩
    have : (a : Rat) = Rat.divInt a 1 := by rw [← Rat.num_divInt_den (a : Rat), Rat.num_intCast, Rat.den_intCast]; rfl
    rw [hR, this]; rfl
/-! records -/
theorem len1 {f : Str} {v : V} : (putF f v []).length < 1000 := by have := length_putF f v []; simp at this; omega
theorem len2 {f g : Str} {v u : V} : (putF g u (putF f v [])).length < 1000 := by have := length_putF f v []; have := length_putF g u (putF f v []); simp at *; omega
theorem f_mixed_init (N : NT K mg c) {f : Addr} {fd : FuncData} (F : FnD K "__init__" "Mixed.__init__" s_Mixed_init [] f fd) : FnOk P w K mg base CX0 1 f fd ["self", "plain", "part", "root"] (spRec c.M ["plain", "part", "root"]) := by
  refine F.ok (k := 0) sc_Mixed_init (fun vs H Q E ⟨p, dx, us, e, hl, _⟩ => by rw [e, List.length_cons, hl]; rfl) fun cdv A outer s H vs Q E hr h0 => ?_
  obtain ⟨p, dx, us, rfl, hl, hp, q⟩ := h0
  match us, hl, q with
  | [v1, v2, v3], _, q =>
  refine ⟨_, pss_cons (ps_fld (pe_var (i := 0) rfl (.inl rfl)) (pe_var (i := 1) rfl (.inl rfl)) rfl) (pss_cons (ps_fld (pe_var (i := 0) rfl (.inl rfl)) (pe_var (i := 2) rfl (.inl rfl)) rfl) (pss_one (ps_fld (pe_var (i := 0) rfl (.inl rfl)) (pe_var (i := 3) rfl (.inl rfl)) rfl))), ?_⟩
  refine ⟨v1, rfl, .ref p, rfl, p, c.M, dx, [], rfl, hp, N.clM, N.nM_plain, by simp, ?_⟩
  refine ⟨v2, rfl, .ref p, rfl, p, c.M, dx, _, rfl, upd_same, N.clM, N.nM_part, len1, ?_⟩
  refine ⟨v3, rfl, .ref p, rfl, p, c.M, dx, _, rfl, upd_same, N.clM, N.nM_root, len2, ?_⟩
  rw [upd_upd, upd_upd]
  exact q
theorem f_root_init (N : NT K mg c) {f : Addr} {fd : FuncData} (F : FnD K "__init__" "Root.__init__" s_Root_init [] f fd) : FnOk P w K mg base CX0 1 f fd ["self", "place", "square"] (spRec c.R ["place", "square"]) := by
  refine F.ok (k := 0) sc_Root_init (fun vs H Q E ⟨p, dx, us, e, hl, _⟩ => by rw [e, List.length_cons, hl]; rfl) fun cdv A outer s H vs Q E hr h0 => ?_
  obtain ⟨p, dx, us, rfl, hl, hp, q⟩ := h0
  match us, hl, q with
  | [v1, v2], _, q =>
  refine ⟨_, pss_cons (ps_fld (pe_var (i := 0) rfl (.inl rfl)) (pe_var (i := 1) rfl (.inl rfl)) rfl) (pss_one (ps_fld (pe_var (i := 0) rfl (.inl rfl)) (pe_var (i := 2) rfl (.inl rfl)) rfl)), ?_⟩
  refine ⟨v1, rfl, .ref p, rfl, p, c.R, dx, [], rfl, hp, N.clR, N.nR_place, by simp, ?_⟩
  refine ⟨v2, rfl, .ref p, rfl, p, c.R, dx, _, rfl, upd_same, N.clR, N.nR_square, len1, ?_⟩
  rw [upd_upd]
  exact q
def SMx (c : Cl) : List Rp → Rp → Prop := fun Rs R => Rs.length = 3 ∧ R = ObjR c.M ((["plain", "part", "root"] : List Str).zip Rs)
def SRt (c : Cl) : List Rp → Rp → Prop := fun Rs R => Rs.length = 2 ∧ R = ObjR c.R ((["place", "square"] : List Str).zip Rs)
theorem c_mixed (N : NT K mg c) : CFn P w K mg base Tb "Mixed" 1 (SMx c) := by
  obtain ⟨hm, f, fd, M, F⟩ := N.inM.ex
  exact cfn_rec hm M (f_mixed_init N F) (F.bindsN fun _ _ _ _ _ _ us hl => match us, hl with | [_, _, _, _], _ => rfl)
theorem c_root (N : NT K mg c) : CFn P w K mg base Tb "Root" 1 (SRt c) := by
  obtain ⟨hm, f, fd, M, F⟩ := N.inR.ex
  exact cfn_rec hm M (f_root_init N F) (F.bindsN fun _ _ _ _ _ _ us hl => match us, hl with | [_, _, _], _ => rfl)
end
end Rl

set_option Elab.async false
set_option linter.all false
set_option maxRecDepth 100000
set_option maxHeartbeats 4000000
/-! The numbers' methods, by the height of the tower. -/
namespace Rl
open PySem PySem.Spec PyProof.Rows L2 NdefX LamX Tow

def Bg : Nat := 66000000
def pF (n : Nat) : Prop := n = 0
def pM (n : Nat) : Prop := 0 < n
def CAdd {K : OF} (t : Tow K) (u v : K.C) : Prop := t.sz u + t.sz v + 1 ≤ Bg
def CMul {K : OF} (t : Tow K) (u v : K.C) : Prop := ∃ z, t.Sm z ∧ mB t.ht z (t.sz u) (t.sz v) ≤ Bg
def CInv {K : OF} (t : Tow K) (u : K.C) : Prop := u ≠ 0 ∧ ∃ z, t.Sm z ∧ iB t.ht z (t.sz u) ≤ Bg
def CDiv {K : OF} (t : Tow K) (u v : K.C) : Prop := v ≠ 0 ∧ ∃ z, t.Sm z ∧ mB t.ht z (t.sz u) (iB t.ht z (t.sz v)) ≤ Bg
def SAdd (c : Cl) (n : Nat) (p : Nat → Nat → Prop) : List Rp → Rp → Prop := fun Rs R => ∃ (K : OF) (t : Tow K) (u v : K.C), t.ht ≤ n ∧ p (t.st u) (t.st v) ∧ CAdd t u v ∧ Rs = [NumR c t u, NumR c t v] ∧ R = NumR c t (u + v)
def SSub (c : Cl) (n : Nat) (p : Nat → Prop) : List Rp → Rp → Prop := fun Rs R => ∃ (K : OF) (t : Tow K) (u v : K.C), t.ht ≤ n ∧ p (t.st u) ∧ CAdd t u v ∧ Rs = [NumR c t u, NumR c t v] ∧ R = NumR c t (u - v)
def SMul (c : Cl) (n : Nat) (p : Nat → Nat → Prop) : List Rp → Rp → Prop := fun Rs R => ∃ (K : OF) (t : Tow K) (u v : K.C), t.ht ≤ n ∧ p (t.st u) (t.st v) ∧ CMul t u v ∧ Rs = [NumR c t u, NumR c t v] ∧ R = NumR c t (u * v)
def SDiv (c : Cl) (n : Nat) (p : Nat → Prop) : List Rp → Rp → Prop := fun Rs R => ∃ (K : OF) (t : Tow K) (u v : K.C), t.ht ≤ n ∧ p (t.st u) ∧ CDiv t u v ∧ Rs = [NumR c t u, NumR c t v] ∧ R = NumR c t (u * v⁻¹)
def SNeg (c : Cl) (n : Nat) (p : Nat → Prop) : List Rp → Rp → Prop := fun Rs R => ∃ (K : OF) (t : Tow K) (u : K.C), t.ht ≤ n ∧ p (t.st u) ∧ Rs = [NumR c t u] ∧ R = NumR c t (-u)
def SInv (c : Cl) (n : Nat) (p : Nat → Prop) : List Rp → Rp → Prop := fun Rs R => ∃ (K : OF) (t : Tow K) (u : K.C), t.ht ≤ n ∧ p (t.st u) ∧ CInv t u ∧ Rs = [NumR c t u] ∧ R = NumR c t (u⁻¹)
def SSto (c : Cl) (p : Nat → Prop) : List Rp → Rp → Prop := fun Rs R => ∃ (K : OF) (t : Tow K) (u : K.C), p (t.st u) ∧ Rs = [NumR c t u] ∧ R = IntR (t.st u : Int)
def SNou (c : Cl) (p : Nat → Prop) : List Rp → Rp → Prop := fun Rs R => ∃ (K : OF) (t : Tow K) (u : K.C), p (t.st u) ∧ Rs = [NumR c t u] ∧ R = BoolR (decide (u = 0))
def STol (c : Cl) (n : Nat) (p : Nat → Prop) (M : PySem.W.Frag) : List Rp → Rp → Prop := fun Rs R => ∃ (K : OF) (t : Tow K) (u : K.C), t.ht ≤ n ∧ p (t.st u) ∧ Rs = [NumR c t u] ∧ R = DataR M (t.told u)
def SMxd (c : Cl) : List Rp → Rp → Prop := fun Rs R => ∃ (K : OF) (t : Tow K) (s : K.C) (h : NSq s) (a b : K.C), Rs = [NumR c t a, NumR c t b, RootR c t s] ∧ R = NumR c (.ext t s h) (⟨a, b⟩ : Quad K.C s)

section
variable {P : Program} {w : World} {K : PySem.W.Frag} {mg : Str → Option Value} {base : Heap} {Tb : List NTab} {c : Cl}
theorem mfn_imp {C : Addr} {m : Str} {k : Nat} {Ds : List Rp} {S S' : List Rp → Rp → Prop} (h : MFn P w K mg base Tb C m k Ds S) (q : ∀ Rs R, S' Rs R → S Rs R) : MFn P w K mg base Tb C m k Ds S' := by
  obtain ⟨f, fd, ps, ds, dvs, h1, h2, h3⟩ := h.ex
  exact ⟨h.cls, f, fd, ps, ds, dvs, h1, h2.imp (fun vs H Q E ⟨Rs, R, O, a, b⟩ => ⟨Rs, R, O, q Rs R a, b⟩), h3⟩
theorem disp {X : Cx} {T : Tow OF.rat} {m : Str} {k : Nat} {S1 S2 : List Rp → Rp → Prop} {Rs : List Rp} {R : Rp} {L : OF} {t : Tow L} {u : L.C} (F : MFn X.prog X.w X.K X.mg X.base Tb c.F m k [] S1) (M : MFn X.prog X.w X.K X.mg X.base Tb c.M m k [] S2)
    (h1 : t.st u = 0 → S1 (NumR c t u :: Rs) R) (h2 : 0 < t.st u → S2 (NumR c t u :: Rs) R)
    (l1 : ∀ A B : Rp, ([("top", A), ("bottom", B)] : List (Str × Rp)).lookup m = none) (l2 : ∀ A B D : Rp, ([("plain", A), ("part", B), ("root", D)] : List (Str × Rp)).lookup m = none) : Disp X Tb k m (NumR c t u) Rs R := by
  intro v H r
  rcases num_form c t u with ⟨e, A, B, q⟩ | ⟨e, A, B, D, q⟩
  · exact ⟨c.F, _, [], S1, q ▸ r, l1 A B, F, by rw [List.append_nil, ← q]; exact h1 e⟩
  · exact ⟨c.M, _, [], S2, q ▸ r, l2 A B D, M, by rw [List.append_nil, ← q]; exact h2 e⟩
/-! storey, told, turned -/
theorem bnd1 {x qual : Str} {st : Stmt} {ps : List Str} (h : ∀ (kV doc pm : Value) (an : Option Addr) (cdv ct : Value) (u : Value), bindArgs (PySem.W.fnOf x qual (defArgs st) (defBody st) (defScope st) .none kV doc pm an cdv ct) ⟨[u], []⟩ = pure (ps.zip [u])) (hp : ps.length = 1) : Bnd ps x qual st :=
  fun kV doc pm an cdv ct us hl => match us, hl.trans hp with | [u], _ => h kV doc pm an cdv ct u
theorem bnd2 {x qual : Str} {st : Stmt} {ps : List Str} (h : ∀ (kV doc pm : Value) (an : Option Addr) (cdv ct : Value) (u v : Value), bindArgs (PySem.W.fnOf x qual (defArgs st) (defBody st) (defScope st) .none kV doc pm an cdv ct) ⟨[u, v], []⟩ = pure (ps.zip [u, v])) (hp : ps.length = 2) : Bnd ps x qual st :=
  fun kV doc pm an cdv ct us hl => match us, hl.trans hp with | [u, v], _ => h kV doc pm an cdv ct u v
theorem bnd3 {x qual : Str} {st : Stmt} {ps : List Str} (h : ∀ (kV doc pm : Value) (an : Option Addr) (cdv ct : Value) (u v z : Value), bindArgs (PySem.W.fnOf x qual (defArgs st) (defBody st) (defScope st) .none kV doc pm an cdv ct) ⟨[u, v, z], []⟩ = pure (ps.zip [u, v, z])) (hp : ps.length = 3) : Bnd ps x qual st :=
  fun kV doc pm an cdv ct us hl => match us, hl.trans hp with | [u, v, z], _ => h kV doc pm an cdv ct u v z
theorem numR_base {q : OF.rat.C} : NumR c .base q = fracR c q := numR_emb .base q
/-- numbers in their form -/
theorem nfF2 {L : OF} {t : Tow L} {u v : L.C} (hu : t.st u = 0) (hv : t.st v = 0) : ∃ a b : Rat, Nf c t .base u v a b := by
  rcases nf c t u v with h | ⟨K', t', s', h', u', v', F, hT⟩
  · exact h
  · rcases hT with z | z
    · have e := F.stu; rw [high_st u' z] at e; omega
    · have e := F.stv; rw [high_st v' z] at e; omega
theorem nfM2 {L : OF} {t : Tow L} {u v : L.C} (hu : 0 < t.st u) (hv : t.st v ≤ t.st u) : ∃ (K' : OF) (t' : Tow K') (s : K'.C) (h : NSq s) (u' v' : (K'.ext s h).C), Nf c t (.ext t' s h) u v u' v' ∧ (OF.q u').im ≠ 0 := by
  rcases nf c t u v with ⟨a, b, F⟩ | ⟨K', t', s', h', u', v', F, hT⟩
  · have e := F.stu
    have e2 : Tow.base.st a = 0 := rfl
    omega
  · refine ⟨K', t', s', h', u', v', F, fun z => ?_⟩
    rcases hT with y | y
    · exact y z
    · have e1 := F.stu
      have e2 := F.stv
      rw [high_st v' y] at e2
      rw [low_st u' z] at e1
      have := st_le t' (OF.q u').re
      omega
/-! fields of a number with a root -/
section
variable {X : Cx} {Tb : List NTab} {G : Ctx} {e : Expr} {pos : Pos} {L : OF} {t : Tow L} {s : L.C} {h : NSq s} {u : (L.ext s h).C}
theorem mix_eq (hu : (OF.q u).im ≠ 0) : NumR c (.ext t s h) u = MixR c t s (OF.q u).re (OF.q u).im := (numR_ext u).trans (if_neg hu)
theorem h_plain {mg : Str → Option Value} (N : NT X.K mg c) (hu : (OF.q u).im ≠ 0) (a : HasE X Tb G e (NumR c (.ext t s h) u)) (hb : attributeBase e "plain" X.env (eval e X.env) = eval e X.env := by rfl) : HasE X Tb G (.Attribute e "plain" pos) (NumR c t (OF.q u).re) :=
  he_fld (he_eq a (mix_eq hu)) N.clM N.nM_plain rfl hb
theorem h_part {mg : Str → Option Value} (N : NT X.K mg c) (hu : (OF.q u).im ≠ 0) (a : HasE X Tb G e (NumR c (.ext t s h) u)) (hb : attributeBase e "part" X.env (eval e X.env) = eval e X.env := by rfl) : HasE X Tb G (.Attribute e "part" pos) (NumR c t (OF.q u).im) :=
  he_fld (he_eq a (mix_eq hu)) N.clM N.nM_part rfl hb
theorem h_root {mg : Str → Option Value} (N : NT X.K mg c) (hu : (OF.q u).im ≠ 0) (a : HasE X Tb G e (NumR c (.ext t s h) u)) (hb : attributeBase e "root" X.env (eval e X.env) = eval e X.env := by rfl) : HasE X Tb G (.Attribute e "root" pos) (RootR c t s) :=
  he_fld (he_eq a (mix_eq hu)) N.clM N.nM_root rfl hb
theorem h_place {mg : Str → Option Value} (N : NT X.K mg c) (a : HasE X Tb G e (RootR c t s)) (hb : attributeBase e "place" X.env (eval e X.env) = eval e X.env := by rfl) : HasE X Tb G (.Attribute e "place" pos) (IntR (t.ht : Int)) :=
  he_fld a N.clR N.nR_place rfl hb
theorem h_square {mg : Str → Option Value} (N : NT X.K mg c) (a : HasE X Tb G e (RootR c t s)) (hb : attributeBase e "square" X.env (eval e X.env) = eval e X.env := by rfl) : HasE X Tb G (.Attribute e "square" pos) (NumR c t s) :=
  he_fld a N.clR N.nR_square rfl hb
variable {q : Rat}
theorem h_top {mg : Str → Option Value} (N : NT X.K mg c) (a : HasE X Tb G e (NumR c .base q)) (hb : attributeBase e "top" X.env (eval e X.env) = eval e X.env := by rfl) : HasE X Tb G (.Attribute e "top" pos) (IntR q.num) :=
  he_fld (he_eq a numR_base) N.clF N.nF_top rfl hb
theorem h_bottom {mg : Str → Option Value} (N : NT X.K mg c) (a : HasE X Tb G e (NumR c .base q)) (hb : attributeBase e "bottom" X.env (eval e X.env) = eval e X.env := by rfl) : HasE X Tb G (.Attribute e "bottom" pos) (IntR (q.den : Int)) :=
  he_fld (he_eq a numR_base) N.clF N.nF_bottom rfl hb
end
/-! storey -/
theorem m_stoF (N : NT K mg c) : MFn P w K mg base Tb c.F "storey" 1 [] (SSto c pF) := by
  refine mfn_mk (k := 0) N.clF N.F_storey sc_Fraction_storey (bnd1 (fun _ _ _ _ _ _ _ => rfl) rfl) (fun Rs R ⟨_, _, _, _, e, _⟩ => by rw [e]; rfl) ?_
  rintro _ _ ⟨L, t, u, hu, rfl, rfl⟩ f cdv A outer s H E hr
  rw [show t.st u = 0 from hu]
  exact rs_one (rp_ret he_int)
theorem m_stoM (N : NT K mg c) : MFn P w K mg base Tb c.M "storey" 1 [] (SSto c pM) := by
  refine mfn_mk (k := 0) N.clM N.M_storey sc_Mixed_storey (bnd1 (fun _ _ _ _ _ _ _ => rfl) rfl) (fun Rs R ⟨_, _, _, _, e, _⟩ => by rw [e]; rfl) ?_
  rintro _ _ ⟨L, t, u, hu, rfl, rfl⟩ f cdv A outer s H E hr
  obtain ⟨L', t', s', h', u', v', F, hi⟩ := nfM2 (c := c) (t := t) (v := u) hu (Nat.le_refl _)
  rw [F.ru, ← F.stu, high_st u' hi]
  exact rs_one (rp_ret (he_eq (he_add (h_place N (h_root N hi (he_var 0 rfl))) he_int) (by rw [show ((t'.ht + 1 : Nat) : Int) = (t'.ht : Int) + 1 by omega])))
/-! is it nought -/
theorem m_sgnF (N : NT K mg c) : MFn P w K mg base Tb c.F "sign" 1 [] (fun Rs R => ∃ (L : OF) (t : Tow L) (u : L.C) (q : Rat), NumR c t u = NumR c .base q ∧ Rs = [NumR c t u] ∧ R = IntR ((if 0 < q.num then 1 else 0) - (if q.num < 0 then 1 else 0))) := by
  refine mfn_mk (k := 0) N.clF N.F_sign sc_Fraction_sign (bnd1 (fun _ _ _ _ _ _ _ => rfl) rfl) (fun Rs R ⟨_, _, _, _, _, e, _⟩ => by rw [e]; rfl) ?_
  rintro _ _ ⟨L, t, u, q, e, rfl, rfl⟩ f cdv A outer s H E hr
  rw [e]
  refine rs_one (rp_ret (he_eq (he_subI (he_intB (he_gt (h_top N (he_var 0 rfl)) he_int) N.int) (he_intB (he_lt (h_top N (he_var 0 rfl)) he_int) N.int)) ?_))
  simp only [decide_eq_true_eq]
theorem m_nouF (N : NT K mg c) : MFn P w K mg base Tb c.F "is_nought" 2 [] (SNou c pF) := by
  refine mfn_mk (k := 1) N.clF N.F_is_nought sc_Number_is_nought (bnd1 (fun _ _ _ _ _ _ _ => rfl) rfl) (fun Rs R ⟨_, _, _, _, e, _⟩ => by rw [e]; rfl) ?_
  rintro _ _ ⟨L, t, u, hu, rfl, rfl⟩ f cdv A outer s H E hr
  obtain ⟨q, b, F⟩ := nfF2 (c := c) (t := t) hu hu
  have hS := m_sgnF (P := P) (w := w) (base := base) (Tb := Tb) N
  have eF : NumR c t u = ObjR c.F [("top", IntR q.num), ("bottom", IntR (q.den : Int))] := F.ru.trans numR_base
  refine rs_one (rp_ret (he_eq (he_eqS (he_meth0 (he_eq (he_var 0 rfl) eF) rfl hS hr ⟨L, t, u, q, F.ru, by rw [← eF], rfl⟩) he_int) ?_))
  have e0 : (u = 0) ↔ q.num = 0 := F.zu.trans (Rat.num_eq_zero).symm
  congr 1
  refine decide_eq_decide.mpr (Iff.trans ?_ e0.symm)
  constructor
  · intro e
    injection e with e
    split at e <;> split at e <;> omega
  · intro e
    rw [e]; rfl
theorem m_nouM (N : NT K mg c) : MFn P w K mg base Tb c.M "is_nought" 2 [] (SNou c pM) := by
  refine mfn_mk (k := 1) N.clM N.M_is_nought sc_Mixed_is_nought (bnd1 (fun _ _ _ _ _ _ _ => rfl) rfl) (fun Rs R ⟨_, _, _, _, e, _⟩ => by rw [e]; rfl) ?_
  rintro _ _ ⟨L, t, u, hu, rfl, rfl⟩ f cdv A outer s H E hr
  have hz : u ≠ 0 := fun e => by
    obtain ⟨L', t', s', h', u', v', F, hi⟩ := nfM2 (c := c) (t := t) (v := u) hu (Nat.le_refl _)
    have := F.zu.mp e
    exact hi (by rw [this]; rfl)
  rw [decide_eq_false hz]
  exact rs_one (rp_ret he_bl)
end
end Rl

set_option Elab.async false
set_option linter.all false
set_option maxRecDepth 100000
set_option maxHeartbeats 4000000
/-! The numbers' methods, by the height of the tower (2). -/
namespace Rl
open PySem PySem.Spec PyProof.Rows L2 NdefX LamX Tow
section
variable {X : Cx} {Tb : List NTab} {G : Ctx} {e a b : Expr} {pos apos : Pos} {c : Cl} {L : OF} {t : Tow L} {u v : L.C} {k n : Nat}
theorem h_sto (N : NT X.K X.mg c) (hr : Room 1 X.A) (ho : HasE X Tb G e (NumR c t u)) {pl : Sem Bool}
    (ht : eval (.Call (.Attribute e "storey" apos) [] [] pos) X.env = (do
      let ov ← eval e X.env
      standAt apos.atName
      let (f, first) ← holding [ov] (getMethod ov "storey" pl)
      callWith pos f first (backTo pos (starEach [] X.env)) (backToKw pos (keywordEach [] X.env))) := by rfl) : HasE X Tb G (.Call (.Attribute e "storey" apos) [] [] pos) (IntR (t.st u : Int)) :=
  he_methD0 ho (disp (T := .base) (m_stoF N) (m_stoM N) (fun h => ⟨L, t, u, h, rfl, rfl⟩) (fun h => ⟨L, t, u, h, rfl, rfl⟩) (fun _ _ => rfl) (fun _ _ _ => rfl)) hr ht
theorem h_nou (N : NT X.K X.mg c) (hr : Room 2 X.A) (ho : HasE X Tb G e (NumR c t u)) {pl : Sem Bool}
    (ht : eval (.Call (.Attribute e "is_nought" apos) [] [] pos) X.env = (do
      let ov ← eval e X.env
      standAt apos.atName
      let (f, first) ← holding [ov] (getMethod ov "is_nought" pl)
      callWith pos f first (backTo pos (starEach [] X.env)) (backToKw pos (keywordEach [] X.env))) := by rfl) : HasE X Tb G (.Call (.Attribute e "is_nought" apos) [] [] pos) (BoolR (decide (u = 0))) :=
  he_methD0 ho (disp (T := .base) (m_nouF N) (m_nouM N) (fun h => ⟨L, t, u, h, rfl, rfl⟩) (fun h => ⟨L, t, u, h, rfl, rfl⟩) (fun _ _ => rfl) (fun _ _ _ => rfl)) hr ht
end
section
variable {P : Program} {w : World} {K : PySem.W.Frag} {mg : Str → Option Value} {base : Heap} {Tb : List NTab} {c : Cl}
theorem g_mixed (N : NT K mg c) : GFn P w K mg base Tb "mixed" 3 [] (SMxd c) := by
  refine gfn_mk (k := 2) N.mixed sc_mixed (bnd3 (fun _ _ _ _ _ _ _ _ _ => rfl) rfl) (fun Rs R ⟨_, _, _, _, _, _, e, _⟩ => by rw [e]; rfl) ?_
  rintro _ _ ⟨L, t, s, h, a, b, rfl, rfl⟩ f cdv A outer s0 H E hr
  by_cases hb : b = 0
  · refine rs_stop (rp_ifT ((ht_val (h_nou N hr (he_var 1 rfl))).eq (decide_eq_true hb)) (rs_one (rp_ret (he_eq (he_var 0 rfl) ?_))))
    subst hb
    exact numR_low.symm
  · refine rs_cons (np_skip ((ht_val (h_nou N hr (he_var 1 rfl))).eq (decide_eq_false hb))) (rs_one (rp_ret (he_eq (he_make (c_mixed N) hr (ha_cons (he_var 0 rfl) (ha_cons (he_var 1 rfl) (ha_cons (he_var 2 rfl) ha_nil))) ⟨rfl, rfl⟩) ?_)))
    exact (numR_mix hb).symm
/-! what is known of the numbers up to a height -/
structure NOk (P : Program) (w : World) (K : PySem.W.Frag) (mg : Str → Option Value) (base : Heap) (Tb : List NTab) (c : Cl) (n k : Nat) : Prop where
  tolF : MFn P w K mg base Tb c.F "told" k [] (STol c n pF K)
  tolM : MFn P w K mg base Tb c.M "told" k [] (STol c n pM K)
  negF : MFn P w K mg base Tb c.F "turned" k [] (SNeg c n pF)
  negM : MFn P w K mg base Tb c.M "turned" k [] (SNeg c n pM)
  addF : MFn P w K mg base Tb c.F "plus" k [] (SAdd c n fun x _ => x = 0)
  addM : MFn P w K mg base Tb c.M "plus" k [] (SAdd c n fun x _ => 0 < x)
  mulF : MFn P w K mg base Tb c.F "times" k [] (SMul c n fun x _ => x = 0)
  mulM : MFn P w K mg base Tb c.M "times" k [] (SMul c n fun x _ => 0 < x)
  subF : MFn P w K mg base Tb c.F "minus" k [] (SSub c n pF)
  subM : MFn P w K mg base Tb c.M "minus" k [] (SSub c n pM)
  invF : MFn P w K mg base Tb c.F "one_by" k [] (SInv c n pF)
  invM : MFn P w K mg base Tb c.M "one_by" k [] (SInv c n pM)
end
section
variable {X : Cx} {Tb : List NTab} {G : Ctx} {e a b : Expr} {pos apos : Pos} {c : Cl} {L : OF} {t : Tow L} {u v : L.C} {k n : Nat}
variable {pl : Sem Bool} {MM : MFn X.prog X.w X.K X.mg X.base Tb c.F "told" k [] (fun _ _ => True)}
theorem h_tol (O : NOk X.prog X.w X.K X.mg X.base Tb c n k) (hr : Room k X.A) (hn : t.ht ≤ n) (ho : HasE X Tb G e (NumR c t u))
    (ht : eval (.Call (.Attribute e "told" apos) [] [] pos) X.env = (do
      let ov ← eval e X.env
      standAt apos.atName
      let (f, first) ← holding [ov] (getMethod ov "told" pl)
      callWith pos f first (backTo pos (starEach [] X.env)) (backToKw pos (keywordEach [] X.env))) := by rfl) : HasE X Tb G (.Call (.Attribute e "told" apos) [] [] pos) (DataR X.K (t.told u)) :=
  he_methD0 ho (disp (T := .base) O.tolF O.tolM (fun h => ⟨L, t, u, hn, h, rfl, rfl⟩) (fun h => ⟨L, t, u, hn, h, rfl, rfl⟩) (fun _ _ => rfl) (fun _ _ _ => rfl)) hr ht
theorem h_neg (O : NOk X.prog X.w X.K X.mg X.base Tb c n k) (hr : Room k X.A) (hn : t.ht ≤ n) (ho : HasE X Tb G e (NumR c t u))
    (ht : eval (.Call (.Attribute e "turned" apos) [] [] pos) X.env = (do
      let ov ← eval e X.env
      standAt apos.atName
      let (f, first) ← holding [ov] (getMethod ov "turned" pl)
      callWith pos f first (backTo pos (starEach [] X.env)) (backToKw pos (keywordEach [] X.env))) := by rfl) : HasE X Tb G (.Call (.Attribute e "turned" apos) [] [] pos) (NumR c t (-u)) :=
  he_methD0 ho (disp (T := .base) O.negF O.negM (fun h => ⟨L, t, u, hn, h, rfl, rfl⟩) (fun h => ⟨L, t, u, hn, h, rfl, rfl⟩) (fun _ _ => rfl) (fun _ _ _ => rfl)) hr ht
theorem h_inv (O : NOk X.prog X.w X.K X.mg X.base Tb c n k) (hr : Room k X.A) (hn : t.ht ≤ n) (hc : CInv t u) (ho : HasE X Tb G e (NumR c t u))
    (ht : eval (.Call (.Attribute e "one_by" apos) [] [] pos) X.env = (do
      let ov ← eval e X.env
      standAt apos.atName
      let (f, first) ← holding [ov] (getMethod ov "one_by" pl)
      callWith pos f first (backTo pos (starEach [] X.env)) (backToKw pos (keywordEach [] X.env))) := by rfl) : HasE X Tb G (.Call (.Attribute e "one_by" apos) [] [] pos) (NumR c t (u⁻¹)) :=
  he_methD0 ho (disp (T := .base) O.invF O.invM (fun h => ⟨L, t, u, hn, h, hc, rfl, rfl⟩) (fun h => ⟨L, t, u, hn, h, hc, rfl, rfl⟩) (fun _ _ => rfl) (fun _ _ _ => rfl)) hr ht
theorem h_add (O : NOk X.prog X.w X.K X.mg X.base Tb c n k) (hr : Room k X.A) (hn : t.ht ≤ n) (hc : CAdd t u v) (ho : HasE X Tb G e (NumR c t u)) (hb : HasE X Tb G b (NumR c t v))
    (hst : starEach [b] X.env = (false, eval b X.env) :: starEach [] X.env := by rfl)
    (ht : eval (.Call (.Attribute e "plus" apos) [b] [] pos) X.env = (do
      let ov ← eval e X.env
      standAt apos.atName
      let (f, first) ← holding [ov] (getMethod ov "plus" pl)
      callWith pos f first (backTo pos (starEach [b] X.env)) (backToKw pos (keywordEach [] X.env))) := by rfl) : HasE X Tb G (.Call (.Attribute e "plus" apos) [b] [] pos) (NumR c t (u + v)) :=
  he_methD ho (disp (T := .base) O.addF O.addM (fun h => ⟨L, t, u, v, hn, h, hc, rfl, rfl⟩) (fun h => ⟨L, t, u, v, hn, h, hc, rfl, rfl⟩) (fun _ _ => rfl) (fun _ _ _ => rfl)) hr (ha_cons hb ha_nil hst) hst rfl ht
theorem h_sub (O : NOk X.prog X.w X.K X.mg X.base Tb c n k) (hr : Room k X.A) (hn : t.ht ≤ n) (hc : CAdd t u v) (ho : HasE X Tb G e (NumR c t u)) (hb : HasE X Tb G b (NumR c t v))
    (hst : starEach [b] X.env = (false, eval b X.env) :: starEach [] X.env := by rfl)
    (ht : eval (.Call (.Attribute e "minus" apos) [b] [] pos) X.env = (do
      let ov ← eval e X.env
      standAt apos.atName
      let (f, first) ← holding [ov] (getMethod ov "minus" pl)
      callWith pos f first (backTo pos (starEach [b] X.env)) (backToKw pos (keywordEach [] X.env))) := by rfl) : HasE X Tb G (.Call (.Attribute e "minus" apos) [b] [] pos) (NumR c t (u - v)) :=
  he_methD ho (disp (T := .base) O.subF O.subM (fun h => ⟨L, t, u, v, hn, h, hc, rfl, rfl⟩) (fun h => ⟨L, t, u, v, hn, h, hc, rfl, rfl⟩) (fun _ _ => rfl) (fun _ _ _ => rfl)) hr (ha_cons hb ha_nil hst) hst rfl ht
theorem h_mul (O : NOk X.prog X.w X.K X.mg X.base Tb c n k) (hr : Room k X.A) (hn : t.ht ≤ n) (hc : CMul t u v) (ho : HasE X Tb G e (NumR c t u)) (hb : HasE X Tb G b (NumR c t v))
    (hst : starEach [b] X.env = (false, eval b X.env) :: starEach [] X.env := by rfl)
    (ht : eval (.Call (.Attribute e "times" apos) [b] [] pos) X.env = (do
      let ov ← eval e X.env
      standAt apos.atName
      let (f, first) ← holding [ov] (getMethod ov "times" pl)
      callWith pos f first (backTo pos (starEach [b] X.env)) (backToKw pos (keywordEach [] X.env))) := by rfl) : HasE X Tb G (.Call (.Attribute e "times" apos) [b] [] pos) (NumR c t (u * v)) :=
  he_methD ho (disp (T := .base) O.mulF O.mulM (fun h => ⟨L, t, u, v, hn, h, hc, rfl, rfl⟩) (fun h => ⟨L, t, u, v, hn, h, hc, rfl, rfl⟩) (fun _ _ => rfl) (fun _ _ _ => rfl)) hr (ha_cons hb ha_nil hst) hst rfl ht
theorem h_mixed {s : L.C} {h : NSq s} {a b d : Expr} {x y : L.C} {p : Pos} (N : NT X.K X.mg c) (hr : Room 3 X.A) (ha : HasE X Tb G a (NumR c t x)) (hb : HasE X Tb G b (NumR c t y)) (hd : HasE X Tb G d (RootR c t s))
    (h1 : starEach [a, b, d] X.env = (false, eval a X.env) :: starEach [b, d] X.env := by rfl) (h2 : starEach [b, d] X.env = (false, eval b X.env) :: starEach [d] X.env := by rfl) (h3 : starEach [d] X.env = (false, eval d X.env) :: starEach [] X.env := by rfl) (hg : Gl X "mixed" := by rfl) (hpl : (backTo pos (starEach [b, d] X.env)).any (·.1) = false := by rfl) :
    HasE X Tb G (.Call (.Name "mixed" p) [a, b, d] [] pos) (NumR c (.ext t s h) (⟨x, y⟩ : Quad L.C s)) :=
  he_call (g_mixed N) hr (ha_cons ha (ha_cons hb (ha_cons hd ha_nil h3) h2) h1) ⟨L, t, s, h, x, y, rfl, rfl⟩ hg (by decide) h1 hpl
theorem h_mkMix {s : L.C} {h : NSq s} {a b d : Expr} {x y : L.C} {p : Pos} (N : NT X.K X.mg c) (hr : Room 2 X.A) (hy : y ≠ 0) (ha : HasE X Tb G a (NumR c t x)) (hb : HasE X Tb G b (NumR c t y)) (hd : HasE X Tb G d (RootR c t s))
    (h1 : starEach [a, b, d] X.env = (false, eval a X.env) :: starEach [b, d] X.env := by rfl) (h2 : starEach [b, d] X.env = (false, eval b X.env) :: starEach [d] X.env := by rfl) (h3 : starEach [d] X.env = (false, eval d X.env) :: starEach [] X.env := by rfl) (hg : Gl X "Mixed" := by rfl) (hpl : (backTo pos (starEach [b, d] X.env)).any (·.1) = false := by rfl) :
    HasE X Tb G (.Call (.Name "Mixed" p) [a, b, d] [] pos) (NumR c (.ext t s h) (⟨x, y⟩ : Quad L.C s)) :=
  he_eq (he_make (c_mixed N) hr (ha_cons ha (ha_cons hb (ha_cons hd ha_nil h3) h2) h1) ⟨rfl, rfl⟩ hg (by decide) h1 hpl) (numR_mix hy).symm
theorem h_frac {x y : Int} {a b : Expr} {p : Pos} (Gg : Gd X.prog X.base) (N : NT X.K X.mg c) (hr : Room 36 X.A) (hy : y ≠ 0) (ha : HasE X Tb G a (IntR x)) (hb : HasE X Tb G b (IntR y))
    (h1 : starEach [a, b] X.env = (false, eval a X.env) :: starEach [b] X.env := by rfl) (h2 : starEach [b] X.env = (false, eval b X.env) :: starEach [] X.env := by rfl) (hg : Gl X "Fraction" := by rfl) (hpl : (backTo pos (starEach [b] X.env)).any (·.1) = false := by rfl) :
    HasE X Tb G (.Call (.Name "Fraction" p) [a, b] [] pos) (NumR c .base (Rat.divInt x y)) :=
  he_eq (he_make (c_frac2 Gg N) hr (ha_cons ha (ha_cons hb ha_nil h2) h1) ⟨x, y, rfl, hy, rfl⟩ hg (by decide) h1 hpl) numR_base.symm
theorem h_frac1 {x : Int} {a : Expr} {p : Pos} (Gg : Gd X.prog X.base) (N : NT X.K X.mg c) (hr : Room 36 X.A) (ha : HasE X Tb G a (IntR x))
    (h1 : starEach [a] X.env = (false, eval a X.env) :: starEach [] X.env := by rfl) (hg : Gl X "Fraction" := by rfl) :
    HasE X Tb G (.Call (.Name "Fraction" p) [a] [] pos) (NumR c .base (x : Rat)) :=
  he_eq (he_make (c_frac1 Gg N) hr (ha_cons ha ha_nil h1) ⟨x, rfl, rfl⟩ hg (by decide) h1 rfl) numR_base.symm
end
end Rl

set_option Elab.async false
set_option linter.all false
set_option maxRecDepth 100000
set_option maxHeartbeats 4000000
/-! The numbers' methods, by the height of the tower (3): the step. -/
namespace Rl
open PySem PySem.Spec PyProof.Rows L2 NdefX LamX Tow
section
variable {L : OF} {t : Tow L} {s : L.C} {h : NSq s}
theorem sz_re (u : (L.ext s h).C) : t.sz (OF.q u).re ≤ (Tow.ext t s h).sz u := Nat.le_max_left _ _
theorem sz_im (u : (L.ext s h).C) : t.sz (OF.q u).im ≤ (Tow.ext t s h).sz u := Nat.le_max_right _ _
theorem CAdd.of {u v : L.C} {n m : Nat} (a : t.sz u ≤ n) (b : t.sz v ≤ m) (q : n + m + 1 ≤ Bg) : CAdd t u v := by unfold CAdd; omega
theorem CMul.of {u v : L.C} {n m z : Nat} (hz : t.Sm z) (a : t.sz u ≤ n) (b : t.sz v ≤ m) (q : mB t.ht z n m ≤ Bg) : CMul t u v := ⟨z, hz, Nat.le_trans (mB_mono a b) q⟩
end
section
variable {P : Program} {w : World} {K : PySem.W.Frag} {mg : Str → Option Value} {base : Heap} {Tb : List NTab} {c : Cl} {n k : Nat}
theorem dispM {X : Cx} {m : Str} {k : Nat} {S2 : List Rp → Rp → Prop} {Rs : List Rp} {R : Rp} {L : OF} {t : Tow L} {u : L.C} (M : MFn X.prog X.w X.K X.mg X.base Tb c.M m k [] S2)
    (h0 : 0 < t.st u) (h2 : S2 (NumR c t u :: Rs) R) (l2 : ∀ A B D : Rp, ([("plain", A), ("part", B), ("root", D)] : List (Str × Rp)).lookup m = none) : Disp X Tb k m (NumR c t u) Rs R := by
  intro v H r
  rcases num_form c t u with ⟨e, A, B, q⟩ | ⟨e, A, B, D, q⟩
  · omega
  · exact ⟨c.M, _, [], S2, q ▸ r, l2 A B D, M, by rw [List.append_nil, ← q]; exact h2⟩
/-! plus -/
theorem b_addM (N : NT K mg c) (I : ∀ m, n = m + 1 → NOk P w K mg base Tb c m k) (hk : 3 ≤ k) {L : OF} {t : Tow L} {u v : L.C} (hn : t.ht ≤ n) (hu : 0 < t.st u) (hle : t.st v ≤ t.st u) (hc : CAdd t u v)
    (f : Addr) (cdv : Value) (A : Around) (outer : List PySem.Env) (s0 : Shared) (H : Hp) (E : XK) (hr : Room k (A.deeper (envOfC "Mixed.plus" (defScope s_Mixed_plus) s0.heap.objs.size f cdv))) :
    RetS (cxOf CX0 P w K mg base n_Mixed_plus "Mixed.plus" (defScope s_Mixed_plus) f cdv A outer s0 H E).nox Tb (ctx0 n_Mixed_plus [NumR c t u, NumR c t v]) (defBody s_Mixed_plus) (NumR c t (u + v)) := by
  obtain ⟨L', t', s, h, u, v, F, hi⟩ := nfM2 (c := c) (t := t) hu hle
  rw [F.ru, F.rv, F.radd]
  rw [← F.stu, ← F.stv] at hle
  have hh := F.ht
  have hh' : t'.ht + 1 ≤ n := Nat.le_trans hh hn
  obtain ⟨m, rfl⟩ : ∃ m, n = m + 1 := ⟨n - 1, by omega⟩
  have O := I m rfl
  have hm : t'.ht ≤ m := by omega
  have zu := F.su
  have zv := F.sv
  have z1 := sz_re (t := t') u
  have z2 := sz_im (t := t') u
  have z3 := sz_re (t := t') v
  have z4 := sz_im (t := t') v
  unfold CAdd at hc
  have r1 := hr.mono (show 1 ≤ k by omega)
  have r2 := hr.mono (show 2 ≤ k by omega)
  have r3 := hr.mono (show 3 ≤ k by omega)
  refine rs_cons (np_skip ((ht_gt (h_sto N r1 (he_var 1 rfl)) (h_sto N r1 (he_var 0 rfl))).eq (decide_eq_false (by omega)))) ?_
  by_cases hv : (OF.q v).im = 0
  · have e1 := high_st (t := t') u hi
    have e2 := low_st (t := t') v hv
    have e3 := st_le t' (OF.q v).re
    have ev : NumR c (.ext t' s h) v = NumR c t' (OF.q v).re := (numR_ext v).trans (if_pos hv)
    refine rs_stop (rp_ifT ((ht_lt (h_sto N r1 (he_var 1 rfl)) (h_sto N r1 (he_var 0 rfl))).eq (decide_eq_true (by omega))) (rs_one (rp_ret ?_)))
    refine he_eq (h_mkMix N r2 (h := h) hi (h_add O hr hm (.of (Nat.le_trans z1 zu) (Nat.le_trans z3 zv) hc) (h_plain N hi (he_var 0 rfl)) (he_eq (he_var 1 rfl) ev)) (h_part N hi (he_var 0 rfl)) (h_root N hi (he_var 0 rfl))) ?_
    congr 1
    apply Quad.ext
    · rfl
    · show (OF.q u).im = (OF.q u).im + (OF.q v).im
      rw [hv]; grind
  · have e1 := high_st (t := t') u hi
    have e2 := high_st (t := t') v hv
    refine rs_cons (np_skip ((ht_lt (h_sto N r1 (he_var 1 rfl)) (h_sto N r1 (he_var 0 rfl))).eq (decide_eq_false (by omega)))) (rs_one (rp_ret ?_))
    exact h_mixed N r3 (h := h) (h_add O hr hm (.of (Nat.le_trans z1 zu) (Nat.le_trans z3 zv) hc) (h_plain N hi (he_var 0 rfl)) (h_plain N hv (he_var 1 rfl))) (h_add O hr hm (.of (Nat.le_trans z2 zu) (Nat.le_trans z4 zv) hc) (h_part N hi (he_var 0 rfl)) (h_part N hv (he_var 1 rfl))) (h_root N hi (he_var 0 rfl))
theorem m_addM1 (N : NT K mg c) (I : ∀ m, n = m + 1 → NOk P w K mg base Tb c m k) (hk : 3 ≤ k) : MFn P w K mg base Tb c.M "plus" (k + 1) [] (SAdd c n fun x y => 0 < x ∧ y ≤ x) := by
  refine mfn_mk N.clM N.M_plus sc_Mixed_plus (bnd2 (fun _ _ _ _ _ _ _ _ => rfl) rfl) (fun Rs R ⟨_, _, _, _, _, _, _, e, _⟩ => by rw [e]; rfl) ?_
  rintro _ _ ⟨L, t, u, v, hn, ⟨hu, hle⟩, hc, rfl, rfl⟩ f cdv A outer s0 H E hr
  exact b_addM N I hk hn hu hle hc f cdv A outer s0 H E hr
theorem m_addM (N : NT K mg c) (I : ∀ m, n = m + 1 → NOk P w K mg base Tb c m k) (hk : 3 ≤ k) : MFn P w K mg base Tb c.M "plus" (k + 2) [] (SAdd c n fun x _ => 0 < x) := by
  refine mfn_mk (k := k + 1) N.clM N.M_plus sc_Mixed_plus (bnd2 (fun _ _ _ _ _ _ _ _ => rfl) rfl) (fun Rs R ⟨_, _, _, _, _, _, _, e, _⟩ => by rw [e]; rfl) ?_
  rintro _ _ ⟨L, t, u, v, hn, hu, hc, rfl, rfl⟩ f cdv A outer s0 H E hr
  by_cases hle : t.st v ≤ t.st u
  · exact b_addM N I hk hn hu hle hc f cdv A outer s0 H E (hr.mono (by omega))
  · have r1 := hr.mono (show 1 ≤ k + 1 by omega)
    refine rs_stop (rp_ifT ((ht_gt (h_sto N r1 (he_var 1 rfl)) (h_sto N r1 (he_var 0 rfl))).eq (decide_eq_true (by omega))) (rs_one (rp_ret ?_)))
    refine he_eq (he_methD (R := NumR c t (v + u)) (he_var 1 rfl) (dispM (m_addM1 N I hk) (by omega) ⟨L, t, v, u, hn, ⟨by omega, by omega⟩, ?_, rfl, rfl⟩ (fun _ _ _ => rfl)) hr (ha_cons (he_var 0 rfl) ha_nil)) ?_
    · unfold CAdd at hc ⊢; omega
    · congr 1; grind
theorem frac_mul {a b : Int} (h : a.natAbs.log2 < Bg) (g : b.natAbs.log2 < Bg) : CMulX a b := by unfold CMulX; unfold Bg at h g; omega
theorem num_log {q : Rat} {n : Nat} (h : bits q ≤ n) (g : n ≤ Bg) : q.num.natAbs.log2 < Bg := by unfold bits at h; omega
theorem den_log {q : Rat} {n : Nat} (h : bits q ≤ n) (g : n ≤ Bg) : ((q.den : Nat) : Int).natAbs.log2 < Bg := by rw [Int.natAbs_natCast]; unfold bits at h; omega
theorem den_ne (q : Rat) : ((q.den : Nat) : Int) ≠ 0 := by have := q.den_nz; omega
theorem m_addF (G : Gd P base) (N : NT K mg c) (I : ∀ m, n = m + 1 → NOk P w K mg base Tb c m k) (hk : 36 ≤ k) : MFn P w K mg base Tb c.F "plus" (k + 2) [] (SAdd c n fun x _ => x = 0) := by
  refine mfn_mk (k := k + 1) N.clF N.F_plus sc_Fraction_plus (bnd2 (fun _ _ _ _ _ _ _ _ => rfl) rfl) (fun Rs R ⟨_, _, _, _, _, _, _, e, _⟩ => by rw [e]; rfl) ?_
  rintro _ _ ⟨L, t, u, v, hn, hu, hc, rfl, rfl⟩ f cdv A outer s0 H E hr
  have r1 := hr.mono (show 1 ≤ k + 1 by omega)
  by_cases hv : t.st v = 0
  · obtain ⟨a, b, F⟩ := nfF2 (c := c) (t := t) hu hv
    rw [F.ru, F.rv, F.radd]
    have zu : bits a ≤ t.sz u := F.su
    have zv : bits b ≤ t.sz v := F.sv
    unfold CAdd at hc
    refine rs_cons (np_skip ((ht_gt (h_sto N r1 (he_var 1 rfl)) he_int).eq (decide_eq_false (by rw [F.stv, hv]; omega)))) (rs_one (rp_ret ?_))
    refine he_eq (h_frac G N (hr.mono (by omega)) (Int.mul_ne_zero (den_ne a) (den_ne b)) (he_add (he_mulX (h_top N (he_var 0 rfl)) (h_bottom N (he_var 1 rfl)) (frac_mul (num_log zu (by omega)) (den_log zv (by omega)))) (he_mulX (h_top N (he_var 1 rfl)) (h_bottom N (he_var 0 rfl)) (frac_mul (num_log zv (by omega)) (den_log zu (by omega)))))
      (he_mulX (h_bottom N (he_var 0 rfl)) (h_bottom N (he_var 1 rfl)) (frac_mul (den_log zu (by omega)) (den_log zv (by omega))))) ?_
    exact congrArg (NumR c .base) (rat_add a b).symm
  · refine rs_stop (rp_ifT ((ht_gt (h_sto N r1 (he_var 1 rfl)) he_int).eq (decide_eq_true (by omega))) (rs_one (rp_ret ?_)))
    refine he_eq (he_methD (R := NumR c t (v + u)) (he_var 1 rfl) (dispM (m_addM1 N I (by omega)) (by omega) ⟨L, t, v, u, hn, ⟨by omega, by omega⟩, ?_, rfl, rfl⟩ (fun _ _ _ => rfl)) hr (ha_cons (he_var 0 rfl) ha_nil)) ?_
    · unfold CAdd at hc ⊢; omega
    · congr 1; grind
/-! times -/
theorem b_mulM (N : NT K mg c) (I : ∀ m, n = m + 1 → NOk P w K mg base Tb c m k) (hk : 3 ≤ k) {L : OF} {t : Tow L} {u v : L.C} (hn : t.ht ≤ n) (hu : 0 < t.st u) (hle : t.st v ≤ t.st u) (hc : CMul t u v)
    (f : Addr) (cdv : Value) (A : Around) (outer : List PySem.Env) (s0 : Shared) (H : Hp) (E : XK) (hr : Room k (A.deeper (envOfC "Mixed.times" (defScope s_Mixed_times) s0.heap.objs.size f cdv))) :
    RetS (cxOf CX0 P w K mg base n_Mixed_times "Mixed.times" (defScope s_Mixed_times) f cdv A outer s0 H E).nox Tb (ctx0 n_Mixed_times [NumR c t u, NumR c t v]) (defBody s_Mixed_times) (NumR c t (u * v)) := by
  obtain ⟨L', t', s, h, u', v', F, hi⟩ := nfM2 (c := c) (t := t) hu hle
  rw [F.ru, F.rv, F.rmul]
  rw [← F.stu, ← F.stv] at hle
  have hh := F.ht
  have hh' : t'.ht + 1 ≤ n := Nat.le_trans hh hn
  obtain ⟨m, rfl⟩ : ∃ m, n = m + 1 := ⟨n - 1, by omega⟩
  have O := I m rfl
  have hm : t'.ht ≤ m := by omega
  obtain ⟨z, hz, hb⟩ := hc
  obtain ⟨hz1, hz2⟩ := F.sm z hz
  have zu := F.su
  have zv := F.sv
  have z1 := Nat.le_trans (sz_re (t := t') u') zu
  have z2 := Nat.le_trans (sz_im (t := t') u') zu
  have z3 := Nat.le_trans (sz_re (t := t') v') zv
  have z4 := Nat.le_trans (sz_im (t := t') v') zv
  have hB := Nat.le_trans (mB_h (z := z) (n := t.sz u) (m := t.sz v) hh) hb
  have hB' : mB t'.ht z (t.sz u) (t.sz v) + mB t'.ht z (mB t'.ht z (t.sz u) (t.sz v)) z + 1 ≤ Bg := hB
  have hg := mB_ge (h := t'.ht) (z := z) (n := mB t'.ht z (t.sz u) (t.sz v)) (m := z)
  have hM1 : mB t'.ht z (t.sz u) (t.sz v) ≤ Bg := by omega
  have r1 := hr.mono (show 1 ≤ k by omega)
  have r3 := hr.mono (show 3 ≤ k by omega)
  have hnd := sc_Mixed_times.nd
  refine rs_cons (np_skip ((ht_gt (h_sto N r1 (he_var 1 rfl)) (h_sto N r1 (he_var 0 rfl))).eq (decide_eq_false (by omega)))) ?_
  by_cases hv : (OF.q v').im = 0
  · have e1 := high_st (t := t') u' hi
    have e2 := low_st (t := t') v' hv
    have e3 := st_le t' (OF.q v').re
    have ev : NumR c (.ext t' s h) v' = NumR c t' (OF.q v').re := (numR_ext v').trans (if_pos hv)
    refine rs_stop (rp_ifT ((ht_lt (h_sto N r1 (he_var 1 rfl)) (h_sto N r1 (he_var 0 rfl))).eq (decide_eq_true (by omega))) (rs_one (rp_ret ?_)))
    refine he_eq (h_mixed N r3 (h := h) (h_mul O hr hm (.of hz1 z1 z3 hM1) (h_plain N hi (he_var 0 rfl)) (he_eq (he_var 1 rfl) ev)) (h_mul O hr hm (.of hz1 z2 z3 hM1) (h_part N hi (he_var 0 rfl)) (he_eq (he_var 1 rfl) ev)) (h_root N hi (he_var 0 rfl))) ?_
    congr 1
    apply Quad.ext
    · show (OF.q u').re * (OF.q v').re = (OF.q u').re * (OF.q v').re + (OF.q u').im * (OF.q v').im * s
      rw [hv]; grind
    · show (OF.q u').im * (OF.q v').re = (OF.q u').re * (OF.q v').im + (OF.q u').im * (OF.q v').re
      rw [hv]; grind
  · have e1 := high_st (t := t') u' hi
    have e2 := high_st (t := t') v' hv
    have i2 := sz_mul t' hz1 z2 z4
    have i1 := sz_mul t' hz1 z1 z3
    have i3 := sz_mul t' hz1 i2 hz2
    have i4 := sz_mul t' hz1 z1 z4
    have i5 := sz_mul t' hz1 z2 z3
    refine rs_cons (np_skip ((ht_lt (h_sto N r1 (he_var 1 rfl)) (h_sto N r1 (he_var 0 rfl))).eq (decide_eq_false (by omega)))) ?_
    refine rs_cons (np_set 2 (h_mul O hr hm (.of hz1 z1 z3 hM1) (h_plain N hi (he_var 0 rfl)) (h_plain N hv (he_var 1 rfl))) hnd) ?_
    refine rs_cons (np_set 2 (h_add O hr hm (.of i1 i3 hB') (he_var 2 rfl) (h_mul O hr hm (.of hz1 i2 hz2 (by omega)) (h_mul O hr hm (.of hz1 z2 z4 hM1) (h_part N hi (he_var 0 rfl)) (h_part N hv (he_var 1 rfl))) (h_square N (h_root N hi (he_var 0 rfl))))) hnd) ?_
    refine rs_one (rp_ret ?_)
    exact h_mixed N r3 (h := h) (he_var 2 rfl) (h_add O hr hm (.of i4 i5 (by omega)) (h_mul O hr hm (.of hz1 z1 z4 hM1) (h_plain N hi (he_var 0 rfl)) (h_part N hv (he_var 1 rfl))) (h_mul O hr hm (.of hz1 z2 z3 hM1) (h_part N hi (he_var 0 rfl)) (h_plain N hv (he_var 1 rfl)))) (h_root N hi (he_var 0 rfl))
theorem mB_comm : ∀ {h z n m : Nat}, mB h z n m = mB h z m n
  | 0, z, n, m => by simp only [mB]; omega
  | h + 1, z, n, m => by simp only [mB]; rw [mB_comm (h := h) (n := n) (m := m)]
theorem CMul.comm {L : OF} {t : Tow L} {u v : L.C} (h : CMul t u v) : CMul t v u := let ⟨z, a, b⟩ := h; ⟨z, a, by rw [mB_comm]; exact b⟩
theorem m_mulM1 (N : NT K mg c) (I : ∀ m, n = m + 1 → NOk P w K mg base Tb c m k) (hk : 3 ≤ k) : MFn P w K mg base Tb c.M "times" (k + 1) [] (SMul c n fun x y => 0 < x ∧ y ≤ x) := by
  refine mfn_mk N.clM N.M_times sc_Mixed_times (bnd2 (fun _ _ _ _ _ _ _ _ => rfl) rfl) (fun Rs R ⟨_, _, _, _, _, _, _, e, _⟩ => by rw [e]; rfl) ?_
  rintro _ _ ⟨L, t, u, v, hn, ⟨hu, hle⟩, hc, rfl, rfl⟩ f cdv A outer s0 H E hr
  exact b_mulM N I hk hn hu hle hc f cdv A outer s0 H E hr
theorem m_mulM (N : NT K mg c) (I : ∀ m, n = m + 1 → NOk P w K mg base Tb c m k) (hk : 3 ≤ k) : MFn P w K mg base Tb c.M "times" (k + 2) [] (SMul c n fun x _ => 0 < x) := by
  refine mfn_mk (k := k + 1) N.clM N.M_times sc_Mixed_times (bnd2 (fun _ _ _ _ _ _ _ _ => rfl) rfl) (fun Rs R ⟨_, _, _, _, _, _, _, e, _⟩ => by rw [e]; rfl) ?_
  rintro _ _ ⟨L, t, u, v, hn, hu, hc, rfl, rfl⟩ f cdv A outer s0 H E hr
  by_cases hle : t.st v ≤ t.st u
  · exact b_mulM N I hk hn hu hle hc f cdv A outer s0 H E (hr.mono (by omega))
  · have r1 := hr.mono (show 1 ≤ k + 1 by omega)
    refine rs_stop (rp_ifT ((ht_gt (h_sto N r1 (he_var 1 rfl)) (h_sto N r1 (he_var 0 rfl))).eq (decide_eq_true (by omega))) (rs_one (rp_ret ?_)))
    refine he_eq (he_methD (R := NumR c t (v * u)) (he_var 1 rfl) (dispM (m_mulM1 N I hk) (by omega) ⟨L, t, v, u, hn, ⟨by omega, by omega⟩, hc.comm, rfl, rfl⟩ (fun _ _ _ => rfl)) hr (ha_cons (he_var 0 rfl) ha_nil)) ?_
    congr 1; grind
theorem m_mulF (G : Gd P base) (N : NT K mg c) (I : ∀ m, n = m + 1 → NOk P w K mg base Tb c m k) (hk : 36 ≤ k) : MFn P w K mg base Tb c.F "times" (k + 2) [] (SMul c n fun x _ => x = 0) := by
  refine mfn_mk (k := k + 1) N.clF N.F_times sc_Fraction_times (bnd2 (fun _ _ _ _ _ _ _ _ => rfl) rfl) (fun Rs R ⟨_, _, _, _, _, _, _, e, _⟩ => by rw [e]; rfl) ?_
  rintro _ _ ⟨L, t, u, v, hn, hu, hc, rfl, rfl⟩ f cdv A outer s0 H E hr
  have r1 := hr.mono (show 1 ≤ k + 1 by omega)
  by_cases hv : t.st v = 0
  · obtain ⟨a, b, F⟩ := nfF2 (c := c) (t := t) hu hv
    rw [F.ru, F.rv, F.rmul]
    have zu : bits a ≤ t.sz u := F.su
    have zv : bits b ≤ t.sz v := F.sv
    obtain ⟨z, _, hb⟩ := hc
    have hg := mB_ge (h := t.ht) (z := z) (n := t.sz u) (m := t.sz v)
    refine rs_cons (np_skip ((ht_gt (h_sto N r1 (he_var 1 rfl)) he_int).eq (decide_eq_false (by rw [F.stv, hv]; omega)))) (rs_one (rp_ret ?_))
    refine he_eq (h_frac G N (hr.mono (by omega)) (Int.mul_ne_zero (den_ne a) (den_ne b)) (he_mulX (h_top N (he_var 0 rfl)) (h_top N (he_var 1 rfl)) (frac_mul (num_log zu (by omega)) (num_log zv (by omega))))
      (he_mulX (h_bottom N (he_var 0 rfl)) (h_bottom N (he_var 1 rfl)) (frac_mul (den_log zu (by omega)) (den_log zv (by omega))))) ?_
    exact congrArg (NumR c .base) (rat_mul a b).symm
  · refine rs_stop (rp_ifT ((ht_gt (h_sto N r1 (he_var 1 rfl)) he_int).eq (decide_eq_true (by omega))) (rs_one (rp_ret ?_)))
    refine he_eq (he_methD (R := NumR c t (v * u)) (he_var 1 rfl) (dispM (m_mulM1 N I (by omega)) (by omega) ⟨L, t, v, u, hn, ⟨by omega, by omega⟩, hc.comm, rfl, rfl⟩ (fun _ _ _ => rfl)) hr (ha_cons (he_var 0 rfl) ha_nil)) ?_
    congr 1; grind
end
end Rl

set_option Elab.async false
set_option linter.all false
set_option maxRecDepth 100000
set_option maxHeartbeats 4000000
/-! The numbers' methods, by the height of the tower (4): the rest of the step, the whole. -/
namespace Rl
open PySem PySem.Spec PyProof.Rows L2 NdefX LamX Tow
section
variable {P : Program} {w : World} {K : PySem.W.Frag} {mg : Str → Option Value} {base : Heap} {Tb : List NTab} {c : Cl} {n k : Nat}
/-! turned, told -/
theorem m_negF (G : Gd P base) (N : NT K mg c) : MFn P w K mg base Tb c.F "turned" 37 [] (SNeg c n pF) := by
  refine mfn_mk (k := 36) N.clF N.F_turned sc_Fraction_turned (bnd1 (fun _ _ _ _ _ _ _ => rfl) rfl) (fun Rs R ⟨_, _, _, _, _, e, _⟩ => by rw [e]; rfl) ?_
  rintro _ _ ⟨L, t, u, hn, hu, rfl, rfl⟩ f cdv A outer s0 H E hr
  obtain ⟨q, b, F⟩ := nfF2 (c := c) (t := t) hu hu
  rw [F.ru, F.rneg]
  refine rs_one (rp_ret (he_eq (h_frac G N hr (den_ne q) (he_neg (h_top N (he_var 0 rfl))) (h_bottom N (he_var 0 rfl))) ?_))
  have e : Rat.divInt (-q.num) (q.den : Int) = -q := by
    rw [← Rat.neg_divInt, Rat.num_divInt_den]
  exact congrArg (NumR c .base) e
theorem m_negM (N : NT K mg c) (I : ∀ m, n = m + 1 → NOk P w K mg base Tb c m k) (hk : 3 ≤ k) : MFn P w K mg base Tb c.M "turned" (k + 1) [] (SNeg c n pM) := by
  refine mfn_mk N.clM N.M_turned sc_Mixed_turned (bnd1 (fun _ _ _ _ _ _ _ => rfl) rfl) (fun Rs R ⟨_, _, _, _, _, e, _⟩ => by rw [e]; rfl) ?_
  rintro _ _ ⟨L, t, u, hn, hu, rfl, rfl⟩ f cdv A outer s0 H E hr
  obtain ⟨L', t', s, h, u', v', F, hi⟩ := nfM2 (c := c) (t := t) (v := u) hu (Nat.le_refl _)
  rw [F.ru, F.rneg]
  have hh' : t'.ht + 1 ≤ n := Nat.le_trans F.ht hn
  obtain ⟨m, rfl⟩ : ∃ m, n = m + 1 := ⟨n - 1, by omega⟩
  have O := I m rfl
  have hm : t'.ht ≤ m := by omega
  refine rs_one (rp_ret (h_mkMix N (hr.mono (by omega)) (h := h) (fun z => hi (by grind)) (h_neg O hr hm (h_plain N hi (he_var 0 rfl))) (h_neg O hr hm (h_part N hi (he_var 0 rfl))) (h_root N hi (he_var 0 rfl))))
theorem m_tolF (N : NT K mg c) : MFn P w K mg base Tb c.F "told" 1 [] (STol c n pF K) := by
  refine mfn_mk (k := 0) N.clF N.F_told sc_Fraction_told (bnd1 (fun _ _ _ _ _ _ _ => rfl) rfl) (fun Rs R ⟨_, _, _, _, _, e, _⟩ => by rw [e]; rfl) ?_
  rintro _ _ ⟨L, t, u, hn, hu, rfl, rfl⟩ f cdv A outer s0 H E hr
  obtain ⟨q, b, F⟩ := nfF2 (c := c) (t := t) hu hu
  rw [F.ru, ← F.tu]
  exact rs_one (rp_ret ((he_tup (ha_cons ((h_top N (he_var 0 rfl)).sub (data_int _)) (ha_cons ((h_bottom N (he_var 0 rfl)).sub (data_int _)) ha_nil))).sub (data_tup (ds := [.int q.num, .int (q.den : Int)]))))
theorem m_tolM (N : NT K mg c) (I : ∀ m, n = m + 1 → NOk P w K mg base Tb c m k) : MFn P w K mg base Tb c.M "told" (k + 1) [] (STol c n pM K) := by
  refine mfn_mk N.clM N.M_told sc_Mixed_told (bnd1 (fun _ _ _ _ _ _ _ => rfl) rfl) (fun Rs R ⟨_, _, _, _, _, e, _⟩ => by rw [e]; rfl) ?_
  rintro _ _ ⟨L, t, u, hn, hu, rfl, rfl⟩ f cdv A outer s0 H E hr
  obtain ⟨L', t', s, h, u', v', F, hi⟩ := nfM2 (c := c) (t := t) (v := u) hu (Nat.le_refl _)
  rw [F.ru, ← F.tu]
  have hh' : t'.ht + 1 ≤ n := Nat.le_trans F.ht hn
  obtain ⟨m, rfl⟩ : ∃ m, n = m + 1 := ⟨n - 1, by omega⟩
  have O := I m rfl
  have hm : t'.ht ≤ m := by omega
  have e : (Tow.ext t' s h).told u' = .tuple [.int t'.ht, t'.told (OF.q u').re, t'.told (OF.q u').im] := by rw [Tow.told, if_neg hi]
  rw [e]
  exact rs_one (rp_ret ((he_tup (ha_cons ((h_place N (h_root N hi (he_var 0 rfl))).sub (data_int _)) (ha_cons (h_tol O hr hm (h_plain N hi (he_var 0 rfl))) (ha_cons (h_tol O hr hm (h_part N hi (he_var 0 rfl))) ha_nil)))).sub (data_tup (ds := [.int t'.ht, t'.told (OF.q u').re, t'.told (OF.q u').im]))))
/-! minus -/
theorem m_sub {C : Addr} (hc : Cls K C) (M : TMt K C "minus" "Number.minus" s_Number_minus []) {p : Nat → Prop}
    (addF : MFn P w K mg base Tb c.F "plus" k [] (SAdd c n fun x _ => x = 0)) (addM : MFn P w K mg base Tb c.M "plus" k [] (SAdd c n fun x _ => 0 < x))
    (negF : MFn P w K mg base Tb c.F "turned" k [] (SNeg c n pF)) (negM : MFn P w K mg base Tb c.M "turned" k [] (SNeg c n pM)) : MFn P w K mg base Tb C "minus" (k + 1) [] (SSub c n p) := by
  refine mfn_mk hc M sc_Number_minus (bnd2 (fun _ _ _ _ _ _ _ _ => rfl) rfl) (fun Rs R ⟨_, _, _, _, _, _, _, e, _⟩ => by rw [e]; rfl) ?_
  rintro _ _ ⟨L, t, u, v, hn, hu, hc, rfl, rfl⟩ f cdv A outer s0 H E hr
  have hc' : CAdd t u (-v) := by unfold CAdd at hc ⊢; rw [sz_neg]; exact hc
  rw [Lean.Grind.Ring.sub_eq_add_neg]
  refine rs_one (rp_ret (he_methD (he_var 0 rfl) (disp (T := .base) addF addM (fun h => ⟨L, t, u, -v, hn, h, hc', rfl, rfl⟩) (fun h => ⟨L, t, u, -v, hn, h, hc', rfl, rfl⟩) (fun _ _ => rfl) (fun _ _ _ => rfl)) hr
    (ha_cons (he_methD0 (he_var 1 rfl) (disp (T := .base) negF negM (fun h => ⟨L, t, v, hn, h, rfl, rfl⟩) (fun h => ⟨L, t, v, hn, h, rfl, rfl⟩) (fun _ _ => rfl) (fun _ _ _ => rfl)) hr) ha_nil)))
/-! one_by -/
theorem m_invF (G : Gd P base) (N : NT K mg c) : MFn P w K mg base Tb c.F "one_by" 37 [] (SInv c n pF) := by
  refine mfn_mk (k := 36) N.clF N.F_one_by sc_Fraction_one_by (bnd1 (fun _ _ _ _ _ _ _ => rfl) rfl) (fun Rs R ⟨_, _, _, _, _, _, e, _⟩ => by rw [e]; rfl) ?_
  rintro _ _ ⟨L, t, u, hn, hu, ⟨h0, _⟩, rfl, rfl⟩ f cdv A outer s0 H E hr
  obtain ⟨q, b, F⟩ := nfF2 (c := c) (t := t) hu hu
  have hq : q.num ≠ 0 := fun z => h0 (F.zu.mpr (Rat.num_eq_zero.mp z))
  rw [F.ru, F.rinv]
  refine rs_one (rp_ret (he_eq (h_frac G N hr hq (h_bottom N (he_var 0 rfl)) (h_top N (he_var 0 rfl))) ?_))
  exact congrArg (NumR c .base) (Rat.inv_def q).symm
def SNrm (c : Cl) (n : Nat) : List Rp → Rp → Prop := fun Rs R => ∃ (L : OF) (t : Tow L) (s : L.C) (h : NSq s) (u : (L.ext s h).C), t.ht + 1 ≤ n ∧ (OF.q u).im ≠ 0 ∧ (∃ z B, t.Sm z ∧ t.sz s ≤ z ∧ (Tow.ext t s h).sz u ≤ B ∧ nB t.ht z B ≤ Bg) ∧ Rs = [NumR c (.ext t s h) u] ∧ R = NumR c t (Quad.nrm (OF.q u))
theorem m_norm (N : NT K mg c) (I : ∀ m, n = m + 1 → NOk P w K mg base Tb c m k) : MFn P w K mg base Tb c.M "norm" (k + 1) [] (SNrm c n) := by
  refine mfn_mk N.clM N.M_norm sc_Mixed_norm (bnd1 (fun _ _ _ _ _ _ _ => rfl) rfl) (fun Rs R ⟨_, _, _, _, _, _, _, _, e, _⟩ => by rw [e]; rfl) ?_
  rintro _ _ ⟨L, t', s, h, u', hn, hi, ⟨z, B, hz1, hz2, hs, hB⟩, rfl, rfl⟩ f cdv A outer s0 H E hr
  obtain ⟨m, rfl⟩ : ∃ m, n = m + 1 := ⟨n - 1, by omega⟩
  have O := I m rfl
  have hm : t'.ht ≤ m := by omega
  have z1 := Nat.le_trans (sz_re (t := t') u') hs
  have z2 := Nat.le_trans (sz_im (t := t') u') hs
  unfold nB at hB
  have i1 := sz_mul t' hz1 z1 z1
  have i2 := sz_mul t' hz1 z2 z2
  have i3 := sz_mul t' hz1 i2 hz2
  refine rs_cons (np_set 1 (h_mul O hr hm (.of hz1 i2 hz2 (by omega)) (h_mul O hr hm (.of hz1 z2 z2 (by omega)) (h_part N hi (he_var 0 rfl)) (h_part N hi (he_var 0 rfl))) (h_square N (h_root N hi (he_var 0 rfl)))) sc_Mixed_norm.nd) ?_
  exact rs_one (rp_ret (h_sub O hr hm (.of i1 i3 hB) (h_mul O hr hm (.of hz1 z1 z1 (by omega)) (h_plain N hi (he_var 0 rfl)) (h_plain N hi (he_var 0 rfl))) (he_var 1 rfl)))
theorem m_invM (N : NT K mg c) (I : ∀ m, n = m + 1 → NOk P w K mg base Tb c m k) (hk : 3 ≤ k) : MFn P w K mg base Tb c.M "one_by" (k + 2) [] (SInv c n pM) := by
  refine mfn_mk (k := k + 1) N.clM N.M_one_by sc_Mixed_one_by (bnd1 (fun _ _ _ _ _ _ _ => rfl) rfl) (fun Rs R ⟨_, _, _, _, _, _, e, _⟩ => by rw [e]; rfl) ?_
  rintro _ _ ⟨L, t, u, hn, hu, ⟨h0, z, hz, hb⟩, rfl, rfl⟩ f cdv A outer s0 H E hr'
  obtain ⟨L', t', s, h, u', v', F, hi⟩ := nfM2 (c := c) (t := t) (v := u) hu (Nat.le_refl _)
  rw [F.ru, F.rinv]
  have hh := F.ht
  have hh' : t'.ht + 1 ≤ n := Nat.le_trans hh hn
  have hN := m_norm (P := P) (w := w) (base := base) (Tb := Tb) N I
  obtain ⟨m, rfl⟩ : ∃ m, n = m + 1 := ⟨n - 1, by omega⟩
  have O := I m rfl
  have hm : t'.ht ≤ m := by omega
  have hr := hr'.mono (show k ≤ k + 1 by omega)
  obtain ⟨hz1, hz2⟩ := F.sm z hz
  have zu := F.su
  have z1 := Nat.le_trans (sz_re (t := t') u') zu
  have z2 := Nat.le_trans (sz_im (t := t') u') zu
  have hB' : mB t'.ht z (t.sz u) (iB t'.ht z (nB t'.ht z (t.sz u))) ≤ Bg := Nat.le_trans (iB_h (z := z) (n := t.sz u) hh) hb
  have hg := mB_ge (h := t'.ht) (z := z) (n := t.sz u) (m := iB t'.ht z (nB t'.ht z (t.sz u)))
  have hg2 := iB_ge (h := t'.ht) (z := z) (n := nB t'.ht z (t.sz u))
  have hnn := sz_nrm t' hz1 hz2 z1 z2
  have hq0 : Quad.nrm (OF.q u') ≠ 0 := fun e => hi (by rw [Quad.nrm_zero_iff e]; rfl)
  have hni := iB_mono (h := t'.ht) (z := z) hnn
  have hinv := sz_inv t' hz1 hnn
  have e1 : NumR c (.ext t' s h) u' = ObjR c.M [("plain", NumR c t' (OF.q u').re), ("part", NumR c t' (OF.q u').im), ("root", RootR c t' s)] := mix_eq hi
  refine rs_cons (np_set 1 (h_inv O hr hm ⟨hq0, z, hz1, by omega⟩ (he_meth0 (he_eq (he_var 0 rfl) e1) rfl hN hr' ⟨L', t', s, h, u', hh', hi, ⟨z, t.sz u, hz1, hz2, zu, by omega⟩, by rw [← e1], rfl⟩)) sc_Mixed_one_by.nd) ?_
  refine rs_one (rp_ret ?_)
  refine h_mkMix N (hr.mono (by omega)) (h := h) ?_ (h_mul O hr hm (.of hz1 z1 hinv hB') (h_plain N hi (he_var 0 rfl)) (he_var 1 rfl)) (h_mul O hr hm (.of hz1 (show t'.sz (-(OF.q u').im) ≤ t.sz u by rw [sz_neg]; exact z2) hinv hB') (h_neg O hr hm (h_part N hi (he_var 0 rfl))) (he_var 1 rfl)) (h_root N hi (he_var 0 rfl))
  intro z
  have h2 : Quad.nrm (OF.q u') * (Quad.nrm (OF.q u'))⁻¹ = 1 := Lean.Grind.Field.mul_inv_cancel hq0
  apply hi
  grind
/-! the step, the whole -/
theorem n_step (G : Gd P base) (N : NT K mg c) (hk : 37 ≤ k) (I : ∀ m, n = m + 1 → NOk P w K mg base Tb c m k) : NOk P w K mg base Tb c n (k + 3) where
  tolF := (m_tolF N).mono (by omega)
  tolM := (m_tolM N I).mono (by omega)
  negF := (m_negF G N).mono (by omega)
  negM := (m_negM N I (by omega)).mono (by omega)
  addF := (m_addF G N I (by omega)).mono (by omega)
  addM := (m_addM N I (by omega)).mono (by omega)
  mulF := (m_mulF G N I (by omega)).mono (by omega)
  mulM := (m_mulM N I (by omega)).mono (by omega)
  subF := m_sub (k := k + 2) N.clF N.F_minus (m_addF G N I (by omega)) (m_addM N I (by omega)) ((m_negF G N).mono (by omega)) ((m_negM N I (by omega)).mono (by omega))
  subM := m_sub (k := k + 2) N.clM N.M_minus (m_addF G N I (by omega)) (m_addM N I (by omega)) ((m_negF G N).mono (by omega)) ((m_negM N I (by omega)).mono (by omega))
  invF := (m_invF G N).mono (by omega)
  invM := (m_invM N I (by omega)).mono (by omega)
theorem n_all (G : Gd P base) (N : NT K mg c) : ∀ n, NOk P w K mg base Tb c n (40 + 3 * n)
  | 0 => n_step (k := 37) G N (by omega) (fun m h => by omega)
  | n + 1 => n_step (k := 40 + 3 * n) G N (by omega) (fun m h => by
      obtain rfl : n = m := by omega
      exact n_all G N n)
theorem m_div {C : Addr} (hc : Cls K C) (M : TMt K C "over" "Number.over" s_Number_over []) {p : Nat → Prop} (O : NOk P w K mg base Tb c n k) : MFn P w K mg base Tb C "over" (k + 1) [] (SDiv c n p) := by
  refine mfn_mk hc M sc_Number_over (bnd2 (fun _ _ _ _ _ _ _ _ => rfl) rfl) (fun Rs R ⟨_, _, _, _, _, _, _, e, _⟩ => by rw [e]; rfl) ?_
  rintro _ _ ⟨L, t, u, v, hn, hu, ⟨h0, z, hz, hb⟩, rfl, rfl⟩ f cdv A outer s0 H E hr
  have g := mB_ge (h := t.ht) (z := z) (n := t.sz u) (m := iB t.ht z (t.sz v))
  exact rs_one (rp_ret (h_mul O hr hn (.of hz (Nat.le_refl _) (sz_inv t hz (Nat.le_refl _)) hb) (he_var 0 rfl) (h_inv O hr hn ⟨h0, z, hz, by omega⟩ (he_var 1 rfl))))
end
section
variable {X : Cx} {Tb : List NTab} {G : Ctx} {e a b : Expr} {pos apos : Pos} {c : Cl} {L : OF} {t : Tow L} {u v : L.C} {k n : Nat}
variable {pl : Sem Bool}
theorem h_div (N : NT X.K X.mg c) (O : NOk X.prog X.w X.K X.mg X.base Tb c n k) (hr : Room (k + 1) X.A) (hn : t.ht ≤ n) (hc : CDiv t u v) (ho : HasE X Tb G e (NumR c t u)) (hb : HasE X Tb G b (NumR c t v))
    (hst : starEach [b] X.env = (false, eval b X.env) :: starEach [] X.env := by rfl)
    (ht : eval (.Call (.Attribute e "over" apos) [b] [] pos) X.env = (do
      let ov ← eval e X.env
      standAt apos.atName
      let (f, first) ← holding [ov] (getMethod ov "over" pl)
      callWith pos f first (backTo pos (starEach [b] X.env)) (backToKw pos (keywordEach [] X.env))) := by rfl) : HasE X Tb G (.Call (.Attribute e "over" apos) [b] [] pos) (NumR c t (u * v⁻¹)) :=
  he_methD ho (disp (T := .base) (m_div (p := pF) N.clF N.F_over O) (m_div (p := pM) N.clM N.M_over O) (fun h => ⟨L, t, u, v, hn, h, hc, rfl, rfl⟩) (fun h => ⟨L, t, u, v, hn, h, hc, rfl, rfl⟩) (fun _ _ => rfl) (fun _ _ _ => rfl)) hr (ha_cons hb ha_nil hst) hst rfl ht
end
end Rl

set_option Elab.async false
set_option linter.all false
set_option maxRecDepth 100000
set_option maxHeartbeats 4000000
/-! Points, movings. -/
namespace Rl
open PySem PySem.Spec PyProof.Rows L2 NdefX LamX Tow
/-! ### movings in a field -/
structure Mv (F : Type) where
  ax : F
  ay : F
  cx : F
  cy : F
  p : F
  q : F
section
variable {F : Type} [OFld F]
/-- false: carrying, true: mirroring -/
def mvX (k : Bool) (m : Mv F) (x y : F) : F := if k then m.cx + (m.p * (x - m.ax) + m.q * (y - m.ay)) else m.cx + (m.p * (x - m.ax) - m.q * (y - m.ay))
def mvY (k : Bool) (m : Mv F) (x y : F) : F := if k then m.cy + (m.q * (x - m.ax) - m.p * (y - m.ay)) else m.cy + (m.q * (x - m.ax) + m.p * (y - m.ay))
def mkMv (k : Bool) (ax ay bx by' cx cy dx dy : F) : Mv F :=
  ⟨ax, ay, cx, cy, (if k then (bx - ax) * (dx - cx) - (by' - ay) * (dy - cy) else (bx - ax) * (dx - cx) + (by' - ay) * (dy - cy)) * ((bx - ax) * (bx - ax) + (by' - ay) * (by' - ay))⁻¹,
    (if k then (bx - ax) * (dy - cy) + (by' - ay) * (dx - cx) else (bx - ax) * (dy - cy) - (by' - ay) * (dx - cx)) * ((bx - ax) * (bx - ax) + (by' - ay) * (by' - ay))⁻¹⟩
theorem whole_ne {ax ay bx by' : F} (h : ¬ (ax = bx ∧ ay = by')) : (bx - ax) * (bx - ax) + (by' - ay) * (by' - ay) ≠ 0 := fun e => by
  obtain ⟨h1, h2⟩ := ssq e
  exact h ⟨by grind, by grind⟩
/-- there and back again -/
theorem mv_back (k : Bool) {ax ay bx by' cx cy dx dy : F} (h : ¬ (ax = bx ∧ ay = by')) (g : ¬ (cx = dx ∧ cy = dy)) (x y : F) :
    mvX k (mkMv k cx cy dx dy ax ay bx by') (mvX k (mkMv k ax ay bx by' cx cy dx dy) x y) (mvY k (mkMv k ax ay bx by' cx cy dx dy) x y) = x ∧
    mvY k (mkMv k cx cy dx dy ax ay bx by') (mvX k (mkMv k ax ay bx by' cx cy dx dy) x y) (mvY k (mkMv k ax ay bx by' cx cy dx dy) x y) = y := by
  have h1 := whole_ne h
  have h2 := whole_ne g
  have e1 : ((bx - ax) * (bx - ax) + (by' - ay) * (by' - ay)) * ((bx - ax) * (bx - ax) + (by' - ay) * (by' - ay))⁻¹ = 1 := Lean.Grind.Field.mul_inv_cancel h1
  have e2 : ((dx - cx) * (dx - cx) + (dy - cy) * (dy - cy)) * ((dx - cx) * (dx - cx) + (dy - cy) * (dy - cy))⁻¹ = 1 := Lean.Grind.Field.mul_inv_cancel h2
  generalize ((bx - ax) * (bx - ax) + (by' - ay) * (by' - ay))⁻¹ = i at *
  generalize ((dx - cx) * (dx - cx) + (dy - cy) * (dy - cy))⁻¹ = j at *
  generalize hu : bx - ax = u at *
  generalize hv : by' - ay = v at *
  generalize hr : dx - cx = r at *
  generalize hs : dy - cy = s at *
  cases k with
  | false =>
    simp only [mvX, mvY, mkMv, hu, hv, hr, hs]
    constructor <;> simp <;> grind
  | true =>
    simp only [mvX, mvY, mkMv, hu, hv, hr, hs]
    constructor <;> simp <;> grind
end
/-! ### points -/
structure NV (K : PySem.W.Frag) (mg : Str → Option Value) (p : Addr) (ca mi be : Addr) : Prop where
  clP : Cls K p
  nP_x : NoAttr K p "x"
  nP_y : NoAttr K p "y"
  inP : TIn K mg "Point" p "Point.__init__" s_Point_init []
  same : TMt K p "same" "Point.same" s_Point_same []
  ins : InsC K p
  kit : PySem.W.kitOne K (.ref p) (.ref p) = some true
  isi : mg "isinstance" = none
  alike : TFn K mg "alike" s_alike []
  ways : TFn K mg "ways_between" s_ways_between []
  carrying : TFC K mg "carrying" s_carrying ca
  mirroring : TFC K mg "mirroring" s_mirroring mi
  behind : TFC K mg "behind" s_behind be
/-- the tables of the three defs that hand a function back -/
def tabs3 (ca mi be : Addr) : List NTab := [(ca, fun _ _ => "carrying.<locals>.carried"), (mi, fun _ _ => "mirroring.<locals>.mirrored"), (be, fun _ _ => "behind.<locals>.moved")]
structure NB (base : Heap) (mg : Str → Option Value) (ca mi be tca tmi tbe : Addr) : Prop where
  ca : TabB base mg ca tca
  mi : TabB base mg mi tmi
  be : TabB base mg be tbe
  d1 : tca ≠ tmi
  d2 : tca ≠ tbe
  d3 : tmi ≠ tbe
def PtR (c : Cl) (p : Addr) {L : OF} (t : Tow L) (x y : L.C) : Rp := ObjR p [("x", NumR c t x), ("y", NumR c t y)]
theorem numR_clean (c : Cl) : ∀ {L : OF} (t : Tow L) (u : L.C), (NumR c t u).Clean
  | _, .base, u => by
    rw [numR_base]
    exact clean_obj fun q hq => by
      simp at hq
      rcases hq with rfl | rfl <;> exact clean_is _
  | _, .ext t s h, u => by
    rw [numR_ext]
    split
    · exact numR_clean c t _
    · refine clean_obj fun q hq => ?_
      simp at hq
      rcases hq with rfl | rfl | rfl
      · exact numR_clean c t _
      · exact numR_clean c t _
      · refine clean_obj fun q hq => ?_
        simp at hq
        rcases hq with rfl | rfl
        · exact clean_is _
        · exact numR_clean c t _
theorem ptR_clean (c : Cl) (p : Addr) {L : OF} (t : Tow L) (x y : L.C) : (PtR c p t x y).Clean := clean_obj fun q hq => by
  simp at hq
  rcases hq with rfl | rfl <;> exact numR_clean c t _
section
variable {P : Program} {w : World} {K : PySem.W.Frag} {mg : Str → Option Value} {base : Heap} {Tb : List NTab} {c : Cl} {n k : Nat} {p ca mi be : Addr}
def SAlk (c : Cl) (n : Nat) : List Rp → Rp → Prop := fun Rs R => ∃ (L : OF) (t : Tow L) (u v : L.C), t.ht ≤ n ∧ Rs = [NumR c t u, NumR c t v] ∧ R = BoolR (decide (u = v))
theorem g_alike (V : NV K mg p ca mi be) (O : NOk P w K mg base Tb c n k) (hn : n ≤ 60) : GFn P w K mg base Tb "alike" (k + 1) [] (SAlk c n) := by
  refine gfn_mk V.alike sc_alike (bnd2 (fun _ _ _ _ _ _ _ _ => rfl) rfl) (fun Rs R ⟨_, _, _, _, _, e, _⟩ => by rw [e]; rfl) ?_
  rintro _ _ ⟨L, t, u, v, ht, rfl, rfl⟩ f cdv A outer s0 H E hr
  refine rs_one (rp_ret (he_eq (he_eqD (h_tol O hr ht (he_var 0 rfl)) (h_tol O hr ht (he_var 1 rfl)) hr (told_shaped t u (by omega)) (told_shaped t v (by omega))) ?_))
  rw [told_eqv]
/-! the record -/
theorem f_point_init (V : NV K mg p ca mi be) {f : Addr} {fd : FuncData} (F : FnD K "__init__" "Point.__init__" s_Point_init [] f fd) : FnOk P w K mg base CX0 1 f fd ["self", "x", "y"] (spRec p ["x", "y"]) := by
  refine F.ok (k := 0) sc_Point_init (fun vs H Q E ⟨p, dx, us, e, hl, _⟩ => by rw [e, List.length_cons, hl]; rfl) fun cdv A outer s H vs Q E hr h0 => ?_
  obtain ⟨z, dx, us, rfl, hl, hp, q⟩ := h0
  match us, hl, q with
  | [v1, v2], _, q =>
  refine ⟨_, pss_cons (ps_fld (pe_var (i := 0) rfl (.inl rfl)) (pe_var (i := 1) rfl (.inl rfl)) rfl) (pss_one (ps_fld (pe_var (i := 0) rfl (.inl rfl)) (pe_var (i := 2) rfl (.inl rfl)) rfl)), ?_⟩
  refine ⟨v1, rfl, .ref z, rfl, z, p, dx, [], rfl, hp, V.clP, V.nP_x, by simp, ?_⟩
  refine ⟨v2, rfl, .ref z, rfl, z, p, dx, _, rfl, upd_same, V.clP, V.nP_y, len1, ?_⟩
  rw [upd_upd]
  exact q
def SPt (p : Addr) : List Rp → Rp → Prop := fun Rs R => Rs.length = 2 ∧ R = ObjR p ((["x", "y"] : List Str).zip Rs)
theorem c_point (V : NV K mg p ca mi be) : CFn P w K mg base Tb "Point" 1 (SPt p) := by
  obtain ⟨hm, f, fd, M, F⟩ := V.inP.ex
  exact cfn_rec hm M (f_point_init V F) (F.bindsN fun _ _ _ _ _ _ us hl => match us, hl with | [_, _, _], _ => rfl)
section
variable {X : Cx} {Tb : List NTab} {G : Ctx} {e a b : Expr} {pos apos pp : Pos} {L : OF} {t : Tow L} {u v x y x' y' : L.C}
theorem h_x (V : NV X.K mg p ca mi be) (a : HasE X Tb G e (PtR c p t u v)) (hb : attributeBase e "x" X.env (eval e X.env) = eval e X.env := by rfl) : HasE X Tb G (.Attribute e "x" pos) (NumR c t u) := he_fld a V.clP V.nP_x rfl hb
theorem h_y (V : NV X.K mg p ca mi be) (a : HasE X Tb G e (PtR c p t u v)) (hb : attributeBase e "y" X.env (eval e X.env) = eval e X.env := by rfl) : HasE X Tb G (.Attribute e "y" pos) (NumR c t v) := he_fld a V.clP V.nP_y rfl hb
theorem h_point (V : NV X.K X.mg p ca mi be) (hr : Room 2 X.A) (ha : HasE X Tb G a (NumR c t u)) (hb : HasE X Tb G b (NumR c t v)) (h1 : starEach [a, b] X.env = (false, eval a X.env) :: starEach [b] X.env := by rfl) (h2 : starEach [b] X.env = (false, eval b X.env) :: starEach [] X.env := by rfl) (hg : Gl X "Point" := by rfl)
    (hpl : (backTo pos (starEach [b] X.env)).any (·.1) = false := by rfl) : HasE X Tb G (.Call (.Name "Point" pp) [a, b] [] pos) (PtR c p t u v) :=
  he_make (c_point V) hr (ha_cons ha (ha_cons hb ha_nil h2) h1) ⟨rfl, rfl⟩ hg (by decide) h1 hpl
end
def SSam (c : Cl) (p : Addr) (n : Nat) : List Rp → Rp → Prop := fun Rs R => ∃ (L : OF) (t : Tow L) (x y x' y' : L.C), t.ht ≤ n ∧ Rs = [PtR c p t x y, PtR c p t x' y'] ∧ R = BoolR (decide (x = x' ∧ y = y'))
theorem m_same (V : NV K mg p ca mi be) (O : NOk P w K mg base Tb c n k) (hn : n ≤ 60) : MFn P w K mg base Tb p "same" (k + 2) [] (SSam c p n) := by
  refine mfn_mk (k := k + 1) V.clP V.same sc_Point_same (bnd2 (fun _ _ _ _ _ _ _ _ => rfl) rfl) (fun Rs R ⟨_, _, _, _, _, _, _, e, _⟩ => by rw [e]; rfl) ?_
  rintro _ _ ⟨L, t, x, y, x', y', ht, rfl, rfl⟩ f cdv A outer s0 H E hr
  have hA := g_alike V O hn
  refine rs_one (rp_ret (he_eq (he_and (he_isi (he_var 1 rfl) V.ins V.inP.ex.1 V.kit V.isi) fun _ => he_and (he_call hA hr (ha_cons (h_x V (he_var 0 rfl)) (ha_cons (h_x V (he_var 1 rfl)) ha_nil)) ⟨L, t, x, x', ht, rfl, rfl⟩) fun _ => he_one (he_call hA hr (ha_cons (h_y V (he_var 0 rfl)) (ha_cons (h_y V (he_var 1 rfl)) ha_nil)) ⟨L, t, y, y', ht, rfl, rfl⟩)) ?_))
  rw [Bool.true_and, ← Bool.decide_and]
end
section
variable {X : Cx} {Tb : List NTab} {G : Ctx} {e b : Expr} {pos apos : Pos} {c : Cl} {p ca mi be : Addr} {L : OF} {t : Tow L} {x y x' y' : L.C} {k n : Nat} {pl : Sem Bool}
theorem h_same (V : NV X.K X.mg p ca mi be) (O : NOk X.prog X.w X.K X.mg X.base Tb c n k) (hn : n ≤ 60) (hr : Room (k + 2) X.A) (ht : t.ht ≤ n) (ho : HasE X Tb G e (PtR c p t x y)) (hb : HasE X Tb G b (PtR c p t x' y'))
    (hst : starEach [b] X.env = (false, eval b X.env) :: starEach [] X.env := by rfl)
    (ht' : eval (.Call (.Attribute e "same" apos) [b] [] pos) X.env = (do
      let ov ← eval e X.env
      standAt apos.atName
      let (f, first) ← holding [ov] (getMethod ov "same" pl)
      callWith pos f first (backTo pos (starEach [b] X.env)) (backToKw pos (keywordEach [] X.env))) := by rfl) : HasE X Tb G (.Call (.Attribute e "same" apos) [b] [] pos) (BoolR (decide (x = x' ∧ y = y'))) :=
  he_meth ho rfl (m_same V O hn) hr (ha_cons hb ha_nil hst) ⟨L, t, x, y, x', y', ht, rfl, rfl⟩ hst rfl ht'
end
/-! ### the ways between points -/
section
variable {P : Program} {w : World} {K : PySem.W.Frag} {mg : Str → Option Value} {base : Heap} {Tb : List NTab} {c : Cl} {n k : Nat} {p ca mi be : Addr}
/-- the bits: of coordinates A, of the ways' products -/
def wM (h z A : Nat) : Nat := mB h z (2 * A + 1) (2 * A + 1)
def wE (h z A : Nat) : Nat := mB h z (2 * wM h z A + 1) (iB h z (2 * wM h z A + 1))
/-- of a point's image -/
def wO (h z A E B : Nat) : Nat := A + (2 * mB h z E (B + A + 1) + 1) + 1
structure Sz4 {L : OF} (t : Tow L) (z A : Nat) (ax ay bx by' : L.C) : Prop where
  ax : t.sz ax ≤ A
  ay : t.sz ay ≤ A
  bx : t.sz bx ≤ A
  by' : t.sz by' ≤ A
def SWay (c : Cl) (p : Addr) (n : Nat) (M : PySem.W.Frag) : List Rp → Rp → Prop := fun Rs R => ∃ (L : OF) (t : Tow L) (ax ay bx by' cx cy dx dy : L.C) (z A : Nat), t.ht ≤ n ∧ t.Sm z ∧ Sz4 t z A ax ay bx by' ∧ Sz4 t z A cx cy dx dy ∧ 2 * wM t.ht z A + 1 ≤ Bg ∧ ¬ (ax = bx ∧ ay = by') ∧ ¬ (cx = dx ∧ cy = dy) ∧
  Rs = [PtR c p t ax ay, PtR c p t bx by', PtR c p t cx cy, PtR c p t dx dy] ∧ R = TupR M [NumR c t (bx - ax), NumR c t (by' - ay), NumR c t (dx - cx), NumR c t (dy - cy), NumR c t ((bx - ax) * (bx - ax) + (by' - ay) * (by' - ay))]
theorem g_ways (V : NV K mg p ca mi be) (O : NOk P w K mg base Tb c n k) (hn : n ≤ 60) : GFn P w K mg base Tb "ways_between" (k + 3) [] (SWay c p n K) := by
  refine gfn_mk (k := k + 2) V.ways sc_ways_between (fun _ _ _ _ _ _ us hl => match us, hl with | [_, _, _, _], _ => rfl) (fun Rs R ⟨_, _, _, _, _, _, _, _, _, _, _, _, _, _, _, _, _, _, _, e, _⟩ => by rw [e]; rfl) ?_
  rintro _ _ ⟨L, t, ax, ay, bx, by', cx, cy, dx, dy, z, A, ht, hz, s1, s2, hB, n1, n2, rfl, rfl⟩ f cdv Ar outer s0 H E hr
  have hr0 := hr.mono (show k ≤ k + 2 by omega)
  unfold wM at hB
  have hg := mB_ge (h := t.ht) (z := z) (n := 2 * A + 1) (m := 2 * A + 1)
  have q1 := sz_sub t s1.bx s1.ax
  have q2 := sz_sub t s1.by' s1.ay
  have e2 : A + A + 1 = 2 * A + 1 := by omega
  rw [e2] at q1 q2
  have hA : A + A + 1 ≤ Bg := by omega
  have hnd := sc_ways_between.nd
  refine rs_cons (np_skip (HasW.t (hw_or (ht_val (h_same V O hn hr ht (he_var 0 rfl) (he_var 1 rfl))) fun _ => hw_or1 (ht_val (h_same V O hn hr ht (he_var 2 rfl) (he_var 3 rfl)))) |>.eq (by rw [decide_eq_false n1, decide_eq_false n2]; rfl))) ?_
  refine rs_cons (np_set 4 (h_sub O hr0 ht (.of s1.bx s1.ax hA) (h_x V (he_var 1 rfl)) (h_x V (he_var 0 rfl))) hnd) ?_
  refine rs_cons (np_set 5 (h_sub O hr0 ht (.of s1.by' s1.ay hA) (h_y V (he_var 1 rfl)) (h_y V (he_var 0 rfl))) hnd) ?_
  refine rs_one (rp_ret (he_tup (ha_cons (he_var 4 rfl) (ha_cons (he_var 5 rfl) (ha_cons (h_sub O hr0 ht (.of s2.bx s2.ax hA) (h_x V (he_var 3 rfl)) (h_x V (he_var 2 rfl))) (ha_cons (h_sub O hr0 ht (.of s2.by' s2.ay hA) (h_y V (he_var 3 rfl)) (h_y V (he_var 2 rfl))) (ha_cons
    (h_add O hr0 ht (.of (sz_mul t hz q1 q1) (sz_mul t hz q2 q2) (by omega)) (h_mul O hr0 ht (.of hz q1 q1 (by omega)) (he_var 4 rfl) (he_var 4 rfl)) (h_mul O hr0 ht (.of hz q2 q2 (by omega)) (he_var 5 rfl) (he_var 5 rfl))) ha_nil)))))))
end
end Rl

set_option Elab.async false
set_option linter.all false
set_option maxRecDepth 100000
set_option maxHeartbeats 4000000
/-! The movings that the defs hand back. -/
namespace Rl
open PySem PySem.Spec PyProof.Rows L2 NdefX LamX Tow
abbrev s_carried : Stmt := (defBody s_carrying).getD 3 (.Pass ⟨0, 0, 0, 0⟩)
abbrev s_mirrored : Stmt := (defBody s_mirroring).getD 3 (.Pass ⟨0, 0, 0, 0⟩)
abbrev s_moved : Stmt := (defBody s_behind).getD 0 (.Pass ⟨0, 0, 0, 0⟩)
abbrev n_inner : List Str := ["point", "a", "c", "p", "q", "x", "y"]
abbrev f_inner : List Str := ["a", "c", "p", "q"]
abbrev n_moved : List Str := ["point", "first", "second"]
abbrev f_moved : List Str := ["first", "second"]
theorem sc_carried : NScope n_inner ["point"] f_inner (C8.fnScope s_carried) := nscope_by (by decide +kernel)
theorem sc_mirrored : NScope n_inner ["point"] f_inner (C8.fnScope s_mirrored) := nscope_by (by decide +kernel)
theorem sc_moved : NScope n_moved ["point"] f_moved (C8.fnScope s_moved) := nscope_by (by decide +kernel)
section
variable {P : Program} {w : World} {K : PySem.W.Frag} {mg : Str → Option Value} {base : Heap} {Tb : List NTab} {c : Cl} {n k : Nat} {p ca mi be tca tmi tbe : Addr}
structure MvSz {L : OF} (t : Tow L) (A E : Nat) (m : Mv L.C) : Prop where
  ax : t.sz m.ax ≤ A
  ay : t.sz m.ay ≤ A
  cx : t.sz m.cx ≤ A
  cy : t.sz m.cy ≤ A
  p : t.sz m.p ≤ E
  q : t.sz m.q ≤ E
def mvWs (c : Cl) (p : Addr) {L : OF} (t : Tow L) (m : Mv L.C) : List Rp := [PtR c p t m.ax m.ay, PtR c p t m.cx m.cy, NumR c t m.p, NumR c t m.q]
def SIn (c : Cl) (p : Addr) (n : Nat) (k : Bool) : List Rp → List Rp → Rp → Prop := fun Rs Ws R => ∃ (L : OF) (t : Tow L) (m : Mv L.C) (x y : L.C) (z A E B : Nat), t.ht ≤ n ∧ t.Sm z ∧ MvSz t A E m ∧ t.sz x ≤ B ∧ t.sz y ≤ B ∧ A + (2 * mB t.ht z E (B + A + 1) + 1) + 1 ≤ Bg ∧
  Rs = [PtR c p t x y] ∧ Ws = mvWs c p t m ∧ R = PtR c p t (mvX k m x y) (mvY k m x y)
theorem clo_carried (V : NV K mg p ca mi be) (O : NOk P w K mg base Tb c n k) (hk : 2 ≤ k) : CloOk P w K mg base Tb s_carried "carried" "carrying.<locals>.carried" ["point"] f_inner (k + 1) (SIn c p n false) := by
  refine clo_mk (N := n_inner) sc_carried (fun _ _ _ _ _ _ us hl => match us, hl with | [_], _ => rfl) (fun Rs Ws R ⟨_, _, _, _, _, _, _, _, _, _, _, _, _, _, _, e, _⟩ => by rw [e]; rfl) ?_
  rintro _ _ _ ⟨L, t, m, x, y, z, A, E, B, ht, hz, ms, sx, sy, hB, rfl, rfl, rfl⟩ f cl c' Ar outer s0 H Ex hr
  have hnd := sc_carried.nd
  have g := mB_ge (h := t.ht) (z := z) (n := E) (m := B + A + 1)
  have qx := sz_sub t sx ms.ax
  have qy := sz_sub t sy ms.ay
  have i1 := sz_mul t hz ms.p qx
  have i2 := sz_mul t hz ms.q qy
  have i3 := sz_mul t hz ms.q qx
  have i4 := sz_mul t hz ms.p qy
  have o1 := sz_sub t i1 i2
  have o2 := sz_add t i3 i4
  have hBA : B + A + 1 ≤ Bg := by omega
  have h2 : mB t.ht z E (B + A + 1) + mB t.ht z E (B + A + 1) + 1 ≤ Bg := by omega
  have h3 : A + (mB t.ht z E (B + A + 1) + mB t.ht z E (B + A + 1) + 1) + 1 ≤ Bg := by omega
  refine rs_cons (np_set 5 (h_sub O hr ht (.of sx ms.ax hBA) (h_x V (he_var 0 rfl)) (h_x V (he_var 1 rfl))) hnd) ?_
  refine rs_cons (np_set 6 (h_sub O hr ht (.of sy ms.ay hBA) (h_y V (he_var 0 rfl)) (h_y V (he_var 1 rfl))) hnd) ?_
  exact rs_one (rp_ret (h_point V (hr.mono hk)
    (h_add O hr ht (.of ms.cx o1 h3) (h_x V (he_var 2 rfl)) (h_sub O hr ht (.of i1 i2 h2) (h_mul O hr ht (.of hz ms.p qx (by omega)) (he_var 3 rfl) (he_var 5 rfl)) (h_mul O hr ht (.of hz ms.q qy (by omega)) (he_var 4 rfl) (he_var 6 rfl))))
    (h_add O hr ht (.of ms.cy o2 h3) (h_y V (he_var 2 rfl)) (h_add O hr ht (.of i3 i4 h2) (h_mul O hr ht (.of hz ms.q qx (by omega)) (he_var 4 rfl) (he_var 5 rfl)) (h_mul O hr ht (.of hz ms.p qy (by omega)) (he_var 3 rfl) (he_var 6 rfl))))))
theorem clo_mirrored (V : NV K mg p ca mi be) (O : NOk P w K mg base Tb c n k) (hk : 2 ≤ k) : CloOk P w K mg base Tb s_mirrored "mirrored" "mirroring.<locals>.mirrored" ["point"] f_inner (k + 1) (SIn c p n true) := by
  refine clo_mk (N := n_inner) sc_mirrored (fun _ _ _ _ _ _ us hl => match us, hl with | [_], _ => rfl) (fun Rs Ws R ⟨_, _, _, _, _, _, _, _, _, _, _, _, _, _, _, e, _⟩ => by rw [e]; rfl) ?_
  rintro _ _ _ ⟨L, t, m, x, y, z, A, E, B, ht, hz, ms, sx, sy, hB, rfl, rfl, rfl⟩ f cl c' Ar outer s0 H Ex hr
  have hnd := sc_mirrored.nd
  have g := mB_ge (h := t.ht) (z := z) (n := E) (m := B + A + 1)
  have qx := sz_sub t sx ms.ax
  have qy := sz_sub t sy ms.ay
  have i1 := sz_mul t hz ms.p qx
  have i2 := sz_mul t hz ms.q qy
  have i3 := sz_mul t hz ms.q qx
  have i4 := sz_mul t hz ms.p qy
  have o1 := sz_add t i1 i2
  have o2 := sz_sub t i3 i4
  have hBA : B + A + 1 ≤ Bg := by omega
  have h2 : mB t.ht z E (B + A + 1) + mB t.ht z E (B + A + 1) + 1 ≤ Bg := by omega
  have h3 : A + (mB t.ht z E (B + A + 1) + mB t.ht z E (B + A + 1) + 1) + 1 ≤ Bg := by omega
  refine rs_cons (np_set 5 (h_sub O hr ht (.of sx ms.ax hBA) (h_x V (he_var 0 rfl)) (h_x V (he_var 1 rfl))) hnd) ?_
  refine rs_cons (np_set 6 (h_sub O hr ht (.of sy ms.ay hBA) (h_y V (he_var 0 rfl)) (h_y V (he_var 1 rfl))) hnd) ?_
  exact rs_one (rp_ret (h_point V (hr.mono hk)
    (h_add O hr ht (.of ms.cx o1 h3) (h_x V (he_var 2 rfl)) (h_add O hr ht (.of i1 i2 h2) (h_mul O hr ht (.of hz ms.p qx (by omega)) (he_var 3 rfl) (he_var 5 rfl)) (h_mul O hr ht (.of hz ms.q qy (by omega)) (he_var 4 rfl) (he_var 6 rfl))))
    (h_add O hr ht (.of ms.cy o2 h3) (h_y V (he_var 2 rfl)) (h_sub O hr ht (.of i3 i4 h2) (h_mul O hr ht (.of hz ms.q qx (by omega)) (he_var 4 rfl) (he_var 5 rfl)) (h_mul O hr ht (.of hz ms.p qy (by omega)) (he_var 3 rfl) (he_var 6 rfl))))))
/-- a moving of either kind -/
def MovR (c : Cl) (p : Addr) (k : Bool) {L : OF} (t : Tow L) (m : Mv L.C) : Rp := if k then CloR s_mirrored "mirrored" "mirroring.<locals>.mirrored" f_inner (mvWs c p t m) else CloR s_carried "carried" "carrying.<locals>.carried" f_inner (mvWs c p t m)
end
section
variable {X : Cx} {Tb : List NTab} {G : Ctx} {g e : Expr} {pos : Pos} {c : Cl} {p ca mi be : Addr} {L : OF} {t : Tow L} {m : Mv L.C} {x y : L.C} {k n z A E B : Nat} {kk : Bool}
theorem h_mov (V : NV X.K X.mg p ca mi be) (O : NOk X.prog X.w X.K X.mg X.base Tb c n k) (hk : 2 ≤ k) (hr : Room (k + 1) X.A) (hn : t.ht ≤ n) (hz : t.Sm z) (ms : MvSz t A E m) (sx : t.sz x ≤ B) (sy : t.sz y ≤ B) (hB : A + (2 * mB t.ht z E (B + A + 1) + 1) + 1 ≤ Bg)
    (hg : HasE X Tb G g (MovR c p kk t m)) (ha : HasE X Tb G e (PtR c p t x y))
    (ht : eval (.Call g [e] [] pos) X.env = (do let cal ← eval g X.env; callWith pos cal [] (backTo pos (starEach [e] X.env)) (backToKw pos (keywordEach [] X.env))) := by rfl)
    (hst : starEach [e] X.env = (false, eval e X.env) :: starEach [] X.env := by rfl) : HasE X Tb G (.Call g [e] [] pos) (PtR c p t (mvX kk m x y) (mvY kk m x y)) := by
  have hcl : ∀ R ∈ [PtR c p t x y], R.Clean := fun R hR => by
    rw [List.mem_singleton] at hR
    subst hR
    exact ptR_clean _ _ _ _ _
  cases kk with
  | false => exact he_clo (clo_carried V O hk) hr hg (ha_cons ha ha_nil hst) hcl ⟨L, t, m, x, y, z, A, E, B, hn, hz, ms, sx, sy, hB, rfl, rfl, rfl⟩ ht hst rfl
  | true => exact he_clo (clo_mirrored V O hk) hr hg (ha_cons ha ha_nil hst) hcl ⟨L, t, m, x, y, z, A, E, B, hn, hz, ms, sx, sy, hB, rfl, rfl, rfl⟩ ht hst rfl
theorem mv_sz (hz : t.Sm z) (ms : MvSz t A E m) (sx : t.sz x ≤ B) (sy : t.sz y ≤ B) : t.sz (mvX kk m x y) ≤ wO t.ht z A E B ∧ t.sz (mvY kk m x y) ≤ wO t.ht z A E B := by
  have qx := sz_sub t sx ms.ax
  have qy := sz_sub t sy ms.ay
  have i1 := sz_mul t hz ms.p qx
  have i2 := sz_mul t hz ms.q qy
  have i3 := sz_mul t hz ms.q qx
  have i4 := sz_mul t hz ms.p qy
  have e : A + (2 * mB t.ht z E (B + A + 1) + 1) + 1 = A + (mB t.ht z E (B + A + 1) + mB t.ht z E (B + A + 1) + 1) + 1 := by omega
  unfold wO
  rw [e]
  cases kk with
  | false => exact ⟨sz_add t ms.cx (sz_sub t i1 i2), sz_add t ms.cy (sz_add t i3 i4)⟩
  | true => exact ⟨sz_add t ms.cx (sz_add t i1 i2), sz_add t ms.cy (sz_sub t i3 i4)⟩
end
/-! ### the defs that hand them back -/
section
variable {P : Program} {w : World} {K : PySem.W.Frag} {mg : Str → Option Value} {base : Heap} {c : Cl} {n k : Nat} {p ca mi be tca tmi tbe : Addr}
theorem mk_sz {L : OF} {t : Tow L} {z A : Nat} {ax ay bx by' cx cy dx dy : L.C} (kk : Bool) (hz : t.Sm z) (s1 : Sz4 t z A ax ay bx by') (s2 : Sz4 t z A cx cy dx dy) : MvSz t A (wE t.ht z A) (mkMv kk ax ay bx by' cx cy dx dy) := by
  have q1 := sz_sub t s1.bx s1.ax
  have q2 := sz_sub t s1.by' s1.ay
  have q3 := sz_sub t s2.bx s2.ax
  have q4 := sz_sub t s2.by' s2.ay
  have e2 : A + A + 1 = 2 * A + 1 := by omega
  rw [e2] at q1 q2 q3 q4
  have e3 : ∀ m, m + m + 1 = 2 * m + 1 := fun m => by omega
  have w0 := sz_add t (sz_mul t hz q1 q1) (sz_mul t hz q2 q2)
  have p0 := sz_add t (sz_mul t hz q1 q3) (sz_mul t hz q2 q4)
  have p1 := sz_sub t (sz_mul t hz q1 q3) (sz_mul t hz q2 q4)
  have r0 := sz_sub t (sz_mul t hz q1 q4) (sz_mul t hz q2 q3)
  have r1 := sz_add t (sz_mul t hz q1 q4) (sz_mul t hz q2 q3)
  rw [e3] at w0 p0 p1 r0 r1
  have iw := sz_inv t hz w0
  cases kk with
  | false => exact ⟨s1.ax, s1.ay, s2.ax, s2.ay, sz_mul t hz p0 iw, sz_mul t hz r0 iw⟩
  | true => exact ⟨s1.ax, s1.ay, s2.ax, s2.ay, sz_mul t hz p1 iw, sz_mul t hz r1 iw⟩
def SMov (c : Cl) (p : Addr) (n : Nat) (kk : Bool) : List Rp → Rp → Prop := fun Rs R => ∃ (L : OF) (t : Tow L) (ax ay bx by' cx cy dx dy : L.C) (z A : Nat), t.ht ≤ n ∧ t.Sm z ∧ Sz4 t z A ax ay bx by' ∧ Sz4 t z A cx cy dx dy ∧ wE t.ht z A ≤ Bg ∧ ¬ (ax = bx ∧ ay = by') ∧ ¬ (cx = dx ∧ cy = dy) ∧
  Rs = [PtR c p t ax ay, PtR c p t bx by', PtR c p t cx cy, PtR c p t dx dy] ∧ R = MovR c p kk t (mkMv kk ax ay bx by' cx cy dx dy)
theorem fr_carrying : ndefB (defScope s_carrying) (C8.fnScope s_carried) f_inner = true := by decide +kernel
theorem fr_mirroring : ndefB (defScope s_mirroring) (C8.fnScope s_mirrored) f_inner = true := by decide +kernel
theorem fr_behind : ndefB (defScope s_behind) (C8.fnScope s_moved) f_moved = true := by decide +kernel
theorem g_carrying (N : NT K mg c) (V : NV K mg p ca mi be) (B : NB base mg ca mi be tca tmi tbe) (O : NOk P w K mg base (tabs3 tca tmi tbe) c n k) (hn : n ≤ 60) : GFn P w K mg base (tabs3 tca tmi tbe) "carrying" (k + 4) [] (SMov c p n false) := by
  obtain ⟨f, fd, hm, F⟩ := V.carrying.ex
  have hF := fc_typed (P := P) (w := w) (K := K) (mg := mg) (base := base) (T := tabs3 tca tmi tbe) (k := k + 3) (S := SMov c p n false) F sc_carrying (fun Rs R ⟨_, _, _, _, _, _, _, _, _, _, _, _, _, _, _, _, _, _, _, e, _⟩ => by rw [e]; rfl) (fun _ _ _ _ _ _ us hl => match us, hl with | [_, _, _, _], _ => rfl) (by
    rintro _ _ ⟨L, t, ax, ay, bx, by', cx, cy, dx, dy, z, A, ht, hz, s1, s2, hB, n1, n2, rfl, rfl⟩ Ar outer s0 H E hr
    have hnd := sc_carrying.nd
    have hr0 := hr.mono (show k ≤ k + 3 by omega)
    unfold wE at hB
    have g0 := mB_ge (h := t.ht) (z := z) (n := 2 * wM t.ht z A + 1) (m := iB t.ht z (2 * wM t.ht z A + 1))
    have q1 := sz_sub t s1.bx s1.ax
    have q2 := sz_sub t s1.by' s1.ay
    have q3 := sz_sub t s2.bx s2.ax
    have q4 := sz_sub t s2.by' s2.ay
    have e2 : A + A + 1 = 2 * A + 1 := by omega
    rw [e2] at q1 q2 q3 q4
    have i1 := sz_mul t hz q1 q3
    have i2 := sz_mul t hz q2 q4
    have i3 := sz_mul t hz q1 q4
    have i4 := sz_mul t hz q2 q3
    have e3 : ∀ m, m + m + 1 = 2 * m + 1 := fun m => by omega
    have w0 := sz_add t (sz_mul t hz q1 q1) (sz_mul t hz q2 q2)
    have p0 := sz_add t i1 i2
    have r0 := sz_sub t i3 i4
    rw [e3] at w0 p0 r0
    have hM : mB t.ht z (2 * A + 1) (2 * A + 1) + mB t.ht z (2 * A + 1) (2 * A + 1) + 1 ≤ Bg := by unfold wM at g0 hB; omega
    have hM1 : mB t.ht z (2 * A + 1) (2 * A + 1) ≤ Bg := by omega
    have wn := whole_ne n1
    have div : ∀ {v : L.C}, t.sz v ≤ 2 * wM t.ht z A + 1 → CDiv t v ((bx - ax) * (bx - ax) + (by' - ay) * (by' - ay)) := fun {v} hv => ⟨wn, z, hz, Nat.le_trans (mB_mono hv (iB_mono w0)) hB⟩
    refine er_cons (np_tup (he_call (g_ways V O hn) hr (ha_cons (he_var 0 rfl) (ha_cons (he_var 1 rfl) (ha_cons (he_var 2 rfl) (ha_cons (he_var 3 rfl) ha_nil)))) ⟨L, t, ax, ay, bx, by', cx, cy, dx, dy, z, A, ht, hz, s1, s2, by unfold wM at g0 hB ⊢; omega, n1, n2, rfl, rfl⟩)
      (hg_cons 4 (hg_cons 5 (hg_cons 6 (hg_cons 7 (hg_cons 8 hg_nil hnd) hnd) hnd) hnd) hnd) rfl (p3 := ⟨0, 0, 0, 0⟩)) ?_
    refine er_cons (np_set 9 (h_div N O (hr.mono (by omega)) ht (div p0) (h_add O hr0 ht (.of i1 i2 hM) (h_mul O hr0 ht (.of hz q1 q3 hM1) (he_var 4 rfl) (he_var 6 rfl)) (h_mul O hr0 ht (.of hz q2 q4 hM1) (he_var 5 rfl) (he_var 7 rfl))) (he_var 8 rfl)) hnd) ?_
    refine er_cons (np_set 10 (h_div N O (hr.mono (by omega)) ht (div r0) (h_sub O hr0 ht (.of i3 i4 hM) (h_mul O hr0 ht (.of hz q1 q4 hM1) (he_var 4 rfl) (he_var 7 rfl)) (h_mul O hr0 ht (.of hz q2 q3 hM1) (he_var 5 rfl) (he_var 6 rfl))) (he_var 8 rfl)) hnd) ?_
    refine er_cons (np_ndef 11 (c := ca) (P := tca) (nm := fun _ _ => "carrying.<locals>.carried") rfl B.ca rfl (by simp [tabs3]) rfl (fun q hq hP => by
      simp [tabs3] at hq
      rcases hq with rfl | rfl | rfl
      · rfl
      · exact absurd hP.symm B.d1
      · exact absurd hP.symm B.d2) (ndef_free (fr := f_inner) fr_carrying) rfl rfl rfl hnd rfl (.inl rfl) (.inl rfl)) ?_
    exact er_ret (st := s_carried) (name := "carried") (qual := "carrying.<locals>.carried") (fr := f_inner) (js := [0, 2, 9, 10]) (Ws := mvWs c p t (mkMv false ax ay bx by' cx cy dx dy)) 11 rfl rfl rfl (ndef_free (fr := f_inner) fr_carrying) (ndef_fr fr_carrying) sc_carried.free (by decide) (fun _ => rfl))
  exact ⟨⟨f, fd, _, [], [], hm, F.kp, hF.1, hF.2, .nil, fun _ => trivial⟩⟩
theorem g_mirroring (N : NT K mg c) (V : NV K mg p ca mi be) (B : NB base mg ca mi be tca tmi tbe) (O : NOk P w K mg base (tabs3 tca tmi tbe) c n k) (hn : n ≤ 60) : GFn P w K mg base (tabs3 tca tmi tbe) "mirroring" (k + 4) [] (SMov c p n true) := by
  obtain ⟨f, fd, hm, F⟩ := V.mirroring.ex
  have hF := fc_typed (P := P) (w := w) (K := K) (mg := mg) (base := base) (T := tabs3 tca tmi tbe) (k := k + 3) (S := SMov c p n true) F sc_mirroring (fun Rs R ⟨_, _, _, _, _, _, _, _, _, _, _, _, _, _, _, _, _, _, _, e, _⟩ => by rw [e]; rfl) (fun _ _ _ _ _ _ us hl => match us, hl with | [_, _, _, _], _ => rfl) (by
    rintro _ _ ⟨L, t, ax, ay, bx, by', cx, cy, dx, dy, z, A, ht, hz, s1, s2, hB, n1, n2, rfl, rfl⟩ Ar outer s0 H E hr
    have hnd := sc_mirroring.nd
    have hr0 := hr.mono (show k ≤ k + 3 by omega)
    unfold wE at hB
    have g0 := mB_ge (h := t.ht) (z := z) (n := 2 * wM t.ht z A + 1) (m := iB t.ht z (2 * wM t.ht z A + 1))
    have q1 := sz_sub t s1.bx s1.ax
    have q2 := sz_sub t s1.by' s1.ay
    have q3 := sz_sub t s2.bx s2.ax
    have q4 := sz_sub t s2.by' s2.ay
    have e2 : A + A + 1 = 2 * A + 1 := by omega
    rw [e2] at q1 q2 q3 q4
    have i1 := sz_mul t hz q1 q3
    have i2 := sz_mul t hz q2 q4
    have i3 := sz_mul t hz q1 q4
    have i4 := sz_mul t hz q2 q3
    have e3 : ∀ m, m + m + 1 = 2 * m + 1 := fun m => by omega
    have w0 := sz_add t (sz_mul t hz q1 q1) (sz_mul t hz q2 q2)
    have p0 := sz_sub t i1 i2
    have r0 := sz_add t i3 i4
    rw [e3] at w0 p0 r0
    have hM : mB t.ht z (2 * A + 1) (2 * A + 1) + mB t.ht z (2 * A + 1) (2 * A + 1) + 1 ≤ Bg := by unfold wM at g0 hB; omega
    have hM1 : mB t.ht z (2 * A + 1) (2 * A + 1) ≤ Bg := by omega
    have wn := whole_ne n1
    have div : ∀ {v : L.C}, t.sz v ≤ 2 * wM t.ht z A + 1 → CDiv t v ((bx - ax) * (bx - ax) + (by' - ay) * (by' - ay)) := fun {v} hv => ⟨wn, z, hz, Nat.le_trans (mB_mono hv (iB_mono w0)) hB⟩
    refine er_cons (np_tup (he_call (g_ways V O hn) hr (ha_cons (he_var 0 rfl) (ha_cons (he_var 1 rfl) (ha_cons (he_var 2 rfl) (ha_cons (he_var 3 rfl) ha_nil)))) ⟨L, t, ax, ay, bx, by', cx, cy, dx, dy, z, A, ht, hz, s1, s2, by unfold wM at g0 hB ⊢; omega, n1, n2, rfl, rfl⟩)
      (hg_cons 4 (hg_cons 5 (hg_cons 6 (hg_cons 7 (hg_cons 8 hg_nil hnd) hnd) hnd) hnd) hnd) rfl (p3 := ⟨0, 0, 0, 0⟩)) ?_
    refine er_cons (np_set 9 (h_div N O (hr.mono (by omega)) ht (div p0) (h_sub O hr0 ht (.of i1 i2 hM) (h_mul O hr0 ht (.of hz q1 q3 hM1) (he_var 4 rfl) (he_var 6 rfl)) (h_mul O hr0 ht (.of hz q2 q4 hM1) (he_var 5 rfl) (he_var 7 rfl))) (he_var 8 rfl)) hnd) ?_
    refine er_cons (np_set 10 (h_div N O (hr.mono (by omega)) ht (div r0) (h_add O hr0 ht (.of i3 i4 hM) (h_mul O hr0 ht (.of hz q1 q4 hM1) (he_var 4 rfl) (he_var 7 rfl)) (h_mul O hr0 ht (.of hz q2 q3 hM1) (he_var 5 rfl) (he_var 6 rfl))) (he_var 8 rfl)) hnd) ?_
    refine er_cons (np_ndef 11 (c := mi) (P := tmi) (nm := fun _ _ => "mirroring.<locals>.mirrored") rfl B.mi rfl (by simp [tabs3]) rfl (fun q hq hP => by
      simp [tabs3] at hq
      rcases hq with rfl | rfl | rfl
      · exact absurd hP B.d1
      · rfl
      · exact absurd hP.symm B.d3) (ndef_free (fr := f_inner) fr_mirroring) rfl rfl rfl hnd rfl (.inl rfl) (.inl rfl)) ?_
    exact er_ret (st := s_mirrored) (name := "mirrored") (qual := "mirroring.<locals>.mirrored") (fr := f_inner) (js := [0, 2, 9, 10]) (Ws := mvWs c p t (mkMv true ax ay bx by' cx cy dx dy)) 11 rfl rfl rfl (ndef_free (fr := f_inner) fr_mirroring) (ndef_fr fr_mirroring) sc_mirrored.free (by decide) (fun _ => rfl))
  exact ⟨⟨f, fd, _, [], [], hm, F.kp, hF.1, hF.2, .nil, fun _ => trivial⟩⟩
/-- one behind the other -/
def SBm (c : Cl) (p : Addr) (n : Nat) : List Rp → List Rp → Rp → Prop := fun Rs Ws R => ∃ (L : OF) (t : Tow L) (k1 k2 : Bool) (m1 m2 : Mv L.C) (x y : L.C) (z A E B C : Nat), t.ht ≤ n ∧ t.Sm z ∧ MvSz t A E m1 ∧ MvSz t A E m2 ∧ t.sz x ≤ B ∧ t.sz y ≤ B ∧ wO t.ht z A E B ≤ Bg ∧ wO t.ht z A E (wO t.ht z A E B) ≤ Bg ∧
  Rs = [PtR c p t x y] ∧ Ws = [MovR c p k1 t m1, MovR c p k2 t m2] ∧ R = PtR c p t (mvX k2 m2 (mvX k1 m1 x y) (mvY k1 m1 x y)) (mvY k2 m2 (mvX k1 m1 x y) (mvY k1 m1 x y))
theorem clo_moved {Tb : List NTab} (V : NV K mg p ca mi be) (O : NOk P w K mg base Tb c n k) (hk : 2 ≤ k) : CloOk P w K mg base Tb s_moved "moved" "behind.<locals>.moved" ["point"] f_moved (k + 2) (SBm c p n) := by
  refine clo_mk (k := k + 1) (N := n_moved) sc_moved (fun _ _ _ _ _ _ us hl => match us, hl with | [_], _ => rfl) (fun Rs Ws R ⟨_, _, _, _, _, _, _, _, _, _, _, _, _, _, _, _, _, _, _, _, _, e, _⟩ => by rw [e]; rfl) ?_
  rintro _ _ _ ⟨L, t, k1, k2, m1, m2, x, y, z, A, E, B, C, ht, hz, ms1, ms2, sx, sy, hB, hC, rfl, rfl, rfl⟩ f cl c' Ar outer s0 H Ex hr
  have q := mv_sz (kk := k1) hz ms1 sx sy
  exact rs_one (rp_ret (h_mov V O hk hr ht hz ms2 q.1 q.2 hC (he_var 2 rfl) (h_mov V O hk hr ht hz ms1 sx sy hB (he_var 1 rfl) (he_var 0 rfl))))
def BehR (R1 R2 : Rp) : Rp := CloR s_moved "moved" "behind.<locals>.moved" f_moved [R1, R2]
theorem g_behind (V : NV K mg p ca mi be) (B : NB base mg ca mi be tca tmi tbe) : GFn P w K mg base (tabs3 tca tmi tbe) "behind" 1 [] (fun Rs R => ∃ R1 R2, Rs = [R1, R2] ∧ R = BehR R1 R2) := by
  obtain ⟨f, fd, hm, F⟩ := V.behind.ex
  have hF := fc_typed (P := P) (w := w) (K := K) (mg := mg) (base := base) (T := tabs3 tca tmi tbe) (k := 0) (S := fun Rs R => ∃ R1 R2, Rs = [R1, R2] ∧ R = BehR R1 R2) F sc_behind (fun Rs R ⟨_, _, e, _⟩ => by rw [e]; rfl) (fun _ _ _ _ _ _ us hl => match us, hl with | [_, _], _ => rfl) (by
    rintro _ _ ⟨R1, R2, rfl, rfl⟩ Ar outer s0 H E hr
    have hnd := sc_behind.nd
    refine er_cons (np_ndef 2 (c := be) (P := tbe) (nm := fun _ _ => "behind.<locals>.moved") rfl B.be rfl (by simp [tabs3]) rfl (fun q hq hP => by
      simp [tabs3] at hq
      rcases hq with rfl | rfl | rfl
      · exact absurd hP B.d2
      · exact absurd hP B.d3
      · rfl) (ndef_free (fr := f_moved) fr_behind) rfl rfl rfl hnd rfl (.inl rfl) (.inl rfl)) ?_
    exact er_ret (st := s_moved) (name := "moved") (qual := "behind.<locals>.moved") (fr := f_moved) (js := [0, 1]) (Ws := [R1, R2]) 2 rfl rfl rfl (ndef_free (fr := f_moved) fr_behind) (ndef_fr fr_behind) sc_moved.free (by decide) (fun _ => rfl))
  exact ⟨⟨f, fd, _, [], [], hm, F.kp, hF.1, hF.2, .nil, fun _ => trivial⟩⟩
end
section
variable {X : Cx} {Tb : List NTab} {G : Ctx} {g e : Expr} {pos : Pos} {c : Cl} {p ca mi be : Addr} {L : OF} {t : Tow L} {m1 m2 : Mv L.C} {x y : L.C} {k n z A E B : Nat} {k1 k2 : Bool}
theorem h_beh (V : NV X.K X.mg p ca mi be) (O : NOk X.prog X.w X.K X.mg X.base Tb c n k) (hk : 2 ≤ k) (hr : Room (k + 2) X.A) (hn : t.ht ≤ n) (hz : t.Sm z) (ms1 : MvSz t A E m1) (ms2 : MvSz t A E m2) (sx : t.sz x ≤ B) (sy : t.sz y ≤ B) (hB : wO t.ht z A E B ≤ Bg) (hC : wO t.ht z A E (wO t.ht z A E B) ≤ Bg)
    (hg : HasE X Tb G g (BehR (MovR c p k1 t m1) (MovR c p k2 t m2))) (ha : HasE X Tb G e (PtR c p t x y))
    (ht : eval (.Call g [e] [] pos) X.env = (do let cal ← eval g X.env; callWith pos cal [] (backTo pos (starEach [e] X.env)) (backToKw pos (keywordEach [] X.env))) := by rfl)
    (hst : starEach [e] X.env = (false, eval e X.env) :: starEach [] X.env := by rfl) : HasE X Tb G (.Call g [e] [] pos) (PtR c p t (mvX k2 m2 (mvX k1 m1 x y) (mvY k1 m1 x y)) (mvY k2 m2 (mvX k1 m1 x y) (mvY k1 m1 x y))) :=
  he_clo (clo_moved V O hk) hr hg (ha_cons ha ha_nil hst) (fun R hR => by
    rw [List.mem_singleton] at hR
    subst hR
    exact ptR_clean _ _ _ _ _) ⟨L, t, k1, k2, m1, m2, x, y, z, A, E, B, 0, hn, hz, ms1, ms2, sx, sy, hB, hC, rfl, rfl, rfl⟩ ht hst rfl
end
end Rl

set_option Elab.async false
set_option linter.all false
set_option maxRecDepth 100000
set_option maxHeartbeats 4000000
/-! The law's own defs: numbers, roots, points by a cell. -/
namespace Rl
open PySem PySem.Spec PyProof.Rows L2 NdefX LamX Tow
structure NL (K : PySem.W.Frag) (mg : Str → Option Value) : Prop where
  cell_at : TFn K mg "_law_cell_at" s__law_cell_at []
  mix : TFn K mg "_law_mix" s__law_mix []
  fraction : TFn K mg "_law_fraction" s__law_fraction []
  scaled : TFn K mg "_law_scaled" s__law_scaled []
  chain : TFn K mg "_law_chain" s__law_chain []
  floor : TFn K mg "_law_floor" s__law_floor []
  roots : TFn K mg "_law_roots" s__law_roots []
  number : TFn K mg "_law_number" s__law_number [.bl true]
  point : TFn K mg "_law_point" s__law_point []
  four : TFn K mg "_law_four" s__law_four []
  len : mg "len" = none
  range : mg "range" = none
def mixI (c k : Int) : Int :=
  let h0 := (c + 104729 * k + 17) % 2147483647
  let h1 := (h0 * h0 + 48271 * h0 + k) % 2147483629
  (h1 * h1 + 16807 * h1) % 2147483587
theorem mixI_nn (c k : Int) : 0 ≤ mixI c k := Int.emod_nonneg _ (by decide)
theorem mixI_lt (c k : Int) : mixI c k < 2147483587 := Int.emod_lt_of_pos _ (by decide)
theorem log_lt {i : Int} {n : Nat} (h : i.natAbs < 2 ^ n) (h0 : 0 < n) : i.natAbs.log2 < n := by have := log_le h h0; omega
theorem cm {i j : Int} {n m : Nat} (h : i.natAbs < 2 ^ n) (g : j.natAbs < 2 ^ m) (h0 : 0 < n) (g0 : 0 < m) (q : n + m ≤ 1000) : CMulX i j := by
  have := log_lt h h0
  have := log_lt g g0
  unfold CMulX
  omega
theorem abs_lt {i : Int} {n : Nat} (h0 : -(2 ^ n : Nat) < i) (h1 : i < (2 ^ n : Nat)) : i.natAbs < 2 ^ n := by omega
section
variable {P : Program} {w : World} {K : PySem.W.Frag} {mg : Str → Option Value} {base : Heap} {Tb : List NTab} {c : Cl} {n k : Nat} {p ca mi be : Addr}
def SMix : List Rp → Rp → Prop := fun Rs R => ∃ a b : Int, Rs = [IntR a, IntR b] ∧ b.natAbs < 2 ^ 40 ∧ R = IntR (mixI a b)
theorem g_mix (N : NL K mg) : GFn P w K mg base Tb "_law_mix" 1 [] SMix := by
  refine gfn_mk (k := 0) N.mix sc__law_mix (bnd2 (fun _ _ _ _ _ _ _ _ => rfl) rfl) (fun Rs R ⟨_, _, e, _⟩ => by rw [e]; rfl) ?_
  rintro _ _ ⟨a, b, rfl, hb, rfl⟩ f cdv A outer s H E hr
  have h0 := Int.emod_nonneg (a + 104729 * b + 17) (show (2147483647 : Int) ≠ 0 by decide)
  have h1 := Int.emod_lt_of_pos (a + 104729 * b + 17) (show (0 : Int) < 2147483647 by decide)
  refine rs_cons (np_set 2 (he_mod (he_add (he_add (he_var 0 rfl) (he_mulX he_int (he_var 1 rfl) (cm (n := 17) (m := 40) (by decide) hb (by decide) (by decide) (by decide)))) he_int) he_int (by decide)) sc__law_mix.nd) ?_
  generalize ha : (a + 104729 * b + 17) % 2147483647 = h at *
  have hh : h.natAbs < 2 ^ 31 := abs_lt (by omega) (by omega)
  have g0 := Int.emod_nonneg (h * h + 48271 * h + b) (show (2147483629 : Int) ≠ 0 by decide)
  have g1 := Int.emod_lt_of_pos (h * h + 48271 * h + b) (show (0 : Int) < 2147483629 by decide)
  refine rs_cons (np_set 2 (he_mod (he_add (he_add (he_mulX (he_var 2 rfl) (he_var 2 rfl) (cm hh hh (by decide) (by decide) (by decide))) (he_mulX he_int (he_var 2 rfl) (cm (n := 16) (by decide) hh (by decide) (by decide) (by decide)))) (he_var 1 rfl)) he_int (by decide)) sc__law_mix.nd) ?_
  have e : mixI a b = (((h * h + 48271 * h + b) % 2147483629) * ((h * h + 48271 * h + b) % 2147483629) + 16807 * ((h * h + 48271 * h + b) % 2147483629)) % 2147483587 := by rw [← ha]; rfl
  rw [e]
  generalize (h * h + 48271 * h + b) % 2147483629 = g at *
  have hg : g.natAbs < 2 ^ 31 := abs_lt (by omega) (by omega)
  exact rs_one (rp_ret (he_mod (he_add (he_mulX (he_var 2 rfl) (he_var 2 rfl) (cm hg hg (by decide) (by decide) (by decide))) (he_mulX he_int (he_var 2 rfl) (cm (n := 15) (by decide) hg (by decide) (by decide) (by decide)))) he_int (by decide)))
end
section
variable {X : Cx} {Tb : List NTab} {G : Ctx} {a b e : Expr} {pos pp : Pos} {x y : Int} {c : Cl}
theorem h_mix (N : NL X.K X.mg) (hr : Room 1 X.A) (hy : y.natAbs < 2 ^ 40) (ha : HasE X Tb G a (IntR x)) (hb : HasE X Tb G b (IntR y)) (h1 : starEach [a, b] X.env = (false, eval a X.env) :: starEach [b] X.env := by rfl) (h2 : starEach [b] X.env = (false, eval b X.env) :: starEach [] X.env := by rfl) (hg : Gl X "_law_mix" := by rfl)
    (hpl : (backTo pos (starEach [b] X.env)).any (·.1) = false := by rfl) : HasE X Tb G (.Call (.Name "_law_mix" pp) [a, b] [] pos) (IntR (mixI x y)) :=
  he_call (g_mix N) hr (ha_cons ha (ha_cons hb ha_nil h2) h1) ⟨x, y, rfl, hy, rfl⟩ hg (by decide) h1 hpl
end
/-! ### fractions -/
def FrX (c : Cl) (N : Nat) : Rp := ExR fun q : { q : Rat // bits q ≤ N } => NumR c .base q.1
theorem at3 {i : Int} {A B C : Rp} (h0 : 0 ≤ i) (h1 : i < 3) : (i = 0 ∧ atI [A, B, C] i = some A) ∨ (i = 1 ∧ atI [A, B, C] i = some B) ∨ (i = 2 ∧ atI [A, B, C] i = some C) := by
  have : i = 0 ∨ i = 1 ∨ i = 2 := by omega
  rcases this with rfl | rfl | rfl
  · exact .inl ⟨rfl, rfl⟩
  · exact .inr (.inl ⟨rfl, rfl⟩)
  · exact .inr (.inr ⟨rfl, rfl⟩)
theorem at2 {i : Int} {A B : Rp} (h0 : 0 ≤ i) (h1 : i < 2) : (i = 0 ∧ atI [A, B] i = some A) ∨ (i = 1 ∧ atI [A, B] i = some B) := by
  have : i = 0 ∨ i = 1 := by omega
  rcases this with rfl | rfl
  · exact .inl ⟨rfl, rfl⟩
  · exact .inr ⟨rfl, rfl⟩
section
variable {P : Program} {w : World} {K : PySem.W.Frag} {mg : Str → Option Value} {base : Heap} {Tb : List NTab} {c : Cl} {n k : Nat} {p ca mi be : Addr}
def SFrc (c : Cl) : List Rp → Rp → Prop := fun Rs R => ∃ (a : Int) (g : Bool), Rs = [IntR a, BoolR g] ∧ R = FrX c 63
theorem g_fraction (Gg : Gd P base) (N : NT K mg c) (L : NL K mg) : GFn P w K mg base Tb "_law_fraction" 37 [] (SFrc c) := by
  refine gfn_mk (k := 36) L.fraction sc__law_fraction (bnd2 (fun _ _ _ _ _ _ _ _ => rfl) rfl) (fun Rs R ⟨_, _, e, _⟩ => by rw [e]; rfl) ?_
  rintro _ _ ⟨a, g, rfl, rfl⟩ f cdv A outer s H E hr
  have r1 := hr.mono (show 1 ≤ 36 by decide)
  have hnd := sc__law_fraction.nd
  have m0 := mixI_nn a
  have m1 := mixI_lt a
  have b2 := m0 2
  have b4 := m0 4
  have q2 := Int.emod_nonneg (mixI a 2) (show (9 : Int) ≠ 0 by decide)
  have q2' := Int.emod_lt_of_pos (mixI a 2) (show (0 : Int) < 9 by decide)
  have q3 := Int.emod_nonneg (mixI a 2) (show (99 : Int) ≠ 0 by decide)
  have q3' := Int.emod_lt_of_pos (mixI a 2) (show (0 : Int) < 99 by decide)
  have q4 := Int.emod_nonneg (mixI a 4) (show (6 : Int) ≠ 0 by decide)
  have q4' := Int.emod_lt_of_pos (mixI a 4) (show (0 : Int) < 6 by decide)
  have q5 := Int.emod_nonneg (mixI a 5) (show (2 : Int) ≠ 0 by decide)
  have q5' := Int.emod_lt_of_pos (mixI a 5) (show (0 : Int) < 2 by decide)
  have q6 := Int.emod_nonneg (mixI a 3) (show (3 : Int) ≠ 0 by decide)
  have q6' := Int.emod_lt_of_pos (mixI a 3) (show (0 : Int) < 3 by decide)
  obtain ⟨top, ht, hat⟩ : ∃ top : Int, top.natAbs < 2 ^ 62 ∧ atI [IntR (mixI a 2 % 9 - 4), IntR (mixI a 2 % 99 - 49), IntR 0] (mixI a 3 % 3) = some (IntR top) := by
    rcases at3 (A := IntR (mixI a 2 % 9 - 4)) (B := IntR (mixI a 2 % 99 - 49)) (C := IntR 0) q6 q6' with ⟨_, e⟩ | ⟨_, e⟩ | ⟨_, e⟩
    · exact ⟨_, by omega, e⟩
    · exact ⟨_, by omega, e⟩
    · exact ⟨_, by omega, e⟩
  obtain ⟨bot, hb, hb0, hbt⟩ : ∃ bot : Int, bot.natAbs < 2 ^ 62 ∧ bot ≠ 0 ∧ atI [IntR 1, IntR (1 + mixI a 4 % 6)] (mixI a 5 % 2) = some (IntR bot) := by
    rcases at2 (A := IntR 1) (B := IntR (1 + mixI a 4 % 6)) q5 q5' with ⟨_, e⟩ | ⟨_, e⟩
    · exact ⟨_, by omega, by omega, e⟩
    · exact ⟨_, by omega, by omega, e⟩
  have e9 : (10 : Int) ^ (9 : Int).toNat = 1000000000 := by decide
  have p9 : CPow 10 9 := by first | decide | exact ⟨by decide, by decide⟩ | (unfold CPow; decide)
  refine rs_cons (np_set 2 (he_ixL (he_lst (ha_cons (he_subI (he_mod (h_mix L r1 (by decide) (he_var 0 rfl) he_int) he_int (by decide)) he_int) (ha_cons (he_subI (he_mod (h_mix L r1 (by decide) (he_var 0 rfl) he_int) he_int (by decide)) he_int) (ha_cons he_int ha_nil)))) (he_mod (h_mix L r1 (by decide) (he_var 0 rfl) he_int) he_int (by decide)) hat) hnd) ?_
  refine rs_cons (np_set 3 (he_ixL (he_lst (ha_cons he_int (ha_cons (he_add he_int (he_mod (h_mix L r1 (by decide) (he_var 0 rfl) he_int) he_int (by decide))) ha_nil))) (he_mod (h_mix L r1 (by decide) (he_var 0 rfl) he_int) he_int (by decide)) hbt) hnd) ?_
  have fin : ∀ t b : Int, t.natAbs < 2 ^ 62 → b.natAbs < 2 ^ 62 → b ≠ 0 → RetS (cxOf CX0 P w K mg base n__law_fraction "_law_fraction" (defScope s__law_fraction) f cdv A outer s H E).nox Tb [some (IntR a), some (BoolR g), some (IntR t), some (IntR b)] ((defBody s__law_fraction).drop 3) (FrX c 63) := fun t b ht hb hb0 =>
    rs_one (rp_ret ((h_frac Gg N hr hb0 (he_var 2 rfl) (he_var 3 rfl)).sub (ExR.le (f := fun q : { q : Rat // bits q ≤ 63 } => NumR c .base q.1) ⟨Rat.divInt t b, Nat.le_trans (bits_divInt hb0 ht hb) (by decide)⟩)))
  cases g with
  | false => exact rs_cons (np_skip (HasW.t (hw_and (k := false) (l := false) (ht_val (he_var 1 rfl)) (fun z => by cases z)))) (fin _ _ ht hb hb0)
  | true =>
    by_cases hc : 0 < mixI a 6 % 3
    · have r7 := m0 7
      have r7' := m1 7
      have s8 := Int.emod_nonneg (mixI a 8) (show (1000000000 : Int) ≠ 0 by decide)
      have s8' := Int.emod_lt_of_pos (mixI a 8) (show (0 : Int) < 1000000000 by decide)
      have s9 := Int.emod_nonneg (mixI a 9) (show (1000000000 : Int) ≠ 0 by decide)
      have s9' := Int.emod_lt_of_pos (mixI a 9) (show (0 : Int) < 1000000000 by decide)
      have t1 : (mixI a 7 - 1000000000).natAbs < 2 ^ 31 := by omega
      have t2 : (1 + mixI a 8 % 1000000000).natAbs < 2 ^ 31 := by omega
      have t3 : ((mixI a 7 - 1000000000) * (1 + mixI a 8 % 1000000000)).natAbs < 2 ^ 62 := by rw [Int.natAbs_mul]; exact mul_lt_pow t1 t2
      obtain ⟨bot2, hb2, hb20, hbt2⟩ : ∃ bot : Int, bot.natAbs < 2 ^ 62 ∧ bot ≠ 0 ∧ atI [IntR 1, IntR (1 + mixI a 9 % 1000000000)] (mixI a 5 % 2) = some (IntR bot) := by
        rcases at2 (A := IntR 1) (B := IntR (1 + mixI a 9 % 1000000000)) q5 q5' with ⟨_, e⟩ | ⟨_, e⟩
        · exact ⟨_, by omega, by omega, e⟩
        · exact ⟨_, by omega, by omega, e⟩
      have ten : ∀ {X : Cx} {G : Ctx} {p1 p2 p3 : Pos} {j1 j2}, HasE X Tb G (.BinOp (.Constant (.int 10) j1 p1) .Pow (.Constant (.int 9) j2 p2) p3) (IntR 1000000000) := fun {X G p1 p2 p3 j1 j2} => he_pow he_int he_int p9
      refine rs_cons (np_ifT ((HasW.t (hw_and (ht_val (he_var 1 rfl)) fun _ => hw_and1 (ht_gt (he_mod (h_mix L r1 (by decide) (he_var 0 rfl) he_int) he_int (by decide)) he_int))).eq (by rw [decide_eq_true hc]; rfl)) (ns_cons (np_set 2 (he_mulX (he_subI (h_mix L r1 (by decide) (he_var 0 rfl) he_int) ten) (he_add he_int (he_mod (h_mix L r1 (by decide) (he_var 0 rfl) he_int) ten (by decide))) (cm t1 t2 (by decide) (by decide) (by decide))) hnd)
        (ns_one (np_set 3 (he_ixL (he_lst (ha_cons he_int (ha_cons (he_add he_int (he_mod (h_mix L r1 (by decide) (he_var 0 rfl) he_int) ten (by decide))) ha_nil))) (he_mod (h_mix L r1 (by decide) (he_var 0 rfl) he_int) he_int (by decide)) hbt2) hnd)))) (fin _ _ t3 hb2 hb20)
    · exact rs_cons (np_skip ((HasW.t (hw_and (ht_val (he_var 1 rfl)) fun _ => hw_and1 (ht_gt (he_mod (h_mix L r1 (by decide) (he_var 0 rfl) he_int) he_int (by decide)) he_int))).eq (by rw [decide_eq_false hc]; rfl))) (fin _ _ ht hb hb0)
end
end Rl

set_option Elab.async false
set_option linter.all false
set_option maxRecDepth 100000
set_option maxHeartbeats 4000000
/-! The law's own defs (2): numbers, points, four points. -/
namespace Rl
open PySem PySem.Spec PyProof.Rows L2 NdefX LamX Tow
theorem gfn_mkD {P : Program} {w : World} {K : PySem.W.Frag} {mg : Str → Option Value} {base : Heap} {T : List NTab} {x : Str} {st : Stmt} {N ps : List Str} {k : Nat} {S : List Rp → Rp → Prop} {dvs : List V} {Ds : List Rp}
    (F : TFn K mg x st dvs) (sc : FnScope N ps (defScope st)) (dws : List V) (hd : ∀ H, Holds Ds dws H) (bd : ∀ f fd, FnD K x x st dvs f fd → ∃ ds, Vals dws ds ∧ Binds K fd ps ds) (hl : ∀ Rs R, S Rs R → Rs.length = ps.length)
    (h : ∀ Rs R, S Rs R → ∀ (f : Addr) (cdv : Value) (A : Around) (outer : List PySem.Env) (s : Shared) (H : Hp) (E : XK), Room k (A.deeper (envOfC x (defScope st) s.heap.objs.size f cdv)) →
      RetS (cxOf CX0 P w K mg base N x (defScope st) f cdv A outer s H E).nox T (ctx0 N Rs) (defBody st) R) : GFn P w K mg base T x (k + 1) Ds S := by
  obtain ⟨f, fd, hm, F⟩ := F.ex
  obtain ⟨ds, hds, hB⟩ := bd f fd F
  exact ⟨⟨f, fd, ps, ds, dws, hm, F.kp, fd_typed F sc hl fun Rs R hS => h Rs R hS f, hB, hds, hd⟩⟩
/-- the roots of a tower -/
def rootsL (c : Cl) : {L : OF} → Tow L → List Rp
  | _, .base => []
  | _, .ext t s _ => rootsL c t ++ [RootR c t s]
theorem rootsL_len (c : Cl) : ∀ {L : OF} (t : Tow L), (rootsL c t).length = t.ht
  | _, .base => rfl
  | _, .ext t s _ => by rw [rootsL, List.length_append, rootsL_len c t]; rfl
theorem cutL_init {α : Type} (xs : List α) (x : α) : cutL (xs ++ [x]) none (some (-1)) = xs := by
  unfold cutL
  have e1 : HT.sIx (xs ++ [x]).length 0 none = 0 := by simp [HT.sIx]
  have e2 : HT.sIx (xs ++ [x]).length (xs ++ [x]).length (some (-1)) = xs.length := by
    simp [HT.sIx]
    try omega
  rw [e1, e2]
  simp
theorem atI_last {α : Type} (xs : List α) (x : α) : atI (xs ++ [x]) (-1) = some x := by
  unfold atI ixN
  simp
  rw [if_pos (by omega)]
  have : (-1 + ((xs.length : Int) + 1)).toNat = xs.length := by omega
  simp [this]
def NumX (c : Cl) {L : OF} (t : Tow L) (N : Nat) : Rp := ExR fun u : { u : L.C // t.sz u ≤ N } => NumR c t u.1
theorem numX_in (c : Cl) {L : OF} (t : Tow L) {N : Nat} {u : L.C} (h : t.sz u ≤ N) : (NumR c t u).le (NumX c t N) := ExR.le (f := fun u : { u : L.C // t.sz u ≤ N } => NumR c t u.1) ⟨u, h⟩
section
variable {P : Program} {w : World} {K : PySem.W.Frag} {mg : Str → Option Value} {base : Heap} {Tb : List NTab} {c : Cl} {n k : Nat} {p ca mi be : Addr}
def SNum (c : Cl) (n : Nat) : List Rp → Rp → Prop := fun Rs R => ∃ (L : OF) (t : Tow L) (a : Int) (g : Bool), t.ht ≤ n ∧ Rs = [IntR a, LstR (rootsL c t), BoolR g] ∧ R = NumX c t 63
theorem frX_emb {L : OF} (t : Tow L) : (FrX c 63).le (NumX c t 63) := by
  rintro v H ⟨q, h⟩
  refine ⟨⟨t.emb q.1, Nat.le_trans (sz_emb t q.1) q.2⟩, ?_⟩
  show (NumR c t (t.emb q.1)).R v H
  rw [numR_emb]
  have e : NumR c .base (show OF.rat.C from q.1) = fracR c q.1 := numR_base
  rw [← e]
  exact h
theorem b_number (Gg : Gd P base) (N : NT K mg c) (L : NL K mg) (hk : 37 ≤ k) (I : ∀ m, n = m + 1 → GFn P w K mg base Tb "_law_number" k [] (SNum c m)) : GFn P w K mg base Tb "_law_number" (k + 1) [] (SNum c n) := by
  refine gfn_mkD L.number sc__law_number [] (fun _ => trivial) (fun f fd F => F.binds1 (ps := ["_law_cell", "_law_roots_here", "_law_great"]) 3 1 (by simp) rfl (fun T kV doc pm an cdv ct us its h1 h2 => match us, h1, its, h2 with | [_, _, _], _, [_], _ => ⟨_, rfl, rfl⟩)) (fun Rs R ⟨_, _, _, _, _, e, _⟩ => by rw [e]; rfl) ?_
  rintro _ _ ⟨L', t, a, g, ht, rfl, rfl⟩ f cdv A outer s H E hr
  have r1 := hr.mono (show 1 ≤ k by omega)
  have r37 := hr.mono hk
  have hnd := sc__law_number.nd
  refine rs_cons (np_set 2 (he_and (he_var 2 rfl) fun _ => he_one (he_lt (he_len ((he_var 1 rfl).sub LstR.le) L.len) he_int)) hnd) ?_
  rw [rootsL_len]
  generalize (g && decide ((t.ht : Int) < 2)) = g2
  match L', t, ht with
  | _, .base, _ =>
    exact rs_stop (rp_ifT ((HasW.t (hw_or (l := true) (ht_eqS (he_len ((he_var 1 rfl).sub LstR.le) L.len) he_int) (fun z => by simp [rootsL] at z))).eq (by simp [rootsL])) (rs_one (rp_ret ((he_call (g_fraction Gg N L) r37 (ha_cons (h_mix L r1 (by decide) (he_var 0 rfl) he_int) (ha_cons (he_var 2 rfl) ha_nil)) ⟨_, _, rfl, rfl⟩).sub (frX_emb _)))))
  | _, .ext t s' h, ht =>
    have ht' : t.ht + 1 ≤ n := ht
    have hne : ¬ (((rootsL c (.ext t s' h)).length : Int) = 0) := by rw [rootsL_len]; show ¬ (((t.ht + 1 : Nat) : Int) = 0); omega
    have hne2 : decide (V.int ((rootsL c (.ext t s' h)).length : Int) = V.int 0) = false := decide_eq_false (fun z => hne (by injection z))
    by_cases hc : mixI a 6 % 6 = 0
    · exact rs_stop (rp_ifT ((HasW.t (hw_or (ht_eqS (he_len ((he_var 1 rfl).sub LstR.le) L.len) he_int) (fun _ => hw_or1 (ht_eqS (he_mod (h_mix L r1 (by decide) (he_var 0 rfl) he_int) he_int (by decide)) he_int)))).eq (by rw [hne2, decide_eq_true (by rw [hc])]; rfl)) (rs_one (rp_ret ((he_call (g_fraction Gg N L) r37 (ha_cons (h_mix L r1 (by decide) (he_var 0 rfl) he_int) (ha_cons (he_var 2 rfl) ha_nil)) ⟨_, _, rfl, rfl⟩).sub (frX_emb _)))))
    · obtain ⟨m, rfl⟩ : ∃ m, n = m + 1 := ⟨n - 1, by omega⟩
      have hI := I m rfl
      refine rs_cons (np_skip ((HasW.t (hw_or (ht_eqS (he_len ((he_var 1 rfl).sub LstR.le) L.len) he_int) (fun _ => hw_or1 (ht_eqS (he_mod (h_mix L r1 (by decide) (he_var 0 rfl) he_int) he_int (by decide)) he_int)))).eq (by rw [hne2, decide_eq_false (fun z => hc (by injection z))]; rfl))) ?_
      have sl : ∀ {G : Ctx} {x : Expr} {p1 p2 : Pos} {lo hi : Option Expr}, HasE (cxOf CX0 P w K mg base n__law_number "_law_number" (defScope s__law_number) f cdv A outer s H E).nox Tb G x (LstR (rootsL c (.ext t s' h))) → HasO (cxOf CX0 P w K mg base n__law_number "_law_number" (defScope s__law_number) f cdv A outer s H E).nox Tb G lo none →
          HasO (cxOf CX0 P w K mg base n__law_number "_law_number" (defScope s__law_number) f cdv A outer s H E).nox Tb G hi (some (-1)) → HasE (cxOf CX0 P w K mg base n__law_number "_law_number" (defScope s__law_number) f cdv A outer s H E).nox Tb G (.Subscript x (.Slice lo hi none p1) p2) (LstR (rootsL c t)) :=
        fun hx h1 h2 => he_eq (he_slL (hx.sub LstR.le) h1 h2) (by rw [show rootsL c (.ext t s' h) = rootsL c t ++ [RootR c t s'] from rfl, cutL_init])
      refine rs_cons (np_set 3 (he_call hI hr (ha_cons (h_mix L r1 (by decide) (he_var 0 rfl) he_int) (ha_cons (sl (he_var 1 rfl) ho_none (ho_some (he_neg he_int))) (ha_cons (he_var 2 rfl) ha_nil))) ⟨_, t, _, _, by omega, rfl, rfl⟩) hnd) ?_
      refine rs_open 3 rfl fun u1 => rs_one (rp_ret ?_)
      refine he_callX (g_mixed N) (hr.mono (by omega)) (ha_cons (he_var 3 rfl) (ha_cons (he_call hI hr (ha_cons (h_mix L r1 (by decide) (he_var 0 rfl) he_int) (ha_cons (sl (he_var 1 rfl) ho_none (ho_some (he_neg he_int))) (ha_cons (he_var 2 rfl) ha_nil))) ⟨_, t, _, _, by omega, rfl, rfl⟩)
        (ha_cons (he_ixL (i := -1) ((he_var 1 rfl).sub LstR.le) (he_neg he_int) (atI_last (rootsL c t) (RootR c t s'))) ha_nil))) ?_
      intro vs Hh hh
      obtain ⟨v1, v2, v3, rfl, h1, ⟨u2, h2⟩, h3⟩ : ∃ v1 v2 v3, vs = [v1, v2, v3] ∧ (NumR c t u1.1).R v1 Hh ∧ (NumX c t 63).R v2 Hh ∧ (RootR c t s').R v3 Hh := by
        match vs, hh with
        | [v1, v2, v3], ⟨a, b, d, _⟩ => exact ⟨v1, v2, v3, rfl, a, b, d⟩
      exact ⟨[NumR c t u1.1, NumR c t u2.1, RootR c t s'], _, ⟨h1, h2, h3, trivial⟩, ⟨_, t, s', h, u1.1, u2.1, rfl, rfl⟩, numX_in c (.ext t s' h) (u := (⟨u1.1, u2.1⟩ : Quad _ s')) (Nat.max_le.mpr ⟨u1.2, u2.2⟩)⟩
theorem g_number (Gg : Gd P base) (N : NT K mg c) (L : NL K mg) : ∀ n, GFn P w K mg base Tb "_law_number" (38 + n) [] (SNum c n)
  | 0 => b_number (k := 37) Gg N L (by decide) (fun m h => by omega)
  | n + 1 => b_number (k := 38 + n) Gg N L (by omega) (fun m h => by
      obtain rfl : n = m := by omega
      exact g_number Gg N L n)
/-! points -/
theorem nil_data : (LstR []).le (DataR K (.list [])) := fun v H h => data_lst (ds := []) v H (LstR.le v H h)
abbrev Pt {L : OF} (t : Tow L) (N : Nat) : Type := { q : L.C × L.C // t.sz q.1 ≤ N ∧ t.sz q.2 ≤ N }
def ptOf (c : Cl) (p : Addr) {L : OF} (t : Tow L) {N : Nat} (q : Pt t N) : Rp := PtR c p t q.1.1 q.1.2
def PtX (c : Cl) (p : Addr) {L : OF} (t : Tow L) (N : Nat) : Rp := ExR (ptOf c p t (N := N))
def SPnt (c : Cl) (p : Addr) (n : Nat) : List Rp → Rp → Prop := fun Rs R => ∃ (L : OF) (t : Tow L) (a : Int), t.ht ≤ n ∧ Rs = [IntR a, LstR (rootsL c t)] ∧ R = PtX c p t 63
theorem he_pointX {X : Cx} {G : Ctx} {a b : Expr} {pos pp : Pos} {L : OF} {t : Tow L} (V : NV X.K X.mg p ca mi be) (hr : Room 2 X.A) (ha : HasE X Tb G a (NumX c t 63)) (hb : HasE X Tb G b (NumX c t 63)) (h1 : starEach [a, b] X.env = (false, eval a X.env) :: starEach [b] X.env := by rfl) (h2 : starEach [b] X.env = (false, eval b X.env) :: starEach [] X.env := by rfl) (hg : Gl X "Point" := by rfl)
    (hpl : (backTo pos (starEach [b] X.env)).any (·.1) = false := by rfl) : HasE X Tb G (.Call (.Name "Point" pp) [a, b] [] pos) (PtX c p t 63) := by
  refine he_makeX (c_point V) hr (ha_cons ha (ha_cons hb ha_nil h2) h1) ?_ hg (by decide) h1 hpl
  intro vs H hh
  obtain ⟨v, u, rfl, ⟨x, hx⟩, ⟨y, hy⟩⟩ := holds2 hh
  exact ⟨[NumR c t x.1, NumR c t y.1], _, ⟨hx, hy, trivial⟩, ⟨rfl, rfl⟩, ExR.le (f := ptOf c p t (N := 63)) ⟨(x.1, y.1), x.2, y.2⟩⟩
theorem g_point (Gg : Gd P base) (N : NT K mg c) (L : NL K mg) (V : NV K mg p ca mi be) : GFn P w K mg base Tb "_law_point" (38 + n + 1) [] (SPnt c p n) := by
  refine gfn_mk (k := 38 + n) L.point sc__law_point (bnd2 (fun _ _ _ _ _ _ _ _ => rfl) rfl) (fun Rs R ⟨_, _, _, _, e, _⟩ => by rw [e]; rfl) ?_
  rintro _ _ ⟨L', t, a, ht, rfl, rfl⟩ f cdv A outer s H E hr
  have r1 := hr.mono (show 1 ≤ 38 + n by omega)
  have hnd := sc__law_point.nd
  have hN := g_number (P := P) (w := w) (base := base) (Tb := Tb) (c := c) Gg N L n
  have key : ∀ g : Bool, RetS (cxOf CX0 P w K mg base n__law_point "_law_point" (defScope s__law_point) f cdv A outer s H E).nox Tb [some (IntR a), some (LstR (rootsL c t)), some (BoolR g), none] ((defBody s__law_point).drop 1) (PtX c p t 63) := by
    intro g
    refine rs_cons (np_set 3 (he_call hN hr (ha_cons (h_mix L r1 (by decide) (he_var 0 rfl) he_int) (ha_cons (he_var 1 rfl) (ha_cons (he_var 2 rfl) ha_nil))) ⟨_, t, _, _, ht, rfl, rfl⟩) hnd) ?_
    exact rs_one (rp_ret (he_pointX V (hr.mono (by omega)) (he_var 3 rfl) (he_call hN hr (ha_cons (h_mix L r1 (by decide) (he_var 0 rfl) he_int) (ha_cons (he_var 1 rfl) (ha_cons (he_var 2 rfl) ha_nil))) ⟨_, t, _, _, ht, rfl, rfl⟩)))
  cases t with
  | base =>
    refine rs_cons (np_set 2 (he_and (he_eqD ((he_var 1 rfl).sub nil_data) ((he_lstT ha_nil).sub nil_data) r1 (by decide) (by decide)) fun _ => he_one (he_eqS (he_mod (h_mix L r1 (by decide) (he_var 0 rfl) he_int) he_int (by decide)) he_int)) hnd) ?_
    exact key _
  | ext t s h =>
    refine rs_cons (np_set 2 (he_and (he_eqLen (he_var 1 rfl) (he_lstT ha_nil) r1 (by rw [rootsL_len]; show t.ht + 1 ≠ 0; omega)) (l := false) fun z => by cases z) hnd) ?_
    exact key _
end
end Rl

set_option Elab.async false
set_option linter.all false
set_option maxRecDepth 100000
set_option maxHeartbeats 4000000
/-! The law's own defs (3): four points, a moving. -/
namespace Rl
open PySem PySem.Spec PyProof.Rows L2 NdefX LamX Tow
def lcScope : Expr → Scope
  | .ListComp _ _ sc _ => sc
  | _ => (defScope (.Pass ⟨0, 0, 0, 0⟩))
def asgVal : Stmt → Expr
  | .Assign _ v _ => v
  | .Return (some v) _ => v
  | _ => .Constant .none 0 ⟨0, 0, 0, 0⟩
abbrev sc_lcFour : Scope := lcScope (asgVal ((defBody s__law_four).getD 0 (.Pass ⟨0, 0, 0, 0⟩)))
theorem bk_four : BlkOk n__law_four (defScope s__law_four) sc_lcFour [("_law_k", 3)] := blkOk_by (by decide +kernel)
section
variable {P : Program} {w : World} {K : PySem.W.Frag} {mg : Str → Option Value} {base : Heap} {Tb : List NTab} {c : Cl} {n k : Nat} {p ca mi be : Addr}
theorem numR_lf (c : Cl) : ∀ {L : OF} (t : Tow L) (u : L.C), (NumR c t u).Lf
  | _, .base, u => by
    rw [numR_base]
    exact lf_obj fun q hq => by
      simp at hq
      rcases hq with rfl | rfl <;> exact lf_is _
  | _, .ext t s h, u => by
    rw [numR_ext]
    split
    · exact numR_lf c t _
    · refine lf_obj fun q hq => ?_
      simp at hq
      rcases hq with rfl | rfl | rfl
      · exact numR_lf c t _
      · exact numR_lf c t _
      · refine lf_obj fun q hq => ?_
        simp at hq
        rcases hq with rfl | rfl
        · exact lf_is _
        · exact numR_lf c t _
theorem ptR_lf (c : Cl) (p : Addr) {L : OF} (t : Tow L) (x y : L.C) : (PtR c p t x y).Lf := lf_obj fun q hq => by
  simp at hq
  rcases hq with rfl | rfl <;> exact numR_lf c t _
theorem ptX_lf (c : Cl) (p : Addr) {L : OF} (t : Tow L) (N : Nat) : (PtX c p t N).Lf := lf_ex fun q => ptR_lf c p t _ _
theorem h_xX {X : Cx} {G : Ctx} {e : Expr} {pos : Pos} {L : OF} {t : Tow L} (V : NV X.K mg p ca mi be) (h : HasE X Tb G e (PtX c p t 63)) (hb : attributeBase e "x" X.env (eval e X.env) = eval e X.env := by rfl) : HasE X Tb G (.Attribute e "x" pos) (NumX c t 63) :=
  he_fldX (f := "x") (C := p) (F := ptOf c p t (N := 63)) (Fs := fun q => [("x", NumR c t q.1.1), ("y", NumR c t q.1.2)]) (R := fun q => NumR c t q.1.1) h (fun _ => rfl) V.clP V.nP_x (fun _ => rfl) (fun q => numX_in c t q.2.1) hb
theorem h_yX {X : Cx} {G : Ctx} {e : Expr} {pos : Pos} {L : OF} {t : Tow L} (V : NV X.K mg p ca mi be) (h : HasE X Tb G e (PtX c p t 63)) (hb : attributeBase e "y" X.env (eval e X.env) = eval e X.env := by rfl) : HasE X Tb G (.Attribute e "y" pos) (NumX c t 63) :=
  he_fldX (f := "y") (C := p) (F := ptOf c p t (N := 63)) (Fs := fun q => [("x", NumR c t q.1.1), ("y", NumR c t q.1.2)]) (R := fun q => NumR c t q.1.2) h (fun _ => rfl) V.clP V.nP_y (fun _ => rfl) (fun q => numX_in c t q.2.2) hb
def SFour (c : Cl) (p : Addr) (n : Nat) : List Rp → Rp → Prop := fun Rs R => ∃ (L : OF) (t : Tow L) (a : Int), t.ht ≤ n ∧ Rs = [IntR a, LstR (rootsL c t)] ∧ R = ExR fun as : { as : List (Pt t 63) // as.length = 4 } => LstR (as.1.map (ptOf c p t))
theorem g_four (Gg : Gd P base) (N : NT K mg c) (L : NL K mg) (V : NV K mg p ca mi be) : GFn P w K mg base Tb "_law_four" (39 + n + 1) [] (SFour c p n) := by
  refine gfn_mk (k := 39 + n) L.four sc__law_four (bnd2 (fun _ _ _ _ _ _ _ _ => rfl) rfl) (fun Rs R ⟨_, _, _, _, e, _⟩ => by rw [e]; rfl) ?_
  rintro _ _ ⟨L', t, a, ht, rfl, rfl⟩ f cdv A outer s H E hr
  have r1 := hr.mono (show 1 ≤ 39 + n by omega)
  have hnd := sc__law_four.nd
  have hP := g_point (P := P) (w := w) (base := base) (Tb := Tb) (c := c) (n := n) Gg N L V
  have rP := hr.mono (show 38 + n + 1 ≤ 39 + n by omega)
  refine rs_ownLc (tg := .Name "_law_k" _) (Ys := (List.range 4).map fun (i : Nat) => IntR (0 + (i : Int))) (Zs := List.replicate 4 (PtX c p t 63)) (scope := sc_lcFour) 2 (hi_range1 (j := 4) he_int L.range (by decide) (by decide)) bk_four hnd
    (tgb_name (j := 3) (by simp) (fun s' H' C cl fp => pg_name hnd rfl (.inl rfl))) (by simp) (by decide) ?_ ?_ rfl
  · intro i Y Z hY hZ
    have hi : i < 4 := by have := (List.getElem?_eq_some_iff.mp hZ).1; simpa using this
    have hY' : Y = IntR (0 + (i : Int)) := by
      rw [List.getElem?_map, List.getElem?_range hi] at hY
      exact (Option.some.inj hY).symm
    have hZ' : Z = PtX c p t 63 := by
      rw [List.getElem?_replicate, if_pos hi] at hZ
      exact (Option.some.inj hZ).symm
    subst hY'
    subst hZ'
    refine ⟨_, rfl, fun s' H' C cl fp => ?_⟩
    refine he_call hP rP (ha_cons (h_mix L r1 (by omega) (he_var 0 rfl) (he_add he_int (he_var 3 rfl))) (ha_cons (he_var 1 rfl) ha_nil)) ⟨_, t, _, ht, rfl, rfl⟩
  · intro D
    have e4 : LfBut [some (IntR a), none, some (LstD D (List.replicate 4 (PtX c p t 63))), none, some (IntR (mixI a 54 % 12))] 2 := by
      intro j R hj q
      match j, hj, q with
      | 0, _, q => simp at q; subst q; exact lf_is _
      | 1, _, q => simp at q
      | 2, hj, _ => exact absurd rfl hj
      | 3, _, q => simp at q
      | 4, _, q => simp at q; subst q; exact lf_is _
      | j + 5, _, q => simp at q
    have hLs : ∀ R ∈ List.replicate 4 (PtX c p t 63), R.Lf := fun R hR => by
      rw [List.eq_of_mem_replicate hR]
      exact ptX_lf c p t 63
    refine rm_drop 1 (rm_cons (mp_of (np_set 4 (he_mod (h_mix L r1 (by decide) (he_var 0 rfl) he_int) he_int (by decide)) hnd)) ?_)
    have pX : ∀ {i : Int} {e1 : Expr} {p1 p2 : Pos}, atI (List.replicate 4 (PtX c p t 63)) i = some (PtX c p t 63) → HasE (cxOf CX0 P w K mg base n__law_four "_law_four" (defScope s__law_four) f cdv A outer s H E).nox Tb [some (IntR a), none, some (LstD D (List.replicate 4 (PtX c p t 63))), none, some (IntR (mixI a 54 % 12))] e1 (IntR i) →
        (PlainIx e1) → HasE (cxOf CX0 P w K mg base n__law_four "_law_four" (defScope s__law_four) f cdv A outer s H E).nox Tb [some (IntR a), none, some (LstD D (List.replicate 4 (PtX c p t 63))), none, some (IntR (mixI a 54 % 12))] (.Subscript (.Name "_law_found" p1) e1 p2) (PtX c p t 63) :=
      fun hi he hs => he_ixL ((he_var 2 rfl).sub (fun v H h => LstR.le v H (LstD.le v H h))) he hi hs
    have fin : RetM D (cxOf CX0 P w K mg base n__law_four "_law_four" (defScope s__law_four) f cdv A outer s H E).nox Tb [some (IntR a), none, some (LstD D (List.replicate 4 (PtX c p t 63))), none, some (IntR (mixI a 54 % 12))] ((defBody s__law_four).drop 4) (ExR fun as : { as : List (Pt t 63) // as.length = 4 } => LstR (as.1.map (ptOf c p t))) :=
      rm_of (rs_one (rp_ret ((he_var 2 rfl).sub (fun v H h => lstR_ex v H (LstD.le v H h)))))
    have r2 := hr.mono (show 2 ≤ 39 + n by omega)
    by_cases h0 : mixI a 54 % 12 = 0
    · refine rm_cons (mp_ifT ((ht_eqS (he_var 4 rfl) he_int).eq (decide_eq_true (by rw [h0]))) (nm_one (mp_set 2 (k := 1) (j := 1) rfl e4 (he_pointX V r2 (h_xX V (pX (i := 0) rfl he_int (fun _ _ => rfl))) (h_yX V (pX (i := 0) rfl he_int (fun _ _ => rfl)))) (ptX_lf c p t 63) hLs he_int rfl))) ?_
      exact rm_cons (mp_skip ((ht_eqS (he_var 4 rfl) he_int).eq (decide_eq_false (by rw [h0]; intro z; injection z with z; omega)))) fin
    · refine rm_cons (mp_skip ((ht_eqS (he_var 4 rfl) he_int).eq (decide_eq_false (by intro z; injection z with z; omega)))) ?_
      by_cases h1 : mixI a 54 % 12 = 1
      · refine rm_cons (mp_ifT ((ht_eqS (he_var 4 rfl) he_int).eq (decide_eq_true (by rw [h1]))) (nm_one (mp_set 2 (k := 3) (j := 3) rfl e4 (he_pointX V r2 (h_xX V (pX (i := 2) rfl he_int (fun _ _ => rfl))) (h_yX V (pX (i := 2) rfl he_int (fun _ _ => rfl)))) (ptX_lf c p t 63) hLs he_int rfl))) ?_
        exact fin
      · exact rm_cons (mp_skip ((ht_eqS (he_var 4 rfl) he_int).eq (decide_eq_false (by intro z; injection z with z; omega)))) fin
end
end Rl

set_option Elab.async false
set_option linter.all false
set_option maxRecDepth 100000
set_option maxHeartbeats 4000000
/-! The law's own defs (4): roots, a moving. -/
namespace Rl
open PySem PySem.Spec PyProof.Rows L2 NdefX LamX Tow
theorem divInt_ne {a b : Int} (h : a ≠ 0) (hb : b ≠ 0) : Rat.divInt a b ≠ 0 := by
  intro e
  have e0 : (0 : Rat) = Rat.divInt 0 1 := by rfl
  rw [e0, Rat.divInt_eq_divInt_iff hb (by decide)] at e
  omega
theorem bits_intCast {z : Int} {n : Nat} (h : z.natAbs < 2 ^ n) (h0 : 0 < n) : bits (z : Rat) ≤ n := bits_of (by simpa using h) (by
  rw [Rat.den_intCast]
  exact Nat.one_lt_two_pow (by omega))
theorem lfb {G : Ctx} {i : Nat} (h : ∀ R, some R ∈ G.set i none → R.Lf) : LfBut G i := fun j R hj q => h R (by
  refine List.mem_of_getElem? (i := j) ?_
  rw [List.getElem?_set_ne (Ne.symm hj)]
  exact q)
section
variable {P : Program} {w : World} {K : PySem.W.Frag} {mg : Str → Option Value} {base : Heap} {Tb : List NTab} {c : Cl} {n k : Nat} {p ca mi be tca tmi tbe : Addr}
/-! a cell of the script -/
def IntX : Rp := ExR fun i : Int => IntR i
theorem g_cell (L : NL K mg) : GFn P w K mg base Tb "_law_cell_at" 1 [] (fun Rs R => ∃ ns : List Int, Rs = [ListR K (ns.map IntR), IntR 0] ∧ R = IntX) := by
  refine gfn_mk (k := 0) L.cell_at sc__law_cell_at (bnd2 (fun _ _ _ _ _ _ _ _ => rfl) rfl) (fun Rs R ⟨_, e, _⟩ => by rw [e]; rfl) ?_
  rintro _ _ ⟨ns, rfl, rfl⟩ f cdv A outer s H E hr
  have hl : HasT (cxOf CX0 P w K mg base n__law_cell_at "_law_cell_at" (defScope s__law_cell_at) f cdv A outer s H E).nox Tb (ctx0 n__law_cell_at [ListR K (ns.map IntR), IntR 0]) (match (defBody s__law_cell_at).getD 0 (.Pass ⟨0,0,0,0⟩) with | .If c _ _ _ => c | _ => .Constant .none 0 ⟨0,0,0,0⟩) (decide ((0 : Int) < ((ns.map IntR).length : Int))) := ht_lt (he_var 1 rfl) (he_len (he_var 0 rfl) L.len)
  cases ns with
  | nil =>
    refine rs_cons (np_skip hl) (rs_one (rp_ret ((he_add (he_mulX he_int (he_var 1 rfl) (by unfold CMulX; decide)) he_int).sub (ExR.le (f := fun i : Int => IntR i) _))))
  | cons z zs =>
    have e : decide ((0 : Int) < (((z :: zs).map IntR).length : Int)) = true := decide_eq_true (by simp)
    rw [e] at hl
    exact rs_stop (rp_ifT hl (rs_one (rp_ret ((he_ixL (he_var 0 rfl) (he_var 1 rfl) (R := IntR z) (by rw [atI_in (by decide) (by simp)]; rfl)).sub (ExR.le (f := fun i : Int => IntR i) z)))))
/-! scaled -/
def SScl (c : Cl) : List Rp → Rp → Prop := fun Rs R => ∃ (a : Int) (q : Rat), Rs = [IntR a, NumR c .base q] ∧ bits q ≤ 10 ∧ R = ExR fun s : { s : Rat // s ≠ 0 ∧ bits s ≤ 2 } => NumR c .base (q * s.1 * s.1)
theorem g_scaled (Gg : Gd P base) (N : NT K mg c) (L : NL K mg) (O : NOk P w K mg base Tb c n k) (hk : 36 ≤ k) : GFn P w K mg base Tb "_law_scaled" (k + 1) [] (SScl c) := by
  refine gfn_mk L.scaled sc__law_scaled (bnd2 (fun _ _ _ _ _ _ _ _ => rfl) rfl) (fun Rs R ⟨_, _, e, _⟩ => by rw [e]; rfl) ?_
  rintro _ _ ⟨a, q, rfl, hq, rfl⟩ f cdv A outer s0 H E hr
  have r1 := hr.mono (show 1 ≤ k by omega)
  have q1 := Int.emod_nonneg (mixI a 1) (show (3 : Int) ≠ 0 by decide)
  have q1' := Int.emod_lt_of_pos (mixI a 1) (show (0 : Int) < 3 by decide)
  have q2 := Int.emod_nonneg (mixI a 2) (show (3 : Int) ≠ 0 by decide)
  have q2' := Int.emod_lt_of_pos (mixI a 2) (show (0 : Int) < 3 by decide)
  have hs : bits (Rat.divInt (1 + mixI a 1 % 3) (1 + mixI a 2 % 3)) ≤ 2 := bits_divInt (by omega) (by omega) (by omega)
  have hs0 := divInt_ne (a := 1 + mixI a 1 % 3) (b := 1 + mixI a 2 % 3) (by omega) (by omega)
  refine rs_cons (np_set 2 (h_frac Gg N (hr.mono hk) (by omega) (he_add he_int (he_mod (h_mix L r1 (by decide) (he_var 0 rfl) he_int) he_int (by decide))) (he_add he_int (he_mod (h_mix L r1 (by decide) (he_var 0 rfl) he_int) he_int (by decide)))) sc__law_scaled.nd) ?_
  have hm : bits (q * Rat.divInt (1 + mixI a 1 % 3) (1 + mixI a 2 % 3)) ≤ 12 := bits_mul hq hs
  refine rs_one (rp_ret ((h_mul O hr (Nat.zero_le _) ?_ (h_mul O hr (Nat.zero_le _) ?_ (he_var 1 rfl) (he_var 2 rfl)) (he_var 2 rfl)).sub (ExR.le (f := fun s : { s : Rat // s ≠ 0 ∧ bits s ≤ 2 } => NumR c .base (q * s.1 * s.1)) ⟨_, hs0, hs⟩)))
  · exact CMul.of (t := .base) (z := 0) trivial hm hs (by decide)
  · exact CMul.of (t := .base) (z := 0) trivial hq hs (by decide)
/-! the floor of a root -/
def flTst (s : Int × Int) : Bool := decide (1 < s.2 - s.1)
def flNxt (n : Int) (s : Int × Int) : Int × Int := if n < ((s.1 + s.2) / 2) * ((s.1 + s.2) / 2) then (s.1, (s.1 + s.2) / 2) else ((s.1 + s.2) / 2, s.2)
def flInv (n : Int) (s : Int × Int) : Prop := 0 ≤ s.1 ∧ s.1 < s.2 ∧ s.2 ≤ n + 1 ∧ s.1 * s.1 ≤ n ∧ n < s.2 * s.2
theorem fl_step {n : Int} (s : Int × Int) (hi : flInv n s) (ht : flTst s = true) : flInv n (flNxt n s) ∧ (flNxt n s).2.toNat - (flNxt n s).1.toNat < s.2.toNat - s.1.toNat := by
  obtain ⟨h1, h2, h3, h4, h5⟩ := hi
  have ht := of_decide_eq_true ht
  unfold flNxt
  split
  · rename_i h
    exact ⟨⟨h1, by show s.1 < _; omega, by show (s.1 + s.2) / 2 ≤ _; omega, h4, h⟩, by show ((s.1 + s.2) / 2).toNat - s.1.toNat < _; omega⟩
  · rename_i h
    exact ⟨⟨by show 0 ≤ (s.1 + s.2) / 2; omega, by show (s.1 + s.2) / 2 < s.2; omega, h3, by show ((s.1 + s.2) / 2) * ((s.1 + s.2) / 2) ≤ n; omega, h5⟩, by show s.2.toNat - ((s.1 + s.2) / 2).toNat < _; omega⟩
def SFlr : List Rp → Rp → Prop := fun Rs R => ∃ a : Int, Rs = [IntR a] ∧ 0 ≤ a ∧ a < 2 ^ 60 ∧ R = ExR fun f : { f : Int // 0 ≤ f ∧ f * f ≤ a ∧ a < (f + 1) * (f + 1) } => IntR f.1
theorem g_floor (L : NL K mg) : GFn P w K mg base Tb "_law_floor" 1 [] SFlr := by
  refine gfn_mk (k := 0) L.floor sc__law_floor (bnd1 (fun _ _ _ _ _ _ _ => rfl) rfl) (fun Rs R ⟨_, e, _⟩ => by rw [e]; rfl) ?_
  rintro _ _ ⟨a, rfl, h0, h1, rfl⟩ f cdv A outer s0 H E hr
  have hnd := sc__law_floor.nd
  have i0 : flInv a (0, a + 1) := ⟨Int.le_refl _, by show (0 : Int) < a + 1; omega, Int.le_refl _, by show (0 : Int) * 0 ≤ a; omega, by
    show a < (a + 1) * (a + 1)
    have : 0 ≤ a * a := Int.mul_nonneg h0 h0
    have e : (a + 1) * (a + 1) = a * a + 2 * a + 1 := by grind
    omega⟩
  obtain ⟨b, g, ib, tb⟩ := Goes'.total (tst := flTst) (nxt := flNxt a) (flInv a) (fun s => s.2.toNat - s.1.toNat) fl_step _ (0, a + 1) (Nat.le_refl _) i0
  refine rs_cons (np_set 1 he_int hnd) (rs_cons (np_set 2 (he_add (he_var 0 rfl) he_int) hnd) (rs_cons (np_while (Gs := fun s : Int × Int => [some (IntR a), some (IntR s.1), some (IntR s.2), none]) (flInv a) (fun s => s.2.toNat - s.1.toNat) (a0 := (0, a + 1)) (a1 := b) i0 g (fun s _ => ht_gt (he_subI (he_var 2 rfl) (he_var 1 rfl)) he_int) ?_ PassesOwn.never) (rs_one (rp_ret ?_))))
  · intro s hi ht
    obtain ⟨q1, q2⟩ := fl_step s hi ht
    refine ⟨q1, q2, ?_⟩
    obtain ⟨j1, j2, j3, j4, j5⟩ := hi
    have hm : ((s.1 + s.2) / 2).natAbs < 2 ^ 61 := by omega
    have cm2 : CMulX ((s.1 + s.2) / 2) ((s.1 + s.2) / 2) := cm hm hm (by decide) (by decide) (by decide)
    refine ns_weak (G' := [some (IntR a), some (IntR (flNxt a s).1), some (IntR (flNxt a s).2), some (IntR ((s.1 + s.2) / 2))]) (ns_cons (np_set 3 (he_fdivS (he_add (he_var 1 rfl) (he_var 2 rfl)) he_int ⟨by decide, by decide⟩) hnd) (ns_one ?_)) rfl ?_
    · by_cases h : a < ((s.1 + s.2) / 2) * ((s.1 + s.2) / 2)
      · have e : flNxt a s = (s.1, (s.1 + s.2) / 2) := if_pos h
        rw [e]
        exact np_ifT ((ht_gt (he_mulX (he_var 3 rfl) (he_var 3 rfl) cm2) (he_var 0 rfl)).eq (decide_eq_true h)) (ns_one (np_set 2 (he_var 3 rfl) hnd))
      · have e : flNxt a s = ((s.1 + s.2) / 2, s.2) := if_neg h
        rw [e]
        exact np_ifF ((ht_gt (he_mulX (he_var 3 rfl) (he_var 3 rfl) cm2) (he_var 0 rfl)).eq (decide_eq_false h)) (ns_one (np_set 1 (he_var 3 rfl) hnd))
    · intro i R q
      match i, q with
      | 0, q => exact ⟨_, q, Rp.le_refl _⟩
      | 1, q => exact ⟨_, q, Rp.le_refl _⟩
      | 2, q => exact ⟨_, q, Rp.le_refl _⟩
      | 3, q => simp at q
      | j + 4, q => simp at q
  · obtain ⟨j1, j2, j3, j4, j5⟩ := ib
    have tb := of_decide_eq_false tb
    have e : b.2 = b.1 + 1 := by omega
    exact (he_var 1 rfl).sub (ExR.le (f := fun f : { f : Int // 0 ≤ f ∧ f * f ≤ a ∧ a < (f + 1) * (f + 1) } => IntR f.1) ⟨b.1, j1, j4, by rw [← e]; exact j5⟩)
end
end Rl

set_option Elab.async false
set_option linter.all false
set_option maxRecDepth 100000
set_option maxHeartbeats 4000000
/-! The law's own defs (5): the roots. -/
namespace Rl
open PySem PySem.Spec PyProof.Rows L2 NdefX LamX Tow
structure AnyTow (n : Nat) : Type 1 where
  L : OF
  t : Tow L
  ht : t.ht ≤ n
  sm : t.Sm 70
def TowX (c : Cl) (n : Nat) : Rp := ExR fun τ : AnyTow n => LstR (rootsL c τ.t)
theorem towX0 (c : Cl) (n : Nat) : (LstR []).le (TowX c n) := ExR.le (f := fun τ : AnyTow n => LstR (rootsL c τ.t)) ⟨_, .base, Nat.zero_le _, trivial⟩
theorem towX1 (c : Cl) {n : Nat} (hn : 1 ≤ n) {s : Rat} (h : NSq s) (hs : bits s ≤ 70) : (LstR [RootR c .base s]).le (TowX c n) :=
  ExR.le (f := fun τ : AnyTow n => LstR (rootsL c τ.t)) ⟨_, .ext .base s h, hn, trivial, hs⟩
section
variable {P : Program} {w : World} {K : PySem.W.Frag} {mg : Str → Option Value} {base : Heap} {Tb : List NTab} {c : Cl} {n k : Nat} {p ca mi be tca tmi tbe : Addr}
theorem rootR_lf (c : Cl) (s : Rat) : (RootR c .base s).Lf := lf_obj fun q hq => by
  simp at hq
  rcases hq with rfl | rfl
  · exact lf_is _
  · exact numR_lf c .base s
def SChn (c : Cl) (n : Nat) : List Rp → Rp → Prop := fun Rs R => ∃ (a m : Int), Rs = [IntR a, IntR m] ∧ (m = 0 ∨ m = 1) ∧ R = TowX c n
theorem g_chain (Gg : Gd P base) (N : NT K mg c) (L : NL K mg) (hn : 1 ≤ n) : GFn P w K mg base Tb "_law_chain" 37 [] (SChn c n) := by
  refine gfn_mk (k := 36) L.chain sc__law_chain (bnd2 (fun _ _ _ _ _ _ _ _ => rfl) rfl) (fun Rs R ⟨_, _, e, _⟩ => by rw [e]; rfl) ?_
  rintro _ _ ⟨a, m, rfl, hm, rfl⟩ f cdv A outer s0 H E hr
  have r1 := hr.mono (show 1 ≤ 36 by decide)
  have r2 := hr.mono (show 2 ≤ 36 by decide)
  have hnd := sc__law_chain.nd
  have p9 : CPow 10 9 := by first | decide | exact ⟨by decide, by decide⟩ | (unfold CPow; decide)
  have q6 := Int.emod_nonneg (mixI a 4) (show (3 : Int) ≠ 0 by decide)
  have q6' := Int.emod_lt_of_pos (mixI a 4) (show (0 : Int) < 3 by decide)
  obtain ⟨M, hM0, hM1, hat⟩ : ∃ M : Int, 0 < M ∧ M ≤ 1000000000 ∧ atI [IntR 3, IntR 40, IntR 1000000000] (mixI a 4 % 3) = some (IntR M) := by
    rcases at3 (A := IntR 3) (B := IntR 40) (C := IntR 1000000000) q6 q6' with ⟨_, e⟩ | ⟨_, e⟩ | ⟨_, e⟩
    · exact ⟨_, by decide, by decide, e⟩
    · exact ⟨_, by decide, by decide, e⟩
    · exact ⟨_, by decide, by decide, e⟩
  have d1 := Int.emod_nonneg (mixI a 3) (show M ≠ 0 by omega)
  have d2 := Int.emod_lt_of_pos (mixI a 3) hM0
  have hm1 : decide ((1 : Int) < m) = false := decide_eq_false (by omega)
  -- the floor
  refine rs_cons (np_set 2 (he_add he_int (he_mod (h_mix L r1 (by decide) (he_var 0 rfl) he_int) (he_ixL (he_lst (ha_cons he_int (ha_cons he_int (ha_cons (he_ixL (he_lst (ha_cons (he_pow he_int he_int p9) (ha_cons he_int ha_nil))) (he_eq (he_intB (he_gt (he_var 1 rfl) he_int) N.int) (by rw [hm1])) (R := IntR 1000000000) rfl) ha_nil)))) (he_mod (h_mix L r1 (by decide) (he_var 0 rfl) he_int) he_int (by decide)) hat) hM0)) hnd) ?_
  have hF0 : 1 ≤ 1 + mixI a 3 % M := by omega
  have hF1 : 1 + mixI a 3 % M ≤ 1000000000 := by omega
  generalize 1 + mixI a 3 % M = F at *
  have hFa : F.natAbs < 2 ^ 30 := by omega
  have hFF : (F * F).natAbs < 2 ^ 60 := by rw [Int.natAbs_mul]; exact mul_lt_pow hFa hFa
  have hFF0 : 0 ≤ F * F := Int.mul_nonneg (by omega) (by omega)
  have g1 := Int.emod_nonneg (mixI a 5) (show 2 * F ≠ 0 by omega)
  have g2 := Int.emod_lt_of_pos (mixI a 5) (show 0 < 2 * F by omega)
  have eF : (F + 1) * (F + 1) = F * F + 2 * F + 1 := by grind
  -- its square
  refine rs_cons (np_set 3 (h_frac1 Gg N hr (he_add (he_add (he_mulX (he_var 2 rfl) (he_var 2 rfl) (cm hFa hFa (by decide) (by decide) (by decide))) he_int) (he_mod (h_mix L r1 (by decide) (he_var 0 rfl) he_int) (he_mulX he_int (he_var 2 rfl) (cm (n := 2) (by decide) hFa (by decide) (by decide) (by decide))) (by omega)))) hnd) ?_
  have hS0 : F * F < F * F + 1 + mixI a 5 % (2 * F) := by omega
  have hS1 : F * F + 1 + mixI a 5 % (2 * F) < (F + 1) * (F + 1) := by omega
  have hSa : (F * F + 1 + mixI a 5 % (2 * F)).natAbs < 2 ^ 62 := by omega
  have hsq : NSq ((F * F + 1 + mixI a 5 % (2 * F) : Int) : Rat) := nsq_int (by omega) hS0 hS1
  have hsb : bits ((F * F + 1 + mixI a 5 % (2 * F) : Int) : Rat) ≤ 70 := Nat.le_trans (bits_intCast hSa (by decide)) (by decide)
  generalize ((F * F + 1 + mixI a 5 % (2 * F) : Int) : Rat) = sq at *
  refine rs_own 4 hnd fun D => ?_
  rcases hm with rfl | rfl
  · refine rm_cons (mp_range (n := 0) (fun _ => [some (IntR a), some (IntR 0), some (IntR F), some (NumR c .base sq), some (LstD D []), none, none]) (he_var 1 rfl) L.range rfl (by decide) (tg_name 5 hnd) (fun i hi => absurd hi (Nat.not_lt_zero i)) PassesOwn.never) ?_
    exact rm_of (rs_one (rp_ret ((he_var 4 rfl).sub (fun v H h => towX0 c n v H (LstD.le v H h)))))
  · refine rm_cons (mp_range (n := 1) (fun i => if i = 0 then [some (IntR a), some (IntR 1), some (IntR F), some (NumR c .base sq), some (LstD D []), none, none] else [some (IntR a), some (IntR 1), none, none, some (LstD D [RootR c .base sq]), none, none]) (he_var 1 rfl) L.range rfl (by decide) (tg_name 5 hnd) (fun i hi => ?_) PassesOwn.never) ?_
    · obtain rfl : i = 0 := by omega
      refine ⟨_, rfl, ?_⟩
      have lf : LfBut [some (IntR a), some (IntR 1), some (IntR F), some (NumR c .base sq), some (LstD D []), some (IntR (0 + ((0 : Nat) : Int))), none] 4 := lfb fun R hR => by
        simp at hR
        rcases hR with rfl | rfl | rfl | rfl | rfl
        · exact lf_is _
        · exact lf_is _
        · exact lf_is _
        · exact numR_lf c .base sq
        · exact lf_is _
      have more0 := Int.emod_nonneg (mixI a (10 + (0 + ((0 : Nat) : Int)))) (show F + 1 ≠ 0 by omega)
      have more1 := Int.emod_lt_of_pos (mixI a (10 + (0 + ((0 : Nat) : Int)))) (show 0 < F + 1 by omega)
      refine nm_weak (G' := [some (IntR a), some (IntR 1), some (ExR fun f : { f : Int // 0 ≤ f ∧ f * f ≤ F + mixI a (10 + (0 + ((0 : Nat) : Int))) % (F + 1) ∧ F + mixI a (10 + (0 + ((0 : Nat) : Int))) % (F + 1) < (f + 1) * (f + 1) } => IntR f.1), some (NumR c (.ext .base sq hsq) (⟨((mixI a (10 + (0 + ((0 : Nat) : Int))) % (F + 1) : Int) : Rat), ((1 : Int) : Rat)⟩ : Quad Rat sq)), some (LstD D [RootR c .base sq]), some (IntR (0 + ((0 : Nat) : Int))), some (IntR (mixI a (10 + (0 + ((0 : Nat) : Int))) % (F + 1)))])
        (nm_cons (mp_append 4 (R := RootR c .base sq) rfl lf (he_eq (he_make (c_root N) r2 (ha_cons (he_var 5 rfl) (ha_cons (he_var 3 rfl) ha_nil)) ⟨rfl, rfl⟩) rfl) (rootR_lf c sq) (fun _ h => by cases h) (by decide)) ?_) rfl ?_
      · refine nm_cons (mp_of (np_set 6 (he_mod (h_mix L r1 (by decide) (he_var 0 rfl) (he_add he_int (he_var 5 rfl))) (he_add (he_var 2 rfl) he_int) (by omega)) hnd)) ?_
        refine nm_cons (mp_of (np_set 3 (h_mkMix N r2 (t := .base) (s := sq) (h := hsq) (show ((1 : Int) : Rat) ≠ 0 by decide) (h_frac1 Gg N hr (he_var 6 rfl)) (h_frac1 Gg N hr he_int) (he_ixL (i := -1) ((he_var 4 rfl).sub (fun v H h => LstR.le v H (LstD.le v H h))) (he_neg he_int) (R := RootR c .base sq) rfl)) hnd)) ?_
        exact nm_one (mp_of (np_set 2 (he_call (g_floor L) r1 (ha_cons (he_add (he_var 2 rfl) (he_var 6 rfl)) ha_nil) ⟨_, rfl, by omega, by omega, rfl⟩) hnd))
      · intro i R q
        match i, q with
        | 0, q => exact ⟨_, q, Rp.le_refl _⟩
        | 1, q => exact ⟨_, q, Rp.le_refl _⟩
        | 2, q => simp at q
        | 3, q => simp at q
        | 4, q => exact ⟨_, q, Rp.le_refl _⟩
        | 5, q => simp at q
        | 6, q => simp at q
        | j + 7, q => simp at q
    · exact rm_of (rs_one (rp_ret ((he_var (R := LstD D [RootR c .base sq]) 4 rfl).sub (fun v H h => towX1 c hn hsq hsb v H (LstD.le v H h)))))
theorem at7 {i : Int} (h0 : 0 ≤ i) (h1 : i < 7) : ∃ (q f : Int), atI [IntR 2, IntR 3, IntR 5, IntR 7, IntR 11, IntR 13, IntR 101] i = some (IntR q) ∧ 0 ≤ f ∧ f * f < q ∧ q < (f + 1) * (f + 1) ∧ q.natAbs < 2 ^ 7 := by
  have : i = 0 ∨ i = 1 ∨ i = 2 ∨ i = 3 ∨ i = 4 ∨ i = 5 ∨ i = 6 := by omega
  rcases this with rfl | rfl | rfl | rfl | rfl | rfl | rfl
  · exact ⟨2, 1, rfl, by decide, by decide, by decide, by decide⟩
  · exact ⟨3, 1, rfl, by decide, by decide, by decide, by decide⟩
  · exact ⟨5, 2, rfl, by decide, by decide, by decide, by decide⟩
  · exact ⟨7, 2, rfl, by decide, by decide, by decide, by decide⟩
  · exact ⟨11, 3, rfl, by decide, by decide, by decide, by decide⟩
  · exact ⟨13, 3, rfl, by decide, by decide, by decide, by decide⟩
  · exact ⟨101, 10, rfl, by decide, by decide, by decide, by decide⟩
theorem g_roots (Gg : Gd P base) (N : NT K mg c) (L : NL K mg) (O : NOk P w K mg base Tb c n k) (hk : 40 ≤ k) (hn : 1 ≤ n) : GFn P w K mg base Tb "_law_roots" (k + 2) [] (SChn c n) := by
  refine gfn_mk (k := k + 1) L.roots sc__law_roots (bnd2 (fun _ _ _ _ _ _ _ _ => rfl) rfl) (fun Rs R ⟨_, _, e, _⟩ => by rw [e]; rfl) ?_
  rintro _ _ ⟨a, m, rfl, hm, rfl⟩ f cdv A outer s0 H E hr
  have r1 := hr.mono (show 1 ≤ k + 1 by omega)
  have r2 := hr.mono (show 2 ≤ k + 1 by omega)
  have r37 := hr.mono (show 37 ≤ k + 1 by omega)
  have r36 := hr.mono (show 36 ≤ k + 1 by omega)
  have hnd := sc__law_roots.nd
  by_cases h0 : mixI a 1 % 2 = 0
  · refine rs_stop (rp_ifT ((HasW.t (hw_and (ht_eqS (he_mod (h_mix L r1 (by decide) (he_var 0 rfl) he_int) he_int (by decide)) he_int) fun _ => hw_and1 (ht_lt (he_var 1 rfl) he_int))).eq ?_) (rs_one (rp_ret (he_call (g_chain Gg N L hn) r37 (ha_cons (he_var 0 rfl) (ha_cons (he_var 1 rfl) ha_nil)) ⟨_, _, rfl, hm, rfl⟩))))
    rw [decide_eq_true (by rw [h0]), decide_eq_true (by omega)]; rfl
  · refine rs_cons (np_skip ((HasW.t (hw_and (l := decide (m < 4)) (ht_eqS (he_mod (h_mix L r1 (by decide) (he_var 0 rfl) he_int) he_int (by decide)) he_int) fun _ => hw_and1 (ht_lt (he_var 1 rfl) he_int))).eq (by rw [decide_eq_false (by intro z; injection z with z; exact h0 z)]; rfl))) ?_
    refine rs_cons (np_set 2 (he_lst (ha_cons he_int (ha_cons he_int (ha_cons he_int (ha_cons he_int (ha_cons he_int (ha_cons he_int (ha_cons he_int ha_nil)))))))) hnd) ?_
    refine rs_cons (np_set 3 (he_mod (h_mix L r1 (by decide) (he_var 0 rfl) he_int) he_int (by decide)) hnd) ?_
    have p0 := Int.emod_nonneg (mixI a 2) (show (7 : Int) ≠ 0 by decide)
    have p1 := Int.emod_lt_of_pos (mixI a 2) (show (0 : Int) < 7 by decide)
    generalize hat0 : mixI a 2 % 7 = at0 at *
    refine rs_own 4 hnd fun D => ?_
    rcases hm with rfl | rfl
    · refine rm_cons (mp_range (n := 0) (fun _ => [some (IntR a), some (IntR 0), some (ListR K [IntR 2, IntR 3, IntR 5, IntR 7, IntR 11, IntR 13, IntR 101]), some (IntR at0), some (LstD D []), none, none]) (he_var 1 rfl) L.range rfl (by decide) (tg_name 5 hnd) (fun i hi => absurd hi (Nat.not_lt_zero i)) PassesOwn.never) ?_
      exact rm_of (rs_one (rp_ret ((he_var 4 rfl).sub (fun v H h => towX0 c n v H (LstD.le v H h)))))
    · have w0 := Int.emod_nonneg (at0 + 3 * (0 + ((0 : Nat) : Int))) (show (7 : Int) ≠ 0 by decide)
      have w1 := Int.emod_lt_of_pos (at0 + 3 * (0 + ((0 : Nat) : Int))) (show (0 : Int) < 7 by decide)
      obtain ⟨q, fl, hq, f0, f1, f2, hqb⟩ := at7 w0 w1
      have hsq : NSq ((q : Int) : Rat) := nsq_int f0 f1 f2
      have hqb' : bits ((q : Int) : Rat) ≤ 10 := Nat.le_trans (bits_intCast hqb (by decide)) (by decide)
      let RX : Rp := ExR fun s : { s : Rat // s ≠ 0 ∧ bits s ≤ 2 } => RootR c .base (((q : Int) : Rat) * s.1 * s.1)
      have RXl : RX.Lf := lf_ex fun s => rootR_lf c _
      refine rm_cons (mp_range (n := 1) (fun i => if i = 0 then [some (IntR a), some (IntR 1), some (ListR K [IntR 2, IntR 3, IntR 5, IntR 7, IntR 11, IntR 13, IntR 101]), some (IntR at0), some (LstD D []), none, none] else [some (IntR a), some (IntR 1), none, none, some (LstD D [RX]), none, none]) (he_var 1 rfl) L.range rfl (by decide) (tg_name 5 hnd) (fun i hi => ?_) PassesOwn.never) ?_
      · obtain rfl : i = 0 := by omega
        refine ⟨_, rfl, ?_⟩
        refine nm_cons (mp_of (np_set 6 (h_frac1 Gg N r36 (he_ixL (he_var 2 rfl) (he_mod (he_add (he_var 3 rfl) (he_mulX he_int (he_var 5 rfl) (by unfold CMulX; decide))) he_int (by decide)) hq)) hnd)) ?_
        refine nm_pre (G0 := [some (IntR a), some (IntR 1), none, none, some (LstD D []), some (IntR (0 + ((0 : Nat) : Int))), some (NumR c .base ((q : Int) : Rat))]) ?_ rfl ?_
        · have lf : LfBut [some (IntR a), some (IntR 1), none, none, some (LstD D []), some (IntR (0 + ((0 : Nat) : Int))), some (NumR c .base ((q : Int) : Rat))] 4 := lfb fun R hR => by
            simp at hR
            rcases hR with rfl | rfl | rfl | rfl
            · exact lf_is _
            · exact lf_is _
            · exact lf_is _
            · exact numR_lf c .base _
          refine nm_weak (nm_one (mp_append 4 (R := RX) rfl lf (he_makeX (c_root N) r2 (ha_cons (he_var 5 rfl) (ha_cons (he_call (g_scaled Gg N L O (by omega)) hr (ha_cons (h_mix L r1 (by decide) (he_var 0 rfl) (he_add he_int (he_var 5 rfl))) (ha_cons (he_var 6 rfl) ha_nil)) ⟨_, _, rfl, hqb', rfl⟩) ha_nil)) ?_) RXl (fun _ h => by cases h) (by decide))) rfl ?_
          · intro vs Hh hh
            obtain ⟨v, u, rfl, h1, s, h2⟩ := holds2 hh
            exact ⟨[IntR (0 + ((0 : Nat) : Int)), NumR c .base (((q : Int) : Rat) * s.1 * s.1)], _, ⟨h1, h2, trivial⟩, ⟨rfl, rfl⟩, ExR.le (f := fun s : { s : Rat // s ≠ 0 ∧ bits s ≤ 2 } => RootR c .base (((q : Int) : Rat) * s.1 * s.1)) s⟩
          · intro i R qq
            match i, qq with
            | 0, q => exact ⟨_, q, Rp.le_refl _⟩
            | 1, q => exact ⟨_, q, Rp.le_refl _⟩
            | 2, q => simp at q
            | 3, q => simp at q
            | 4, q => exact ⟨_, q, Rp.le_refl _⟩
            | 5, q => simp at q
            | 6, q => simp at q
            | j + 7, q => simp at q
        · intro i R qq
          match i, qq with
          | 0, q => exact ⟨_, q, Rp.le_refl _⟩
          | 1, q => exact ⟨_, q, Rp.le_refl _⟩
          | 2, q => simp at q
          | 3, q => simp at q
          | 4, q => exact ⟨_, q, Rp.le_refl _⟩
          | 5, q => exact ⟨_, q, Rp.le_refl _⟩
          | 6, q => exact ⟨_, q, Rp.le_refl _⟩
          | j + 7, q => simp at q
      · refine rm_of (rs_one (rp_ret ((he_var (R := LstD D [RX]) 4 rfl).sub (fun v H h => ?_))))
        obtain ⟨p, xs, e1, e2, hh⟩ := LstD.le v H h
        obtain ⟨u, rfl, s, hs⟩ := holds1 hh
        refine towX1 c hn (nsq_scale hsq s.2.1) ?_ v H ⟨p, [u], e1, e2, hs, trivial⟩
        exact Nat.le_trans (bits_mul (bits_mul hqb' s.2.2) s.2.2) (by decide)
end
end Rl

set_option Elab.async false
set_option linter.all false
set_option maxRecDepth 100000
set_option maxHeartbeats 4000000
/-! The law's own defs (6): a moving, the example by hand. -/
namespace Rl
open PySem PySem.Spec PyProof.Rows L2 NdefX LamX Tow
section
variable {P : Program} {w : World} {K : PySem.W.Frag} {mg : Str → Option Value} {base : Heap} {c : Cl} {n k : Nat} {p ca mi be tca tmi tbe : Addr}
structure NL2 (K : PySem.W.Frag) (mg : Str → Option Value) : Prop where
  moving : TFn K mg "_law_moving" s__law_moving []
  by_hand : TFn K mg "_law_by_hand" s__law_by_hand []
  enumerate : mg "enumerate" = none
def wayI (kk : Bool) : Int := if kk then 1 else 0
def SMvg (c : Cl) (p : Addr) (n : Nat) : List Rp → Rp → Prop := fun Rs R => ∃ (L : OF) (t : Tow L) (ax ay bx by' cx cy dx dy : L.C) (z A : Nat) (kk back : Bool), t.ht ≤ n ∧ t.Sm z ∧ Sz4 t z A ax ay bx by' ∧ Sz4 t z A cx cy dx dy ∧ wE t.ht z A ≤ Bg ∧ ¬ (ax = bx ∧ ay = by') ∧ ¬ (cx = dx ∧ cy = dy) ∧
  Rs = [IntR (wayI kk), LstR [PtR c p t ax ay, PtR c p t bx by', PtR c p t cx cy, PtR c p t dx dy], BoolR back] ∧ R = MovR c p kk t (if back then mkMv kk cx cy dx dy ax ay bx by' else mkMv kk ax ay bx by' cx cy dx dy)
theorem g_moving (N : NT K mg c) (V : NV K mg p ca mi be) (B : NB base mg ca mi be tca tmi tbe) (M : NL2 K mg) (O : NOk P w K mg base (tabs3 tca tmi tbe) c n k) (hn : n ≤ 60) : GFn P w K mg base (tabs3 tca tmi tbe) "_law_moving" (k + 5) [] (SMvg c p n) := by
  refine gfn_mk (k := k + 4) M.moving sc__law_moving (bnd3 (fun _ _ _ _ _ _ _ _ _ => rfl) rfl) (fun Rs R ⟨_, _, _, _, _, _, _, _, _, _, _, _, _, _, _, _, _, _, _, _, _, e, _⟩ => by rw [e]; rfl) ?_
  rintro _ _ ⟨L', t, ax, ay, bx, by', cx, cy, dx, dy, z, A, kk, back, ht, hz, s1, s2, hB, n1, n2, rfl, rfl⟩ f cdv Ar outer s0 H E hr
  have hnd := sc__law_moving.nd
  refine rs_cons (np_unl (p3 := ⟨0, 0, 0, 0⟩) ((he_var 1 rfl).sub LstR.le) (hg_cons 3 (hg_cons 4 (hg_cons 5 (hg_cons 6 hg_nil hnd) hnd) hnd) hnd) rfl) ?_
  have gc := g_carrying (P := P) (w := w) N V B O hn
  have gm := g_mirroring (P := P) (w := w) N V B O hn
  have key : ∀ (kk back : Bool) (ax ay bx by' cx cy dx dy : L'.C) {G1 : Option Rp}, Sz4 t z A ax ay bx by' → Sz4 t z A cx cy dx dy → ¬ (ax = bx ∧ ay = by') → ¬ (cx = dx ∧ cy = dy) →
      RetS (cxOf CX0 P w K mg base n__law_moving "_law_moving" (defScope s__law_moving) f cdv Ar outer s0 H E).nox (tabs3 tca tmi tbe) [some (IntR (wayI kk)), G1, some (BoolR back), some (PtR c p t ax ay), some (PtR c p t bx by'), some (PtR c p t cx cy), some (PtR c p t dx dy)] ((defBody s__law_moving).drop 2) (MovR c p kk t (mkMv kk ax ay bx by' cx cy dx dy)) := by
    intro kk back ax ay bx by' cx cy dx dy G1 s1 s2 n1 n2
    cases kk with
    | false => exact rs_stop (rp_ifT ((ht_eqS (he_var 0 rfl) he_int).eq (decide_eq_true rfl)) (rs_one (rp_ret (he_call gc hr (ha_cons (he_var 3 rfl) (ha_cons (he_var 4 rfl) (ha_cons (he_var 5 rfl) (ha_cons (he_var 6 rfl) ha_nil)))) ⟨L', t, ax, ay, bx, by', cx, cy, dx, dy, z, A, ht, hz, s1, s2, hB, n1, n2, rfl, rfl⟩))))
    | true => exact rs_cons (np_skip ((ht_eqS (he_var 0 rfl) he_int).eq (decide_eq_false (fun z => by injection z with z; exact absurd z (by decide))))) (rs_one (rp_ret (he_call gm hr (ha_cons (he_var 3 rfl) (ha_cons (he_var 4 rfl) (ha_cons (he_var 5 rfl) (ha_cons (he_var 6 rfl) ha_nil)))) ⟨L', t, ax, ay, bx, by', cx, cy, dx, dy, z, A, ht, hz, s1, s2, hB, n1, n2, rfl, rfl⟩)))
  cases back with
  | false => exact rs_cons (np_skip (ht_val (he_var 2 rfl))) (key kk false ax ay bx by' cx cy dx dy s1 s2 n1 n2)
  | true =>
    refine rs_cons (np_ifT (ht_val (he_var 2 rfl)) (ns_one (np_tup (p3 := ⟨0, 0, 0, 0⟩) (he_tup (ha_cons (he_var 5 rfl) (ha_cons (he_var 6 rfl) (ha_cons (he_var 3 rfl) (ha_cons (he_var 4 rfl) ha_nil))))) (hg_cons 3 (hg_cons 4 (hg_cons 5 (hg_cons 6 hg_nil hnd) hnd) hnd) hnd) rfl))) ?_
    exact key kk true cx cy dx dy ax ay bx by' s2 s1 n2 n1
end
end Rl

set_option Elab.async false
set_option linter.all false
set_option maxRecDepth 100000
set_option maxHeartbeats 4000000
/-! The law's own defs (7): the example by hand. -/
namespace Rl
open PySem PySem.Spec PyProof.Rows L2 NdefX LamX Tow
def retVal : Stmt → Expr
  | .Return (some (.Compare a _ _ _)) _ => a
  | _ => .Constant .none 0 ⟨0, 0, 0, 0⟩
abbrev sc_lcSpots : Scope := lcScope (asgVal ((defBody s__law_by_hand).getD 1 (.Pass ⟨0, 0, 0, 0⟩)))
abbrev sc_lcTold : Scope := lcScope (retVal ((defBody s__law_by_hand).getD 7 (.Pass ⟨0, 0, 0, 0⟩)))
theorem bk_spots : BlkOk n__law_by_hand (defScope s__law_by_hand) sc_lcSpots [("_law_x", 3), ("_law_y", 4)] := blkOk_by (by decide +kernel)
theorem bk_told : BlkOk n__law_by_hand (defScope s__law_by_hand) sc_lcTold [("_law_one", 10)] := blkOk_by (by decide +kernel)
def spots (n : Int) : List (Int × Int) := [(0, 0), (1, 0), (n, 0), (n, 1)]
def mv0 (k : Bool) (n : Int) : Mv Rat := mkMv k ((0 : Int) : Rat) ((0 : Int) : Rat) ((1 : Int) : Rat) ((0 : Int) : Rat) (n : Rat) ((0 : Int) : Rat) (n : Rat) ((1 : Int) : Rat)
theorem mv0_x (k : Bool) (n : Int) (x y : Rat) : mvX k (mv0 k n) x y = if k then (n : Rat) + y else (n : Rat) - y := by
  have h1 : (1 : Rat) * (1 : Rat)⁻¹ = 1 := Rat.mul_inv_cancel 1 (by decide)
  cases k <;> simp [mv0, mvX, mkMv] <;> grind
theorem mv0_y (k : Bool) (n : Int) (x y : Rat) : mvY k (mv0 k n) x y = x := by
  cases k <;> simp [mv0, mvY, mkMv] <;> grind
theorem told_int (z : Int) : Tow.base.told (z : Rat) = .tuple [.int z, .int 1] := by
  show PyData.tuple [.int ((z : Rat)).num, .int ((z : Rat)).den] = _
  rw [Rat.num_intCast, Rat.den_intCast]
  rfl
theorem dp_eq {x y : Rat} {a b : Int} (hx : x = (a : Rat)) (hy : y = (b : Rat)) : PyData.list [Tow.base.told x, Tow.base.told y] = .list [.tuple [.int a, .int 1], .tuple [.int b, .int 1]] := by
  rw [hx, hy, told_int, told_int]
section
variable {P : Program} {w : World} {K : PySem.W.Frag} {mg : Str → Option Value} {base : Heap} {c : Cl} {n k : Nat} {p ca mi be tca tmi tbe : Addr}
theorem data_lstT {M : PySem.W.Frag} {ds : List PyData} : (LstR (ds.map (DataR M))).le (DataR M (.list ds)) := fun v H h => data_lst (ds := ds) v H (LstR.le v H h)
theorem g_by_hand (Gg : Gd P base) (N : NT K mg c) (L : NL K mg) (V : NV K mg p ca mi be) (B : NB base mg ca mi be tca tmi tbe) (M : NL2 K mg) (O : NOk P w K mg base (tabs3 tca tmi tbe) c n k) (hk : 40 ≤ k) (hn : n ≤ 60) : GFn P w K mg base (tabs3 tca tmi tbe) "_law_by_hand" (k + 6) [] (fun Rs R => ∃ z : Int, Rs = [IntR z] ∧ 1 ≤ z ∧ z ≤ 99 ∧ R = BoolR true) := by
  refine gfn_mk (k := k + 5) M.by_hand sc__law_by_hand (bnd1 (fun _ _ _ _ _ _ _ => rfl) rfl) (fun Rs R ⟨_, e, _⟩ => by rw [e]; rfl) ?_
  rintro _ _ ⟨z, rfl, hz0, hz1, rfl⟩ f cdv Ar outer s0 H E hr
  have hnd := sc__law_by_hand.nd
  have r0 := hr.mono (show k ≤ k + 5 by omega)
  have r1 := hr.mono (show 1 ≤ k + 5 by omega)
  have r2 := hr.mono (show 2 ≤ k + 5 by omega)
  have r36 := hr.mono (show 36 ≤ k + 5 by omega)
  refine rs_cons (np_set 1 (R := ListR K ((spots z).map fun q => TupR K [IntR q.1, IntR q.2])) (he_lst (ha_cons (he_tup (ha_cons he_int (ha_cons he_int ha_nil))) (ha_cons (he_tup (ha_cons he_int (ha_cons he_int ha_nil))) (ha_cons (he_tup (ha_cons (he_var 0 rfl) (ha_cons he_int ha_nil))) (ha_cons (he_tup (ha_cons (he_var 0 rfl) (ha_cons he_int ha_nil))) ha_nil)))) (hz := (by show (4 : Nat) ≤ sizeLine; decide))) hnd) ?_
  refine rs_cons (np_setLc 2 (Ys := (spots z).map fun q => TupR K [IntR q.1, IntR q.2]) (Zs := (spots z).map fun q => PtR c p .base (q.1 : Rat) (q.2 : Rat)) (scope := sc_lcSpots) (hi_list (he_var 1 rfl)) bk_spots hnd
    (tgb_tup (js := [3, 4]) (by simp) (fun s' H' C cl fp => pg_tup rfl (pgs_names 3 (pgs_names 4 pgs_names0 hnd) hnd) rfl rfl)) (by simp) (by show (4 : Nat) ≤ sizeLine; decide) ?_ rfl) ?_
  · intro i Y Z hY hZ
    rw [List.getElem?_map] at hY hZ
    cases hq : (spots z)[i]? with
    | none => rw [hq] at hY; cases hY
    | some q =>
      rw [hq] at hY hZ
      cases hY
      cases hZ
      refine ⟨_, ⟨[IntR q.1, IntR q.2], rfl, rfl, rfl⟩, fun s' H' C cl fp => ?_⟩
      exact h_point V r2 (h_frac1 Gg N r36 (he_var 3 rfl)) (h_frac1 Gg N r36 (he_var 4 rfl))
  have bz : ∀ x : Int, 0 ≤ x → x ≤ 99 → bits (x : Rat) ≤ 8 := fun x h0 h1 => bits_intCast (by omega) (by decide)
  have s1 : Sz4 Tow.base 0 8 ((0 : Int) : Rat) ((0 : Int) : Rat) ((1 : Int) : Rat) ((0 : Int) : Rat) := ⟨bz 0 (by decide) (by decide), bz 0 (by decide) (by decide), bz 1 (by decide) (by decide), bz 0 (by decide) (by decide)⟩
  have s2 : Sz4 Tow.base 0 8 (z : Rat) ((0 : Int) : Rat) (z : Rat) ((1 : Int) : Rat) := ⟨bz z (by omega) hz1, bz 0 (by decide) (by decide), bz z (by omega) hz1, bz 1 (by decide) (by decide)⟩
  have hE : wE 0 0 8 ≤ Bg := by decide
  have n1 : ¬ (((0 : Int) : Rat) = ((1 : Int) : Rat) ∧ ((0 : Int) : Rat) = ((0 : Int) : Rat)) := fun e => absurd e.1 (by decide)
  have n2 : ¬ ((z : Rat) = (z : Rat) ∧ ((0 : Int) : Rat) = ((1 : Int) : Rat)) := fun e => absurd e.2 (by decide)
  have gm := g_moving (P := P) (w := w) N V B M O hn
  refine rs_cons (np_set 5 (R := MovR c p false .base (mv0 false z)) (he_call gm hr (ha_cons he_int (ha_cons (he_var 2 rfl) (ha_cons he_bl ha_nil))) ⟨_, .base, ((0 : Int) : Rat), ((0 : Int) : Rat), ((1 : Int) : Rat), ((0 : Int) : Rat), (z : Rat), ((0 : Int) : Rat), (z : Rat), ((1 : Int) : Rat), 0, 8, false, false, Nat.zero_le _, trivial, s1, s2, hE, n1, n2, rfl, rfl⟩) hnd) ?_
  refine rs_cons (np_set 6 (R := MovR c p true .base (mv0 true z)) (he_call gm hr (ha_cons he_int (ha_cons (he_var 2 rfl) (ha_cons he_bl ha_nil))) ⟨_, .base, ((0 : Int) : Rat), ((0 : Int) : Rat), ((1 : Int) : Rat), ((0 : Int) : Rat), (z : Rat), ((0 : Int) : Rat), (z : Rat), ((1 : Int) : Rat), 0, 8, true, false, Nat.zero_le _, trivial, s1, s2, hE, n1, n2, rfl, rfl⟩) hnd) ?_
  refine rs_cons (np_set 7 (R := PtR c p .base ((2 : Int) : Rat) ((3 : Int) : Rat)) (h_point V r2 (h_frac1 Gg N r36 he_int) (h_frac1 Gg N r36 he_int)) hnd) ?_
  have ms : ∀ kk, MvSz Tow.base 8 (wE 0 0 8) (mv0 kk z) := fun kk => mk_sz (t := .base) (z := 0) kk trivial s1 s2
  have hB : wO 0 0 8 (wE 0 0 8) 8 ≤ Bg := by decide
  have hC : wO 0 0 8 (wE 0 0 8) (wO 0 0 8 (wE 0 0 8) 8) ≤ Bg := by decide
  have b2 := bz 2 (by decide) (by decide)
  have b3 := bz 3 (by decide) (by decide)
  have gb := g_behind (P := P) (w := w) V B
  let pt : Bool → Bool → Rp := fun k1 k2 => PtR c p .base (mvX k2 (mv0 k2 z) (mvX k1 (mv0 k1 z) ((2 : Int) : Rat) ((3 : Int) : Rat)) (mvY k1 (mv0 k1 z) ((2 : Int) : Rat) ((3 : Int) : Rat))) (mvY k2 (mv0 k2 z) (mvX k1 (mv0 k1 z) ((2 : Int) : Rat) ((3 : Int) : Rat)) (mvY k1 (mv0 k1 z) ((2 : Int) : Rat) ((3 : Int) : Rat)))
  have rb := hr.mono (show k + 2 ≤ k + 5 by omega)
  refine rs_cons (np_set 8 (R := ListR K [pt false false, pt false true, pt true false]) (he_lst
    (ha_cons (h_beh (t := .base) (z := 0) V O (by omega) rb (Nat.zero_le _) trivial (ms false) (ms false) b2 b3 hB hC (he_call gb r1 (ha_cons (he_var 5 rfl) (ha_cons (he_var 5 rfl) ha_nil)) ⟨_, _, rfl, rfl⟩) (he_var 7 rfl))
    (ha_cons (h_beh (t := .base) (z := 0) V O (by omega) rb (Nat.zero_le _) trivial (ms false) (ms true) b2 b3 hB hC (he_call gb r1 (ha_cons (he_var 5 rfl) (ha_cons (he_var 6 rfl) ha_nil)) ⟨_, _, rfl, rfl⟩) (he_var 7 rfl))
    (ha_cons (h_beh (t := .base) (z := 0) V O (by omega) rb (Nat.zero_le _) trivial (ms true) (ms false) b2 b3 hB hC (he_call gb r1 (ha_cons (he_var 6 rfl) (ha_cons (he_var 5 rfl) ha_nil)) ⟨_, _, rfl, rfl⟩) (he_var 7 rfl)) ha_nil)))) hnd) ?_
  let tp : Int → PyData := fun i => .tuple [.int i, .int 1]
  let D : List PyData := [.list [tp (z - 2), tp (z - 3)], .list [tp (z + 2), tp (z - 3)], .list [tp (z - 2), tp (z + 3)]]
  refine rs_cons (np_set 9 (R := DataR K (.list D)) ?_ hnd) ?_
  · have tup : ∀ {G : Ctx} {e : Expr} {i : Int} {p1 p2 : Pos} {j : Nat} {k1}, HasE (cxOf CX0 P w K mg base n__law_by_hand "_law_by_hand" (defScope s__law_by_hand) f cdv Ar outer s0 H E).nox (tabs3 tca tmi tbe) G e (IntR i) → starEach [e, .Constant (.int 1) j p1] (cxOf CX0 P w K mg base n__law_by_hand "_law_by_hand" (defScope s__law_by_hand) f cdv Ar outer s0 H E).nox.env = (false, eval e (cxOf CX0 P w K mg base n__law_by_hand "_law_by_hand" (defScope s__law_by_hand) f cdv Ar outer s0 H E).nox.env) :: starEach [.Constant (.int 1) j p1] (cxOf CX0 P w K mg base n__law_by_hand "_law_by_hand" (defScope s__law_by_hand) f cdv Ar outer s0 H E).nox.env →
        HasE (cxOf CX0 P w K mg base n__law_by_hand "_law_by_hand" (defScope s__law_by_hand) f cdv Ar outer s0 H E).nox (tabs3 tca tmi tbe) G (.Tuple [e, .Constant (.int 1) j p1] k1 p2) (DataR K (tp i)) :=
      fun h hs => (he_tup (ha_cons (h.sub (data_int _)) (ha_cons (he_int.sub (data_int _)) ha_nil) hs)).sub (data_tup (ds := [.int _, .int 1]))
    refine (he_lst (Rs := D.map (DataR K)) (ha_cons ?_ (ha_cons ?_ (ha_cons ?_ ha_nil))) (hz := (by show (3 : Nat) ≤ sizeLine; decide))).sub (data_lst (ds := D))
    · exact (he_lst (Rs := [tp (z - 2), tp (z - 3)].map (DataR K)) (ha_cons (tup (he_subI (he_var 0 rfl) he_int) rfl) (ha_cons (tup (he_subI (he_var 0 rfl) he_int) rfl) ha_nil)) (hz := (by show (2 : Nat) ≤ sizeLine; decide))).sub (data_lst (ds := [tp (z - 2), tp (z - 3)]))
    · exact (he_lst (Rs := [tp (z + 2), tp (z - 3)].map (DataR K)) (ha_cons (tup (he_add (he_var 0 rfl) he_int) rfl) (ha_cons (tup (he_subI (he_var 0 rfl) he_int) rfl) ha_nil)) (hz := (by show (2 : Nat) ≤ sizeLine; decide))).sub (data_lst (ds := [tp (z + 2), tp (z - 3)]))
    · exact (he_lst (Rs := [tp (z - 2), tp (z + 3)].map (DataR K)) (ha_cons (tup (he_subI (he_var 0 rfl) he_int) rfl) (ha_cons (tup (he_add (he_var 0 rfl) he_int) rfl) ha_nil)) (hz := (by show (2 : Nat) ≤ sizeLine; decide))).sub (data_lst (ds := [tp (z - 2), tp (z + 3)]))
  have ea : ∀ a b : Int, ((a : Rat) - (b : Rat)) = ((a - b : Int) : Rat) := fun a b => (Rat.intCast_sub a b).symm
  have eb : ∀ a b : Int, ((a : Rat) + (b : Rat)) = ((a + b : Int) : Rat) := fun a b => (Rat.intCast_add a b).symm
  let dp : Bool → Bool → PyData := fun k1 k2 => .list [Tow.base.told (mvX k2 (mv0 k2 z) (mvX k1 (mv0 k1 z) ((2 : Int) : Rat) ((3 : Int) : Rat)) (mvY k1 (mv0 k1 z) ((2 : Int) : Rat) ((3 : Int) : Rat))), Tow.base.told (mvY k2 (mv0 k2 z) (mvX k1 (mv0 k1 z) ((2 : Int) : Rat) ((3 : Int) : Rat)) (mvY k1 (mv0 k1 z) ((2 : Int) : Rat) ((3 : Int) : Rat)))]
  have e1 : dp false false = .list [tp (z - 2), tp (z - 3)] :=
    dp_eq (show (mvX false (mv0 false z) (mvX false (mv0 false z) ((2 : Int) : Rat) ((3 : Int) : Rat)) (mvY false (mv0 false z) ((2 : Int) : Rat) ((3 : Int) : Rat)) : Rat) = _ by rw [mv0_x, mv0_y, if_neg (by decide), ea])
      (show (mvY false (mv0 false z) (mvX false (mv0 false z) ((2 : Int) : Rat) ((3 : Int) : Rat)) (mvY false (mv0 false z) ((2 : Int) : Rat) ((3 : Int) : Rat)) : Rat) = _ by rw [mv0_y, mv0_x, if_neg (by decide), ea])
  have e2 : dp false true = .list [tp (z + 2), tp (z - 3)] :=
    dp_eq (show (mvX true (mv0 true z) (mvX false (mv0 false z) ((2 : Int) : Rat) ((3 : Int) : Rat)) (mvY false (mv0 false z) ((2 : Int) : Rat) ((3 : Int) : Rat)) : Rat) = _ by rw [mv0_x, mv0_y, if_pos (by decide), eb])
      (show (mvY true (mv0 true z) (mvX false (mv0 false z) ((2 : Int) : Rat) ((3 : Int) : Rat)) (mvY false (mv0 false z) ((2 : Int) : Rat) ((3 : Int) : Rat)) : Rat) = _ by rw [mv0_y, mv0_x, if_neg (by decide), ea])
  have e3 : dp true false = .list [tp (z - 2), tp (z + 3)] :=
    dp_eq (show (mvX false (mv0 false z) (mvX true (mv0 true z) ((2 : Int) : Rat) ((3 : Int) : Rat)) (mvY true (mv0 true z) ((2 : Int) : Rat) ((3 : Int) : Rat)) : Rat) = _ by rw [mv0_x, mv0_y, if_neg (by decide), ea])
      (show (mvY false (mv0 false z) (mvX true (mv0 true z) ((2 : Int) : Rat) ((3 : Int) : Rat)) (mvY true (mv0 true z) ((2 : Int) : Rat) ((3 : Int) : Rat)) : Rat) = _ by rw [mv0_y, mv0_x, if_pos (by decide), eb])
  refine rs_one (rp_ret (he_eq (he_eqD ((he_lc (Ys := [pt false false, pt false true, pt true false]) (Zs := [dp false false, dp false true, dp true false].map (DataR K)) (hi_list (he_var 8 rfl)) bk_told hnd (tgb_name (j := 10) (by simp) (fun s' H' C cl fp => pg_name hnd rfl (.inl rfl))) rfl (by show (3 : Nat) ≤ sizeLine; decide) ?_).sub data_lstT) (he_var 9 rfl) r1 ?_ ?_) ?_))
  · intro i Y Z hY hZ
    match i, hY, hZ with
    | 0, hY, hZ => cases hY; cases hZ; exact ⟨_, rfl, fun s' H' C cl fp => (he_lst (ha_cons (h_tol O r0 (Nat.zero_le _) (h_x V (he_var 10 rfl))) (ha_cons (h_tol O r0 (Nat.zero_le _) (h_y V (he_var 10 rfl))) ha_nil)) (hz := (by show (2 : Nat) ≤ sizeLine; decide))).sub (data_lst (ds := [Tow.base.told _, Tow.base.told _]))⟩
    | 1, hY, hZ => cases hY; cases hZ; exact ⟨_, rfl, fun s' H' C cl fp => (he_lst (ha_cons (h_tol O r0 (Nat.zero_le _) (h_x V (he_var 10 rfl))) (ha_cons (h_tol O r0 (Nat.zero_le _) (h_y V (he_var 10 rfl))) ha_nil)) (hz := (by show (2 : Nat) ≤ sizeLine; decide))).sub (data_lst (ds := [Tow.base.told _, Tow.base.told _]))⟩
    | 2, hY, hZ => cases hY; cases hZ; exact ⟨_, rfl, fun s' H' C cl fp => (he_lst (ha_cons (h_tol O r0 (Nat.zero_le _) (h_x V (he_var 10 rfl))) (ha_cons (h_tol O r0 (Nat.zero_le _) (h_y V (he_var 10 rfl))) ha_nil)) (hz := (by show (2 : Nat) ≤ sizeLine; decide))).sub (data_lst (ds := [Tow.base.told _, Tow.base.told _]))⟩
    | j + 3, hY, hZ => simp at hY
  · rw [e1, e2, e3]; rfl
  · rfl
  · rw [e1, e2, e3]
    have : PyData.eqv (.list D) (.list D) = true := by simp [D, tp, PyData.eqv, PyData.eqvAll]
    rw [show ([PyData.list [tp (z - 2), tp (z - 3)], PyData.list [tp (z + 2), tp (z - 3)], PyData.list [tp (z - 2), tp (z + 3)]]) = D from rfl, this]
end
end Rl

set_option Elab.async false
set_option linter.all false
set_option maxRecDepth 100000
set_option maxHeartbeats 4000000
/-! The law. -/
namespace Rl
open PySem PySem.Spec PyProof.Rows L2 NdefX LamX Tow
def rhsVal : Stmt → Expr
  | .Assign _ (.BinOp _ _ b _) _ => b
  | _ => .Constant .none 0 ⟨0, 0, 0, 0⟩
abbrev sc_lcPts : Scope := lcScope (rhsVal ((defBody s_law).getD 11 (.Pass ⟨0, 0, 0, 0⟩)))
theorem bk_pts : BlkOk n_law (defScope s_law) sc_lcPts [("_law_k", 11), ("_law_cell", 12)] := blkOk_by (by decide +kernel)
def forTest : Stmt → Expr
  | .For _ _ (.If c _ _ _ :: _) _ _ => c
  | _ => .Constant .none 0 ⟨0, 0, 0, 0⟩
def forBody : Stmt → List Stmt
  | .For _ _ b _ _ => b
  | _ => []
theorem cutL_map (ns : List Int) (l u : Option Int) : cutL (ns.map IntR) l u = (cutL ns l u).map IntR := by
  unfold cutL
  rw [List.length_map, List.map_take, List.map_drop]
theorem cutL_len (ns : List Int) (l u : Option Int) : (cutL ns l u).length ≤ ns.length := by
  unfold cutL
  rw [List.length_take, List.length_drop]
  omega
theorem lstR_le {Rs Ss : List Rp} (hl : Rs.length = Ss.length) (h : ∀ (i : Nat) (R S : Rp), Rs[i]? = some R → Ss[i]? = some S → R.le S) : (LstR Rs).le (LstR Ss) := fun v H ⟨p, xs, e1, e2, hh⟩ => ⟨p, xs, e1, e2, hh.le hl h⟩
theorem four_of {α : Type} {as : List α} (h : as.length = 4) : ∃ a b c d, as = [a, b, c, d] := by
  match as, h with
  | [a, b, c, d], _ => exact ⟨a, b, c, d, rfl⟩
theorem two_of {α : Type} {as : List α} (h : as.length = 2) : ∃ a b, as = [a, b] := by
  match as, h with
  | [a, b], _ => exact ⟨a, b, rfl⟩
theorem way_of2 (a k : Int) : ∃ b : Bool, mixI a k % 2 = wayI b := by
  have h0 := Int.emod_nonneg (mixI a k) (show (2 : Int) ≠ 0 by decide)
  have h1 := Int.emod_lt_of_pos (mixI a k) (show (0 : Int) < 2 by decide)
  rcases (show mixI a k % 2 = 0 ∨ mixI a k % 2 = 1 by omega) with e | e
  · exact ⟨false, e⟩
  · exact ⟨true, e⟩
section
variable {P : Program} {w : World} {K : PySem.W.Frag} {mg : Str → Option Value} {base : Heap} {c : Cl} {p ca mi be tca tmi tbe : Addr}
def SLaw (K : PySem.W.Frag) : List Rp → Rp → Prop := fun Rs R => ∃ ns : List Int, ns.length ≤ 63 ∧ Rs = [ListR K (ns.map IntR)] ∧ R = BoolR true
theorem b_law (Gg : Gd P base) (N : NT K mg c) (L : NL K mg) (V : NV K mg p ca mi be) (B : NB base mg ca mi be tca tmi tbe) (M : NL2 K mg) (Rs : List Rp) (R : Rp) (hS : SLaw K Rs R) (f : Addr) (cdv : Value) (Ar : Around) (outer : List PySem.Env) (s0 : Shared) (H : Hp) (E : XK)
    (hr : Room 55 (Ar.deeper (envOfC "law" (defScope s_law) s0.heap.objs.size f cdv))) :
    RetS (cxOf CX0 P w K mg base n_law "law" (defScope s_law) f cdv Ar outer s0 H E).nox (tabs3 tca tmi tbe) (ctx0 n_law Rs) (defBody s_law) R := by
  obtain ⟨ns, hns, rfl, rfl⟩ := hS
  have hnd := sc_law.nd
  have O := n_all (P := P) (w := w) (base := base) (Tb := tabs3 tca tmi tbe) (c := c) Gg N 1
  have rr : ∀ j, j ≤ 55 → Room j (Ar.deeper (envOfC "law" (defScope s_law) s0.heap.objs.size f cdv)) := fun j h => hr.mono h
  have r1 := rr 1 (by decide)
  -- one
  refine rs_cons (np_set 1 (R := IntX) (he_callX (g_mix L) r1 (ha_cons (he_call (g_cell L) r1 (ha_cons (he_var 0 rfl) (ha_cons he_int ha_nil)) ⟨ns, rfl, rfl⟩) (ha_cons he_int ha_nil)) ?_) hnd) ?_
  · intro vs Hh hh
    obtain ⟨v, u, rfl, ⟨a, h1⟩, h2⟩ := holds2 hh
    exact ⟨[IntR a, IntR 1], _, ⟨h1, h2, trivial⟩, ⟨a, 1, rfl, by decide, rfl⟩, ExR.le (f := fun i : Int => IntR i) _⟩
  refine rs_open 1 rfl fun one => ?_
  -- by hand
  have m0 := Int.emod_nonneg one (show (99 : Int) ≠ 0 by decide)
  have m1 := Int.emod_lt_of_pos one (show (0 : Int) < 99 by decide)
  refine rs_cons (np_skip (ht_not (ht_val (he_call (g_by_hand Gg N L V B M O (by decide) (by decide)) (rr _ (by decide)) (ha_cons (he_add he_int (he_mod (he_var 1 rfl) he_int (by decide))) ha_nil) ⟨_, rfl, by omega, by omega, rfl⟩)))) ?_
  -- the roots
  have e0 := Int.emod_nonneg (mixI one 2) (show (2 : Int) ≠ 0 by decide)
  have e1 := Int.emod_lt_of_pos (mixI one 2) (show (0 : Int) < 2 by decide)
  refine rs_cons (np_set 2 (he_call (g_roots Gg N L O (by decide) (by decide)) (rr _ (by decide)) (ha_cons (h_mix L r1 (by decide) (he_var 1 rfl) he_int) (ha_cons (he_mod (h_mix L r1 (by decide) (he_var 1 rfl) he_int) he_int (by decide)) ha_nil)) ⟨_, _, rfl, by omega, rfl⟩) hnd) ?_
  refine rs_open 2 rfl fun τ => ?_
  obtain ⟨L', t, ht, hz⟩ := τ
  -- the fours
  have gf := g_four (P := P) (w := w) (base := base) (Tb := tabs3 tca tmi tbe) (c := c) (n := 1) Gg N L V
  have four : ∀ {G : Ctx} {a : Expr} {x : Int} {p1 p2 p3 : Pos}, G[2]? = some (some (LstR (rootsL c t))) → HasE (cxOf CX0 P w K mg base n_law "law" (defScope s_law) f cdv Ar outer s0 H E).nox (tabs3 tca tmi tbe) G a (IntR x) → starEach [a, .Name "_law_roots_here" p1] (cxOf CX0 P w K mg base n_law "law" (defScope s_law) f cdv Ar outer s0 H E).nox.env = (false, eval a (cxOf CX0 P w K mg base n_law "law" (defScope s_law) f cdv Ar outer s0 H E).nox.env) :: starEach [.Name "_law_roots_here" p1] (cxOf CX0 P w K mg base n_law "law" (defScope s_law) f cdv Ar outer s0 H E).nox.env →
      HasE (cxOf CX0 P w K mg base n_law "law" (defScope s_law) f cdv Ar outer s0 H E).nox (tabs3 tca tmi tbe) G (.Call (.Name "_law_four" p2) [a, .Name "_law_roots_here" p1] [] p3) (ExR fun as : { as : List (Pt t 63) // as.length = 4 } => LstR (as.1.map (ptOf c p t))) :=
    fun hG ha hs => he_call gf (rr _ (by decide)) (ha_cons ha (ha_cons (he_var 2 hG) ha_nil) hs) ⟨_, t, _, ht, rfl, rfl⟩ rfl (by decide) hs rfl
  refine rs_cons (np_set 3 ((he_lstT (Rs := List.replicate 2 (ExR fun as : { as : List (Pt t 63) // as.length = 4 } => LstR (as.1.map (ptOf c p t)))) (ha_cons (four rfl (h_mix L r1 (by decide) (he_var 1 rfl) he_int) rfl) (ha_cons (four rfl (h_mix L r1 (by decide) (he_var 1 rfl) he_int) rfl) ha_nil)) (hz := (by show (2 : Nat) ≤ sizeLine; decide))).sub lstR_ex) hnd) ?_
  refine rs_open 3 rfl fun fs => ?_
  obtain ⟨fs, hfs⟩ := fs
  obtain ⟨⟨f1, hf1⟩, ⟨f2, hf2⟩, rfl⟩ := two_of hfs
  obtain ⟨a1, b1, c1, d1, rfl⟩ := four_of hf1
  obtain ⟨a2, b2, c2, d2, rfl⟩ := four_of hf2
  let F1 : Rp := LstR [PtR c p t a1.1.1 a1.1.2, PtR c p t b1.1.1 b1.1.2, PtR c p t c1.1.1 c1.1.2, PtR c p t d1.1.1 d1.1.2]
  let F2 : Rp := LstR [PtR c p t a2.1.1 a2.1.2, PtR c p t b2.1.1 b2.1.2, PtR c p t c2.1.1 c2.1.2, PtR c p t d2.1.1 d2.1.2]
  let G3 : Ctx := [some (ListR K (ns.map IntR)), some (IntR one), some (LstR (rootsL c t)), some (LstR [F1, F2]), none, none, none, none, none, none, none, none, none, none]
  show RetS (cxOf CX0 P w K mg base n_law "law" (defScope s_law) f cdv Ar outer s0 H E).nox (tabs3 tca tmi tbe) G3 ((defBody s_law).drop 4) (BoolR true)
  have test : ∀ (a b cc d : Pt t 63), HasT (cxOf CX0 P w K mg base n_law "law" (defScope s_law) f cdv Ar outer s0 H E).nox (tabs3 tca tmi tbe) (G3.set 4 (some (LstR [PtR c p t a.1.1 a.1.2, PtR c p t b.1.1 b.1.2, PtR c p t cc.1.1 cc.1.2, PtR c p t d.1.1 d.1.2]))) (forTest ((defBody s_law).getD 4 (.Pass ⟨0, 0, 0, 0⟩))) (decide (a.1.1 = b.1.1 ∧ a.1.2 = b.1.2) || decide (cc.1.1 = d.1.1 ∧ cc.1.2 = d.1.2)) := fun a b cc d =>
    HasW.t (hw_or (ht_val (h_same V O (by decide) (rr _ (by decide)) ht (he_ixL ((he_var 4 rfl).sub LstR.le) he_int (R := PtR c p t a.1.1 a.1.2) rfl) (he_ixL ((he_var 4 rfl).sub LstR.le) he_int (R := PtR c p t b.1.1 b.1.2) rfl))) fun _ => hw_or1 (ht_val (h_same V O (by decide) (rr _ (by decide)) ht (he_ixL ((he_var 4 rfl).sub LstR.le) he_int (R := PtR c p t cc.1.1 cc.1.2) rfl) (he_ixL ((he_var 4 rfl).sub LstR.le) he_int (R := PtR c p t d.1.1 d.1.2) rfl))))
  have back4 : ∀ Y : Rp, ∀ (i : Nat) (R : Rp), G3[i]? = some (some R) → ∃ R', (G3.set 4 (some Y))[i]? = some (some R') ∧ R'.le R := fun Y i R q => by
    by_cases h : i = 4
    · subst h; cases q
    · exact ⟨R, by rw [List.getElem?_set_ne (Ne.symm h)]; exact q, Rp.le_refl R⟩
  by_cases h1 : (decide (a1.1.1 = b1.1.1 ∧ a1.1.2 = b1.1.2) || decide (c1.1.1 = d1.1.1 ∧ c1.1.2 = d1.1.2)) = true
  · refine rs_stop (rp_for (Ys := [F1, F2]) (Gs := fun _ => G3) 0 (hi_list ((he_var 3 rfl).sub LstR.le)) (tg_name 4 hnd) (fun i Y hi _ => absurd hi (Nat.not_lt_zero i)) (Y0 := F1) rfl rfl (rs_stop (rp_ifT ((test a1 b1 c1 d1).eq h1) (rs_one (rp_ret he_bl)))) PassesOwn.never)
  have h1' := Bool.eq_false_iff.mpr h1
  by_cases h2 : (decide (a2.1.1 = b2.1.1 ∧ a2.1.2 = b2.1.2) || decide (c2.1.1 = d2.1.1 ∧ c2.1.2 = d2.1.2)) = true
  · refine rs_stop (rp_for (Ys := [F1, F2]) (Gs := fun _ => G3) 1 (hi_list ((he_var 3 rfl).sub LstR.le)) (tg_name 4 hnd) (fun i Y hi hY => ?_) (Y0 := F2) rfl rfl (rs_stop (rp_ifT ((test a2 b2 c2 d2).eq h2) (rs_one (rp_ret he_bl)))) PassesOwn.never)
    obtain rfl : i = 0 := by omega
    cases hY
    exact ⟨_, rfl, ns_weak (ns_one (np_skip ((test a1 b1 c1 d1).eq h1'))) rfl (back4 _)⟩
  have h2' := Bool.eq_false_iff.mpr h2
  refine rs_cons (np_for (Ys := [F1, F2]) (Gs := fun _ => G3) (hi_list ((he_var 3 rfl).sub LstR.le)) (tg_name 4 hnd) (fun i Y hY => ?_) PassesOwn.never) ?_
  · match i, hY with
    | 0, hY => cases hY; exact ⟨_, rfl, ns_weak (ns_one (np_skip ((test a1 b1 c1 d1).eq h1'))) rfl (back4 _)⟩
    | 1, hY => cases hY; exact ⟨_, rfl, ns_weak (ns_one (np_skip ((test a2 b2 c2 d2).eq h2'))) rfl (back4 _)⟩
    | j + 2, hY => simp at hY
  -- the movings
  simp only [Bool.or_eq_false_iff, decide_eq_false_iff_not] at h1' h2'
  obtain ⟨k1, ek1⟩ := way_of2 one 5
  obtain ⟨k2, ek2⟩ := way_of2 one 6
  have hh : t.ht = 0 ∨ t.ht = 1 := by omega
  have hE : wE t.ht 70 63 ≤ Bg := by rcases hh with e | e <;> rw [e] <;> decide
  have hB : wO t.ht 70 63 (wE t.ht 70 63) 63 ≤ Bg := by rcases hh with e | e <;> rw [e] <;> decide
  have hC : wO t.ht 70 63 (wE t.ht 70 63) (wO t.ht 70 63 (wE t.ht 70 63) 63) ≤ Bg := by rcases hh with e | e <;> rw [e] <;> decide
  have z1 : Sz4 t 70 63 a1.1.1 a1.1.2 b1.1.1 b1.1.2 := ⟨a1.2.1, a1.2.2, b1.2.1, b1.2.2⟩
  have z2 : Sz4 t 70 63 c1.1.1 c1.1.2 d1.1.1 d1.1.2 := ⟨c1.2.1, c1.2.2, d1.2.1, d1.2.2⟩
  have z3 : Sz4 t 70 63 a2.1.1 a2.1.2 b2.1.1 b2.1.2 := ⟨a2.2.1, a2.2.2, b2.2.1, b2.2.2⟩
  have z4 : Sz4 t 70 63 c2.1.1 c2.1.2 d2.1.1 d2.1.2 := ⟨c2.2.1, c2.2.2, d2.2.1, d2.2.2⟩
  let mA := mkMv k1 a1.1.1 a1.1.2 b1.1.1 b1.1.2 c1.1.1 c1.1.2 d1.1.1 d1.1.2
  let mB' := mkMv k1 c1.1.1 c1.1.2 d1.1.1 d1.1.2 a1.1.1 a1.1.2 b1.1.1 b1.1.2
  let mC := mkMv k2 a2.1.1 a2.1.2 b2.1.1 b2.1.2 c2.1.1 c2.1.2 d2.1.1 d2.1.2
  have sA : MvSz t 63 (wE t.ht 70 63) mA := mk_sz k1 hz z1 z2
  have sB : MvSz t 63 (wE t.ht 70 63) mB' := mk_sz k1 hz z2 z1
  have sC : MvSz t 63 (wE t.ht 70 63) mC := mk_sz k2 hz z3 z4
  have gm := g_moving (P := P) (w := w) N V B M O (by decide)
  have gb := g_behind (P := P) (w := w) V B
  have rM := rr (43 + 5) (by decide)
  refine rs_cons (np_set 5 (R := ListR K [IntR (wayI k1), IntR (wayI k2)]) (he_lst (ha_cons (he_eq (he_mod (h_mix L r1 (by decide) (he_var 1 rfl) he_int) he_int (by decide)) (by rw [ek1])) (ha_cons (he_eq (he_mod (h_mix L r1 (by decide) (he_var 1 rfl) he_int) he_int (by decide)) (by rw [ek2])) ha_nil))) hnd) ?_
  refine rs_cons (np_set 6 (R := MovR c p k1 t mA) (he_call gm rM (ha_cons (he_ixL (he_var 5 rfl) he_int (R := IntR (wayI k1)) rfl) (ha_cons (he_ixL ((he_var 3 rfl).sub LstR.le) he_int (R := F1) rfl) (ha_cons he_bl ha_nil))) ⟨_, t, _, _, _, _, _, _, _, _, 70, 63, k1, false, ht, hz, z1, z2, hE, h1'.1, h1'.2, rfl, rfl⟩) hnd) ?_
  refine rs_cons (np_set 7 (R := MovR c p k2 t mC) (he_call gm rM (ha_cons (he_ixL (he_var 5 rfl) he_int (R := IntR (wayI k2)) rfl) (ha_cons (he_ixL ((he_var 3 rfl).sub LstR.le) he_int (R := F2) rfl) (ha_cons he_bl ha_nil))) ⟨_, t, _, _, _, _, _, _, _, _, 70, 63, k2, false, ht, hz, z3, z4, hE, h2'.1, h2'.2, rfl, rfl⟩) hnd) ?_
  refine rs_cons (np_set 8 (R := BehR (MovR c p k1 t mA) (MovR c p k2 t mC)) (he_call gb r1 (ha_cons (he_var 6 rfl) (ha_cons (he_var 7 rfl) ha_nil)) ⟨_, _, rfl, rfl⟩) hnd) ?_
  refine rs_cons (np_set 9 (R := BehR (MovR c p k1 t mA) (MovR c p k1 t mB')) (he_call gb r1 (ha_cons (he_var 6 rfl) (ha_cons (he_call gm rM (ha_cons (he_ixL (he_var 5 rfl) he_int (R := IntR (wayI k1)) rfl) (ha_cons (he_ixL ((he_var 3 rfl).sub LstR.le) he_int (R := F1) rfl) (ha_cons he_bl ha_nil))) ⟨_, t, _, _, _, _, _, _, _, _, 70, 63, k1, true, ht, hz, z1, z2, hE, h1'.1, h1'.2, rfl, rfl⟩) ha_nil)) ⟨_, _, rfl, rfl⟩) hnd) ?_
  -- the points
  refine rs_cons (np_set 10 (R := LstR [PtR c p t a1.1.1 a1.1.2, PtR c p t b2.1.1 b2.1.2]) (he_lstT (ha_cons (he_ixL (he_ixL ((he_var 3 rfl).sub LstR.le) he_int (R := F1) rfl |>.sub LstR.le) he_int (R := PtR c p t a1.1.1 a1.1.2) rfl) (ha_cons (he_ixL (he_ixL ((he_var 3 rfl).sub LstR.le) he_int (R := F2) rfl |>.sub LstR.le) he_int (R := PtR c p t b2.1.1 b2.1.2) rfl) ha_nil))) hnd) ?_
  let zs : List Int := cutL ns (some 1) (some 5)
  have hzs : zs.length ≤ 63 := Nat.le_trans (cutL_len ns _ _) hns
  have gp := g_point (P := P) (w := w) (base := base) (Tb := tabs3 tca tmi tbe) (c := c) (n := 1) Gg N L V
  have big : 65 ≤ sizeLine := by decide
  refine rs_cons (np_set 10 (R := LstR (List.replicate (2 + zs.length) (PtX c p t 63))) ((he_cat (Ss := List.replicate zs.length (PtX c p t 63)) (he_var 10 rfl) (he_lc (Ys := enumR K 0 (zs.map IntR)) ?_ bk_pts hnd (tgb_tup (js := [11, 12]) (by simp) (fun s' H' C cl fp => pg_tup rfl (pgs_names 11 (pgs_names 12 pgs_names0 hnd) hnd) rfl rfl)) ?_ ?_ ?_) ?_).sub (lstR_le ?_ ?_)) hnd) ?_
  · refine hi_enum (he_eq (R := ListR K (cutL (ns.map IntR) (some 1) (some 5))) ((he_slL (l := some 1) (u := some 5) (he_var (R := ListR K (ns.map IntR)) 0 rfl) (ho_some he_int) (ho_some he_int)).sub LstR.le) ?_) M.enumerate
    rw [cutL_map]
    rfl
  · rw [List.length_replicate, enumR_len, List.length_map]
  · rw [enumR_len, List.length_map]; omega
  · intro i Y Z hY hZ
    rw [enumR_get, List.getElem?_map] at hY
    cases hq : zs[i]? with
    | none => rw [hq] at hY; cases hY
    | some z =>
      rw [hq] at hY
      cases hY
      have hi : i < zs.length := (List.getElem?_eq_some_iff.mp hq).1
      rw [List.getElem?_replicate, if_pos hi] at hZ
      cases hZ
      refine ⟨_, ⟨[IntR ((0 + i : Nat) : Int), IntR z], rfl, rfl, rfl⟩, fun s' H' C cl fp => ?_⟩
      exact he_call gp (rr _ (by decide)) (ha_cons (h_mix L r1 (by omega) (he_var 12 rfl) (he_var 11 rfl)) (ha_cons (he_var 2 rfl) ha_nil)) ⟨_, t, _, ht, rfl, rfl⟩
  · rw [List.length_replicate]; show 2 + zs.length ≤ sizeLine; omega
  · simp; omega
  · intro i R S h1 h2
    have hi : i < 2 + zs.length := by have := (List.getElem?_eq_some_iff.mp h2).1; simpa using this
    rw [List.getElem?_replicate, if_pos hi] at h2
    cases h2
    match i, h1 with
    | 0, h1 => cases h1; exact ExR.le (f := ptOf c p t (N := 63)) a1
    | 1, h1 => cases h1; exact ExR.le (f := ptOf c p t (N := 63)) b2
    | j + 2, h1 =>
      have h1' : (List.replicate zs.length (PtX c p t 63))[j]? = some R := by simpa using h1
      have hj : j < zs.length := by omega
      rw [List.getElem?_replicate, if_pos hj] at h1'
      cases h1'
      exact Rp.le_refl _
  -- point by point
  let G12 : Ctx := [some (ListR K (ns.map IntR)), some (IntR one), some (LstR (rootsL c t)), some (LstR [F1, F2]), none, some (ListR K [IntR (wayI k1), IntR (wayI k2)]), some (MovR c p k1 t mA), some (MovR c p k2 t mC), some (BehR (MovR c p k1 t mA) (MovR c p k2 t mC)), some (BehR (MovR c p k1 t mA) (MovR c p k1 t mB')), some (LstR (List.replicate (2 + zs.length) (PtX c p t 63))), none, none, none]
  show RetS (cxOf CX0 P w K mg base n_law "law" (defScope s_law) f cdv Ar outer s0 H E).nox (tabs3 tca tmi tbe) G12 ((defBody s_law).drop 12) (BoolR true)
  have back13 : ∀ Y : Rp, ∀ (i : Nat) (R : Rp), G12[i]? = some (some R) → ∃ R', (G12.set 13 (some Y))[i]? = some (some R') ∧ R'.le R := fun Y i R q => by
    by_cases h : i = 13
    · subst h; cases q
    · exact ⟨R, by rw [List.getElem?_set_ne (Ne.symm h)]; exact q, Rp.le_refl R⟩
  refine rs_cons (np_for (Ys := List.replicate (2 + zs.length) (PtX c p t 63)) (Gs := fun _ => G12) (hi_list ((he_var 10 rfl).sub LstR.le)) (tg_name 13 hnd) (fun i Y hY => ?_) PassesOwn.never) (rs_one (rp_ret he_bl))
  have hY' : Y = PtX c p t 63 := by
    have hi := (List.getElem?_eq_some_iff.mp hY).1
    rw [List.getElem?_replicate, if_pos (by simpa using hi)] at hY
    exact (Option.some.inj hY).symm
  subst hY'
  refine ⟨_, rfl, ns_open 13 rfl fun pt => ?_⟩
  have px := pt.2.1
  have py := pt.2.2
  have hb := mv_back k1 h1'.1 h1'.2 pt.1.1 pt.1.2
  have mv1 := mv_sz (kk := k1) hz sA px py
  have r45 := rr (43 + 2) (by decide)
  have r44 := rr (43 + 1) (by decide)
  refine ns_weak (G' := G12.set 13 (some (ptOf c p t pt))) (ns_cons (np_skip (HasT.eq (HasW.t (hw_or
    (ht_not (ht_val (h_same V O (by decide) r45 ht (h_beh V O (by decide) r45 ht hz sA sC px py hB hC (he_var 8 rfl) (he_var 13 rfl)) (h_mov V O (by decide) r44 ht hz sC mv1.1 mv1.2 hC (he_var 7 rfl) (h_mov V O (by decide) r44 ht hz sA px py hB (he_var 6 rfl) (he_var 13 rfl))))))
    fun _ => hw_or1 (ht_not (ht_val (h_same V O (by decide) r45 ht (h_beh V O (by decide) r45 ht hz sA sB px py hB hC (he_var 9 rfl) (he_var 13 rfl)) (he_var 13 rfl)))))) ?_))
    (ns_one (np_skip (HasT.eq (ht_not (ht_val (h_same V O (by decide) r45 ht (h_mov V O (by decide) r44 ht hz sA px py hB (he_call gm rM (ha_cons (he_ixL (he_var 5 rfl) he_int (R := IntR (wayI k1)) rfl) (ha_cons (he_ixL ((he_var 3 rfl).sub LstR.le) he_int (R := F1) rfl) (ha_cons he_bl ha_nil))) ⟨_, t, _, _, _, _, _, _, _, _, 70, 63, k1, false, ht, hz, z1, z2, hE, h1'.1, h1'.2, rfl, rfl⟩) (he_var 13 rfl)) (h_mov V O (by decide) r44 ht hz sA px py hB (he_var 6 rfl) (he_var 13 rfl))))) ?_)))) rfl (back13 _)
  · rw [decide_eq_true ⟨rfl, rfl⟩, decide_eq_true hb]; rfl
  · rw [decide_eq_true ⟨rfl, rfl⟩]; rfl
end
end Rl

set_option Elab.async false
set_option linter.all false
set_option maxRecDepth 100000
set_option maxHeartbeats 4000000
/-! The law's row, from what the top has written. -/
namespace Rl
open PySem PySem.Spec PyProof.Rows L2 NdefX LamX Tow
/-- what the top has written, all of it that the law needs -/
def Facts (K : PySem.W.Frag) (mg : Str → Option Value) (fa : Addr) : Prop :=
  ∃ (c : Cl) (p ca mi be tca tmi tbe : Addr) (fd : FuncData), NT K mg c ∧ NL K mg ∧ NV K mg p ca mi be ∧ NL2 K mg ∧ FnD K "law" "law" s_law [] fa fd ∧
    PySem.W.tabIn K "carrying" = some (ca, tca) ∧ PySem.W.tabIn K "mirroring" = some (mi, tmi) ∧ PySem.W.tabIn K "behind" = some (be, tbe) ∧
    K.lookup tca = none ∧ K.lookup tmi = none ∧ K.lookup tbe = none ∧ tca ≠ tmi ∧ tca ≠ tbe ∧ tmi ≠ tbe
theorem walk77 {l : PySem.W.OpenLaw} {q : Program} {loose : List Str} {XP : (Str → Option Value) → Heap → Prop} {YP : World → Heap → Prop} {d : DefRec} {K : Params → PySem.W.Frag}
    (hn : l.most = some 63) (hdf : d.params.defaults = []) (htr : l.prog.given.tree = none) (hi : importsNone q = true) (hY : ∀ (w : World) (h : Heap), YP w h → (K w.params).In h)
    (r1 : ((recsOf q).find? (fun e => e.name == ("carrying" : Str))).isSome = true) (r2 : ((recsOf q).find? (fun e => e.name == ("mirroring" : Str))).isSome = true) (r3 : ((recsOf q).find? (fun e => e.name == ("behind" : Str))).isSome = true)
    (F : ∀ (w : World) (mg : Str → Option Value) (fa : Addr) (h : Heap), (K w.params).In h → h.Ns mainGlobals mg → mg d.name = some (.ref fa) → Facts (K w.params) mg fa) :
    PySem.W.WalkO q loose XP YP l.row.toRowW d [] (fun f vs => PySem.call f vs) := by
  refine Att.attach_callB hn hdf fun w s₀ s₁ mg mb fa o pm cd doc a vs ns G Y ho hd hcd hmg hobj hints hlen hbits hg => ?_
  have KX := hY w _ Y
  obtain ⟨c, p, ca, mi, be, tca, tmi, tbe, fd, N, L, V, M, FL, t1, t2, t3, k1, k2, k3, d1, d2, d3⟩ := F w mg fa _ KX G.T.g hmg
  obtain ⟨e1, h1⟩ := Option.isSome_iff_exists.mp r1
  obtain ⟨e2, h2⟩ := Option.isSome_iff_exists.mp r2
  obtain ⟨e3, h3⟩ := Option.isSome_iff_exists.mp r3
  have c1 := PySem.W.tab_of G.T KX h1 t1
  have c2 := PySem.W.tab_of G.T KX h2 t2
  have c3 := PySem.W.tab_of G.T KX h3 t3
  refine own_call (P := l.prog) (w := w) (k := 56) (fa := fa) (fd := fd) (x := "_law_script") (cs := [(ca, tca), (mi, tmi), (be, tbe)]) (S := SLaw (K w.params)) (Tb := tabs3 tca tmi tbe) (fun q hq => ?_) G.T hi KX (fun q hq => ?_) (fun q hq => ?_) hg hobj hints (Nat.le_trans hlen (by decide)) ⟨rfl, by decide, by decide⟩ (fun base hs hT => ?_) (fun s u => FL.bindsA (ps := ["_law_script"]) (fun _ _ _ _ _ _ us hl => match us, hl with | [_], _ => rfl) s [u] rfl) ⟨ns, hlen, rfl, rfl⟩
  · simp [tabs3] at hq ⊢
    rcases hq with rfl | rfl | rfl <;> simp
  · simp at hq
    rcases hq with rfl | rfl | rfl
    · exact c1
    · exact c2
    · exact c3
  · simp at hq
    rcases hq with rfl | rfl | rfl
    · exact k1
    · exact k2
    · exact k3
  · have NBs : NB base mg ca mi be tca tmi tbe := ⟨hT (ca, tca) (by simp), hT (mi, tmi) (by simp), hT (be, tbe) (by simp), d1, d2, d3⟩
    exact fd_typed (k := 55) FL sc_law (fun Rs R ⟨_, _, e, _⟩ => by rw [e]; rfl) fun Rs R hS cdv A outer s H E hr => b_law ⟨hs, htr⟩ N L V NBs M Rs R hS fa cdv A outer s H E hr
end Rl

set_option Elab.async false
set_option linter.all false
set_option maxRecDepth 100000
set_option maxHeartbeats 4000000
namespace Rl
open PySem PySem.Spec PyProof.Rows L2 NdefX LamX Tow
section
theorem facts_mk {K : PySem.W.Frag} {h : Heap} {mg : Str → Option Value} {fa : Addr} (X : K.In h) (G : h.Ns mainGlobals mg) (hfa : mg "law" = some (.ref fa))
    {CF CM CR CP ca mi be tca tmi tbe : Addr}
    {f_n_Fraction : Addr} {oc_n_Fraction kV_n_Fraction dc_n_Fraction pm_n_Fraction ct_n_Fraction : Value} {od_n_Fraction an_n_Fraction : Option Addr} {sl_n_Fraction : Array (Option Value)}
    {cd_n_Fraction : Value}
    {T_n_Fraction : Addr} {ot_n_Fraction : Value} {odt_n_Fraction : Option Addr} {slt_n_Fraction : Array (Option Value)} {nt_n_Fraction : Nat} {u_n_Fraction : Value}
    {f_n_Mixed : Addr} {oc_n_Mixed kV_n_Mixed dc_n_Mixed pm_n_Mixed ct_n_Mixed : Value} {od_n_Mixed an_n_Mixed : Option Addr} {sl_n_Mixed : Array (Option Value)}
    {cd_n_Mixed : Value}
    {f_n_Root : Addr} {oc_n_Root kV_n_Root dc_n_Root pm_n_Root ct_n_Root : Value} {od_n_Root an_n_Root : Option Addr} {sl_n_Root : Array (Option Value)}
    {cd_n_Root : Value}
    {f_n_Point : Addr} {oc_n_Point kV_n_Point dc_n_Point pm_n_Point ct_n_Point : Value} {od_n_Point an_n_Point : Option Addr} {sl_n_Point : Array (Option Value)}
    {cd_n_Point : Value}
    {f_m_Fraction_plus : Addr} {oc_m_Fraction_plus kV_m_Fraction_plus dc_m_Fraction_plus pm_m_Fraction_plus ct_m_Fraction_plus : Value} {od_m_Fraction_plus an_m_Fraction_plus : Option Addr} {sl_m_Fraction_plus : Array (Option Value)}
    {cd_m_Fraction_plus : Value}
    {f_m_Fraction_times : Addr} {oc_m_Fraction_times kV_m_Fraction_times dc_m_Fraction_times pm_m_Fraction_times ct_m_Fraction_times : Value} {od_m_Fraction_times an_m_Fraction_times : Option Addr} {sl_m_Fraction_times : Array (Option Value)}
    {cd_m_Fraction_times : Value}
    {f_m_Fraction_one_by : Addr} {oc_m_Fraction_one_by kV_m_Fraction_one_by dc_m_Fraction_one_by pm_m_Fraction_one_by ct_m_Fraction_one_by : Value} {od_m_Fraction_one_by an_m_Fraction_one_by : Option Addr} {sl_m_Fraction_one_by : Array (Option Value)}
    {cd_m_Fraction_one_by : Value}
    {f_m_Fraction_turned : Addr} {oc_m_Fraction_turned kV_m_Fraction_turned dc_m_Fraction_turned pm_m_Fraction_turned ct_m_Fraction_turned : Value} {od_m_Fraction_turned an_m_Fraction_turned : Option Addr} {sl_m_Fraction_turned : Array (Option Value)}
    {cd_m_Fraction_turned : Value}
    {f_m_Fraction_sign : Addr} {oc_m_Fraction_sign kV_m_Fraction_sign dc_m_Fraction_sign pm_m_Fraction_sign ct_m_Fraction_sign : Value} {od_m_Fraction_sign an_m_Fraction_sign : Option Addr} {sl_m_Fraction_sign : Array (Option Value)}
    {cd_m_Fraction_sign : Value}
    {f_m_Fraction_storey : Addr} {oc_m_Fraction_storey kV_m_Fraction_storey dc_m_Fraction_storey pm_m_Fraction_storey ct_m_Fraction_storey : Value} {od_m_Fraction_storey an_m_Fraction_storey : Option Addr} {sl_m_Fraction_storey : Array (Option Value)}
    {cd_m_Fraction_storey : Value}
    {f_m_Fraction_told : Addr} {oc_m_Fraction_told kV_m_Fraction_told dc_m_Fraction_told pm_m_Fraction_told ct_m_Fraction_told : Value} {od_m_Fraction_told an_m_Fraction_told : Option Addr} {sl_m_Fraction_told : Array (Option Value)}
    {cd_m_Fraction_told : Value}
    {f_m_Fraction_minus : Addr} {oc_m_Fraction_minus kV_m_Fraction_minus dc_m_Fraction_minus pm_m_Fraction_minus ct_m_Fraction_minus : Value} {od_m_Fraction_minus an_m_Fraction_minus : Option Addr} {sl_m_Fraction_minus : Array (Option Value)}
    {cd_m_Fraction_minus : Value}
    {f_m_Fraction_over : Addr} {oc_m_Fraction_over kV_m_Fraction_over dc_m_Fraction_over pm_m_Fraction_over ct_m_Fraction_over : Value} {od_m_Fraction_over an_m_Fraction_over : Option Addr} {sl_m_Fraction_over : Array (Option Value)}
    {cd_m_Fraction_over : Value}
    {f_m_Fraction_is_nought : Addr} {oc_m_Fraction_is_nought kV_m_Fraction_is_nought dc_m_Fraction_is_nought pm_m_Fraction_is_nought ct_m_Fraction_is_nought : Value} {od_m_Fraction_is_nought an_m_Fraction_is_nought : Option Addr} {sl_m_Fraction_is_nought : Array (Option Value)}
    {cd_m_Fraction_is_nought : Value}
    {f_m_Mixed_plus : Addr} {oc_m_Mixed_plus kV_m_Mixed_plus dc_m_Mixed_plus pm_m_Mixed_plus ct_m_Mixed_plus : Value} {od_m_Mixed_plus an_m_Mixed_plus : Option Addr} {sl_m_Mixed_plus : Array (Option Value)}
    {cd_m_Mixed_plus : Value}
    {f_m_Mixed_times : Addr} {oc_m_Mixed_times kV_m_Mixed_times dc_m_Mixed_times pm_m_Mixed_times ct_m_Mixed_times : Value} {od_m_Mixed_times an_m_Mixed_times : Option Addr} {sl_m_Mixed_times : Array (Option Value)}
    {cd_m_Mixed_times : Value}
    {f_m_Mixed_norm : Addr} {oc_m_Mixed_norm kV_m_Mixed_norm dc_m_Mixed_norm pm_m_Mixed_norm ct_m_Mixed_norm : Value} {od_m_Mixed_norm an_m_Mixed_norm : Option Addr} {sl_m_Mixed_norm : Array (Option Value)}
    {cd_m_Mixed_norm : Value}
    {f_m_Mixed_one_by : Addr} {oc_m_Mixed_one_by kV_m_Mixed_one_by dc_m_Mixed_one_by pm_m_Mixed_one_by ct_m_Mixed_one_by : Value} {od_m_Mixed_one_by an_m_Mixed_one_by : Option Addr} {sl_m_Mixed_one_by : Array (Option Value)}
    {cd_m_Mixed_one_by : Value}
    {f_m_Mixed_turned : Addr} {oc_m_Mixed_turned kV_m_Mixed_turned dc_m_Mixed_turned pm_m_Mixed_turned ct_m_Mixed_turned : Value} {od_m_Mixed_turned an_m_Mixed_turned : Option Addr} {sl_m_Mixed_turned : Array (Option Value)}
    {cd_m_Mixed_turned : Value}
    {f_m_Mixed_storey : Addr} {oc_m_Mixed_storey kV_m_Mixed_storey dc_m_Mixed_storey pm_m_Mixed_storey ct_m_Mixed_storey : Value} {od_m_Mixed_storey an_m_Mixed_storey : Option Addr} {sl_m_Mixed_storey : Array (Option Value)}
    {cd_m_Mixed_storey : Value}
    {f_m_Mixed_told : Addr} {oc_m_Mixed_told kV_m_Mixed_told dc_m_Mixed_told pm_m_Mixed_told ct_m_Mixed_told : Value} {od_m_Mixed_told an_m_Mixed_told : Option Addr} {sl_m_Mixed_told : Array (Option Value)}
    {cd_m_Mixed_told : Value}
    {f_m_Mixed_is_nought : Addr} {oc_m_Mixed_is_nought kV_m_Mixed_is_nought dc_m_Mixed_is_nought pm_m_Mixed_is_nought ct_m_Mixed_is_nought : Value} {od_m_Mixed_is_nought an_m_Mixed_is_nought : Option Addr} {sl_m_Mixed_is_nought : Array (Option Value)}
    {cd_m_Mixed_is_nought : Value}
    {f_m_Mixed_minus : Addr} {oc_m_Mixed_minus kV_m_Mixed_minus dc_m_Mixed_minus pm_m_Mixed_minus ct_m_Mixed_minus : Value} {od_m_Mixed_minus an_m_Mixed_minus : Option Addr} {sl_m_Mixed_minus : Array (Option Value)}
    {cd_m_Mixed_minus : Value}
    {f_m_Mixed_over : Addr} {oc_m_Mixed_over kV_m_Mixed_over dc_m_Mixed_over pm_m_Mixed_over ct_m_Mixed_over : Value} {od_m_Mixed_over an_m_Mixed_over : Option Addr} {sl_m_Mixed_over : Array (Option Value)}
    {cd_m_Mixed_over : Value}
    {f_m_Point_same : Addr} {oc_m_Point_same kV_m_Point_same dc_m_Point_same pm_m_Point_same ct_m_Point_same : Value} {od_m_Point_same an_m_Point_same : Option Addr} {sl_m_Point_same : Array (Option Value)}
    {cd_m_Point_same : Value}
    {f_g_mixed : Addr} {oc_g_mixed kV_g_mixed dc_g_mixed pm_g_mixed ct_g_mixed : Value} {od_g_mixed an_g_mixed : Option Addr} {sl_g_mixed : Array (Option Value)}
    {cd_g_mixed : Value}
    {f_g_common : Addr} {oc_g_common kV_g_common dc_g_common pm_g_common ct_g_common : Value} {od_g_common an_g_common : Option Addr} {sl_g_common : Array (Option Value)}
    {cd_g_common : Value}
    {f_g_alike : Addr} {oc_g_alike kV_g_alike dc_g_alike pm_g_alike ct_g_alike : Value} {od_g_alike an_g_alike : Option Addr} {sl_g_alike : Array (Option Value)}
    {cd_g_alike : Value}
    {f_g_ways_between : Addr} {oc_g_ways_between kV_g_ways_between dc_g_ways_between pm_g_ways_between ct_g_ways_between : Value} {od_g_ways_between an_g_ways_between : Option Addr} {sl_g_ways_between : Array (Option Value)}
    {cd_g_ways_between : Value}
    {f_g_carrying : Addr} {oc_g_carrying kV_g_carrying dc_g_carrying pm_g_carrying ct_g_carrying : Value} {od_g_carrying an_g_carrying : Option Addr} {sl_g_carrying : Array (Option Value)}
    {f_g_mirroring : Addr} {oc_g_mirroring kV_g_mirroring dc_g_mirroring pm_g_mirroring ct_g_mirroring : Value} {od_g_mirroring an_g_mirroring : Option Addr} {sl_g_mirroring : Array (Option Value)}
    {f_g_behind : Addr} {oc_g_behind kV_g_behind dc_g_behind pm_g_behind ct_g_behind : Value} {od_g_behind an_g_behind : Option Addr} {sl_g_behind : Array (Option Value)}
    {f_g__law_cell_at : Addr} {oc_g__law_cell_at kV_g__law_cell_at dc_g__law_cell_at pm_g__law_cell_at ct_g__law_cell_at : Value} {od_g__law_cell_at an_g__law_cell_at : Option Addr} {sl_g__law_cell_at : Array (Option Value)}
    {cd_g__law_cell_at : Value}
    {f_g__law_mix : Addr} {oc_g__law_mix kV_g__law_mix dc_g__law_mix pm_g__law_mix ct_g__law_mix : Value} {od_g__law_mix an_g__law_mix : Option Addr} {sl_g__law_mix : Array (Option Value)}
    {cd_g__law_mix : Value}
    {f_g__law_fraction : Addr} {oc_g__law_fraction kV_g__law_fraction dc_g__law_fraction pm_g__law_fraction ct_g__law_fraction : Value} {od_g__law_fraction an_g__law_fraction : Option Addr} {sl_g__law_fraction : Array (Option Value)}
    {cd_g__law_fraction : Value}
    {f_g__law_scaled : Addr} {oc_g__law_scaled kV_g__law_scaled dc_g__law_scaled pm_g__law_scaled ct_g__law_scaled : Value} {od_g__law_scaled an_g__law_scaled : Option Addr} {sl_g__law_scaled : Array (Option Value)}
    {cd_g__law_scaled : Value}
    {f_g__law_chain : Addr} {oc_g__law_chain kV_g__law_chain dc_g__law_chain pm_g__law_chain ct_g__law_chain : Value} {od_g__law_chain an_g__law_chain : Option Addr} {sl_g__law_chain : Array (Option Value)}
    {cd_g__law_chain : Value}
    {f_g__law_floor : Addr} {oc_g__law_floor kV_g__law_floor dc_g__law_floor pm_g__law_floor ct_g__law_floor : Value} {od_g__law_floor an_g__law_floor : Option Addr} {sl_g__law_floor : Array (Option Value)}
    {cd_g__law_floor : Value}
    {f_g__law_roots : Addr} {oc_g__law_roots kV_g__law_roots dc_g__law_roots pm_g__law_roots ct_g__law_roots : Value} {od_g__law_roots an_g__law_roots : Option Addr} {sl_g__law_roots : Array (Option Value)}
    {cd_g__law_roots : Value}
    {f_g__law_number : Addr} {oc_g__law_number kV_g__law_number dc_g__law_number pm_g__law_number ct_g__law_number : Value} {od_g__law_number an_g__law_number : Option Addr} {sl_g__law_number : Array (Option Value)}
    {cd_g__law_number : Value}
    {T_g__law_number : Addr} {ot_g__law_number : Value} {odt_g__law_number : Option Addr} {slt_g__law_number : Array (Option Value)} {nt_g__law_number : Nat} {u_g__law_number : Value}
    {f_g__law_point : Addr} {oc_g__law_point kV_g__law_point dc_g__law_point pm_g__law_point ct_g__law_point : Value} {od_g__law_point an_g__law_point : Option Addr} {sl_g__law_point : Array (Option Value)}
    {cd_g__law_point : Value}
    {f_g__law_four : Addr} {oc_g__law_four kV_g__law_four dc_g__law_four pm_g__law_four ct_g__law_four : Value} {od_g__law_four an_g__law_four : Option Addr} {sl_g__law_four : Array (Option Value)}
    {cd_g__law_four : Value}
    {f_g__law_moving : Addr} {oc_g__law_moving kV_g__law_moving dc_g__law_moving pm_g__law_moving ct_g__law_moving : Value} {od_g__law_moving an_g__law_moving : Option Addr} {sl_g__law_moving : Array (Option Value)}
    {cd_g__law_moving : Value}
    {f_g__law_by_hand : Addr} {oc_g__law_by_hand kV_g__law_by_hand dc_g__law_by_hand pm_g__law_by_hand ct_g__law_by_hand : Value} {od_g__law_by_hand an_g__law_by_hand : Option Addr} {sl_g__law_by_hand : Array (Option Value)}
    {cd_g__law_by_hand : Value}
    {f_g_law : Addr} {oc_g_law kV_g_law dc_g_law pm_g_law ct_g_law : Value} {od_g_law an_g_law : Option Addr} {sl_g_law : Array (Option Value)}
    {cd_g_law : Value}
    (b_n_Fraction : PySem.W.nsIn K mainGlobals "Fraction" = some (some (.ref CF)))
    (pg_n_Fraction : PySem.W.plainGet K CF Str.empty = true)
    (hd_n_Fraction : PySem.W.hasDictIn K CF = true)
    (po_n_Fraction : PySem.W.plainOver K CF = true)
    (sa_n_Fraction : PySem.W.findIn K (.ref CF) "__setattr__" = some (some (.builtin "object.__setattr__")))
    (mk_n_Fraction : PySem.W.makesIn K CF = true)
    (kc_n_Fraction : PySem.W.keepIn K (.ref CF) = true)
    (a_n_Fraction : PySem.W.findIn K (.ref CF) "__init__" = some (some (.ref f_n_Fraction)))
    (i_n_Fraction : PySem.W.isFn K (.ref f_n_Fraction) = true)
    (l_n_Fraction : K.lookup f_n_Fraction = some ⟨oc_n_Fraction, od_n_Fraction, .func (PySem.W.fnOf "__init__" "Fraction.__init__" (defArgs s_Fraction_init) (defBody s_Fraction_init) (defScope s_Fraction_init) (.ref T_n_Fraction) kV_n_Fraction dc_n_Fraction pm_n_Fraction an_n_Fraction cd_n_Fraction ct_n_Fraction), sl_n_Fraction⟩)
    (c_n_Fraction : PySem.W.codeIn K cd_n_Fraction "Fraction.__init__" = true)
    (k_n_Fraction : PySem.W.keepIn K (.ref f_n_Fraction) = true)
    (d_n_Fraction : K.lookup T_n_Fraction = some ⟨ot_n_Fraction, odt_n_Fraction, .seq #[u_n_Fraction] nt_n_Fraction, slt_n_Fraction⟩)
    (e_n_Fraction : RelV (.int 1) u_n_Fraction)
    (b_n_Mixed : PySem.W.nsIn K mainGlobals "Mixed" = some (some (.ref CM)))
    (pg_n_Mixed : PySem.W.plainGet K CM Str.empty = true)
    (hd_n_Mixed : PySem.W.hasDictIn K CM = true)
    (po_n_Mixed : PySem.W.plainOver K CM = true)
    (sa_n_Mixed : PySem.W.findIn K (.ref CM) "__setattr__" = some (some (.builtin "object.__setattr__")))
    (mk_n_Mixed : PySem.W.makesIn K CM = true)
    (kc_n_Mixed : PySem.W.keepIn K (.ref CM) = true)
    (a_n_Mixed : PySem.W.findIn K (.ref CM) "__init__" = some (some (.ref f_n_Mixed)))
    (i_n_Mixed : PySem.W.isFn K (.ref f_n_Mixed) = true)
    (l_n_Mixed : K.lookup f_n_Mixed = some ⟨oc_n_Mixed, od_n_Mixed, .func (PySem.W.fnOf "__init__" "Mixed.__init__" (defArgs s_Mixed_init) (defBody s_Mixed_init) (defScope s_Mixed_init) .none kV_n_Mixed dc_n_Mixed pm_n_Mixed an_n_Mixed cd_n_Mixed ct_n_Mixed), sl_n_Mixed⟩)
    (c_n_Mixed : PySem.W.codeIn K cd_n_Mixed "Mixed.__init__" = true)
    (k_n_Mixed : PySem.W.keepIn K (.ref f_n_Mixed) = true)
    (b_n_Root : PySem.W.nsIn K mainGlobals "Root" = some (some (.ref CR)))
    (pg_n_Root : PySem.W.plainGet K CR Str.empty = true)
    (hd_n_Root : PySem.W.hasDictIn K CR = true)
    (po_n_Root : PySem.W.plainOver K CR = true)
    (sa_n_Root : PySem.W.findIn K (.ref CR) "__setattr__" = some (some (.builtin "object.__setattr__")))
    (mk_n_Root : PySem.W.makesIn K CR = true)
    (kc_n_Root : PySem.W.keepIn K (.ref CR) = true)
    (a_n_Root : PySem.W.findIn K (.ref CR) "__init__" = some (some (.ref f_n_Root)))
    (i_n_Root : PySem.W.isFn K (.ref f_n_Root) = true)
    (l_n_Root : K.lookup f_n_Root = some ⟨oc_n_Root, od_n_Root, .func (PySem.W.fnOf "__init__" "Root.__init__" (defArgs s_Root_init) (defBody s_Root_init) (defScope s_Root_init) .none kV_n_Root dc_n_Root pm_n_Root an_n_Root cd_n_Root ct_n_Root), sl_n_Root⟩)
    (c_n_Root : PySem.W.codeIn K cd_n_Root "Root.__init__" = true)
    (k_n_Root : PySem.W.keepIn K (.ref f_n_Root) = true)
    (b_n_Point : PySem.W.nsIn K mainGlobals "Point" = some (some (.ref CP)))
    (pg_n_Point : PySem.W.plainGet K CP Str.empty = true)
    (hd_n_Point : PySem.W.hasDictIn K CP = true)
    (po_n_Point : PySem.W.plainOver K CP = true)
    (sa_n_Point : PySem.W.findIn K (.ref CP) "__setattr__" = some (some (.builtin "object.__setattr__")))
    (mk_n_Point : PySem.W.makesIn K CP = true)
    (kc_n_Point : PySem.W.keepIn K (.ref CP) = true)
    (a_n_Point : PySem.W.findIn K (.ref CP) "__init__" = some (some (.ref f_n_Point)))
    (i_n_Point : PySem.W.isFn K (.ref f_n_Point) = true)
    (l_n_Point : K.lookup f_n_Point = some ⟨oc_n_Point, od_n_Point, .func (PySem.W.fnOf "__init__" "Point.__init__" (defArgs s_Point_init) (defBody s_Point_init) (defScope s_Point_init) .none kV_n_Point dc_n_Point pm_n_Point an_n_Point cd_n_Point ct_n_Point), sl_n_Point⟩)
    (c_n_Point : PySem.W.codeIn K cd_n_Point "Point.__init__" = true)
    (k_n_Point : PySem.W.keepIn K (.ref f_n_Point) = true)
    (o_Fraction_top : PySem.W.findIn K (.ref CF) "top" = some none)
    (o_Fraction_bottom : PySem.W.findIn K (.ref CF) "bottom" = some none)
    (o_Mixed_plain : PySem.W.findIn K (.ref CM) "plain" = some none)
    (o_Mixed_part : PySem.W.findIn K (.ref CM) "part" = some none)
    (o_Mixed_root : PySem.W.findIn K (.ref CM) "root" = some none)
    (o_Root_place : PySem.W.findIn K (.ref CR) "place" = some none)
    (o_Root_square : PySem.W.findIn K (.ref CR) "square" = some none)
    (o_Point_x : PySem.W.findIn K (.ref CP) "x" = some none)
    (o_Point_y : PySem.W.findIn K (.ref CP) "y" = some none)
    (a_m_Fraction_plus : PySem.W.findIn K (.ref CF) "plus" = some (some (.ref f_m_Fraction_plus)))
    (i_m_Fraction_plus : PySem.W.isFn K (.ref f_m_Fraction_plus) = true)
    (l_m_Fraction_plus : K.lookup f_m_Fraction_plus = some ⟨oc_m_Fraction_plus, od_m_Fraction_plus, .func (PySem.W.fnOf "plus" "Fraction.plus" (defArgs s_Fraction_plus) (defBody s_Fraction_plus) (defScope s_Fraction_plus) .none kV_m_Fraction_plus dc_m_Fraction_plus pm_m_Fraction_plus an_m_Fraction_plus cd_m_Fraction_plus ct_m_Fraction_plus), sl_m_Fraction_plus⟩)
    (c_m_Fraction_plus : PySem.W.codeIn K cd_m_Fraction_plus "Fraction.plus" = true)
    (k_m_Fraction_plus : PySem.W.keepIn K (.ref f_m_Fraction_plus) = true)
    (a_m_Fraction_times : PySem.W.findIn K (.ref CF) "times" = some (some (.ref f_m_Fraction_times)))
    (i_m_Fraction_times : PySem.W.isFn K (.ref f_m_Fraction_times) = true)
    (l_m_Fraction_times : K.lookup f_m_Fraction_times = some ⟨oc_m_Fraction_times, od_m_Fraction_times, .func (PySem.W.fnOf "times" "Fraction.times" (defArgs s_Fraction_times) (defBody s_Fraction_times) (defScope s_Fraction_times) .none kV_m_Fraction_times dc_m_Fraction_times pm_m_Fraction_times an_m_Fraction_times cd_m_Fraction_times ct_m_Fraction_times), sl_m_Fraction_times⟩)
    (c_m_Fraction_times : PySem.W.codeIn K cd_m_Fraction_times "Fraction.times" = true)
    (k_m_Fraction_times : PySem.W.keepIn K (.ref f_m_Fraction_times) = true)
    (a_m_Fraction_one_by : PySem.W.findIn K (.ref CF) "one_by" = some (some (.ref f_m_Fraction_one_by)))
    (i_m_Fraction_one_by : PySem.W.isFn K (.ref f_m_Fraction_one_by) = true)
    (l_m_Fraction_one_by : K.lookup f_m_Fraction_one_by = some ⟨oc_m_Fraction_one_by, od_m_Fraction_one_by, .func (PySem.W.fnOf "one_by" "Fraction.one_by" (defArgs s_Fraction_one_by) (defBody s_Fraction_one_by) (defScope s_Fraction_one_by) .none kV_m_Fraction_one_by dc_m_Fraction_one_by pm_m_Fraction_one_by an_m_Fraction_one_by cd_m_Fraction_one_by ct_m_Fraction_one_by), sl_m_Fraction_one_by⟩)
    (c_m_Fraction_one_by : PySem.W.codeIn K cd_m_Fraction_one_by "Fraction.one_by" = true)
    (k_m_Fraction_one_by : PySem.W.keepIn K (.ref f_m_Fraction_one_by) = true)
    (a_m_Fraction_turned : PySem.W.findIn K (.ref CF) "turned" = some (some (.ref f_m_Fraction_turned)))
    (i_m_Fraction_turned : PySem.W.isFn K (.ref f_m_Fraction_turned) = true)
    (l_m_Fraction_turned : K.lookup f_m_Fraction_turned = some ⟨oc_m_Fraction_turned, od_m_Fraction_turned, .func (PySem.W.fnOf "turned" "Fraction.turned" (defArgs s_Fraction_turned) (defBody s_Fraction_turned) (defScope s_Fraction_turned) .none kV_m_Fraction_turned dc_m_Fraction_turned pm_m_Fraction_turned an_m_Fraction_turned cd_m_Fraction_turned ct_m_Fraction_turned), sl_m_Fraction_turned⟩)
    (c_m_Fraction_turned : PySem.W.codeIn K cd_m_Fraction_turned "Fraction.turned" = true)
    (k_m_Fraction_turned : PySem.W.keepIn K (.ref f_m_Fraction_turned) = true)
    (a_m_Fraction_sign : PySem.W.findIn K (.ref CF) "sign" = some (some (.ref f_m_Fraction_sign)))
    (i_m_Fraction_sign : PySem.W.isFn K (.ref f_m_Fraction_sign) = true)
    (l_m_Fraction_sign : K.lookup f_m_Fraction_sign = some ⟨oc_m_Fraction_sign, od_m_Fraction_sign, .func (PySem.W.fnOf "sign" "Fraction.sign" (defArgs s_Fraction_sign) (defBody s_Fraction_sign) (defScope s_Fraction_sign) .none kV_m_Fraction_sign dc_m_Fraction_sign pm_m_Fraction_sign an_m_Fraction_sign cd_m_Fraction_sign ct_m_Fraction_sign), sl_m_Fraction_sign⟩)
    (c_m_Fraction_sign : PySem.W.codeIn K cd_m_Fraction_sign "Fraction.sign" = true)
    (k_m_Fraction_sign : PySem.W.keepIn K (.ref f_m_Fraction_sign) = true)
    (a_m_Fraction_storey : PySem.W.findIn K (.ref CF) "storey" = some (some (.ref f_m_Fraction_storey)))
    (i_m_Fraction_storey : PySem.W.isFn K (.ref f_m_Fraction_storey) = true)
    (l_m_Fraction_storey : K.lookup f_m_Fraction_storey = some ⟨oc_m_Fraction_storey, od_m_Fraction_storey, .func (PySem.W.fnOf "storey" "Fraction.storey" (defArgs s_Fraction_storey) (defBody s_Fraction_storey) (defScope s_Fraction_storey) .none kV_m_Fraction_storey dc_m_Fraction_storey pm_m_Fraction_storey an_m_Fraction_storey cd_m_Fraction_storey ct_m_Fraction_storey), sl_m_Fraction_storey⟩)
    (c_m_Fraction_storey : PySem.W.codeIn K cd_m_Fraction_storey "Fraction.storey" = true)
    (k_m_Fraction_storey : PySem.W.keepIn K (.ref f_m_Fraction_storey) = true)
    (a_m_Fraction_told : PySem.W.findIn K (.ref CF) "told" = some (some (.ref f_m_Fraction_told)))
    (i_m_Fraction_told : PySem.W.isFn K (.ref f_m_Fraction_told) = true)
    (l_m_Fraction_told : K.lookup f_m_Fraction_told = some ⟨oc_m_Fraction_told, od_m_Fraction_told, .func (PySem.W.fnOf "told" "Fraction.told" (defArgs s_Fraction_told) (defBody s_Fraction_told) (defScope s_Fraction_told) .none kV_m_Fraction_told dc_m_Fraction_told pm_m_Fraction_told an_m_Fraction_told cd_m_Fraction_told ct_m_Fraction_told), sl_m_Fraction_told⟩)
    (c_m_Fraction_told : PySem.W.codeIn K cd_m_Fraction_told "Fraction.told" = true)
    (k_m_Fraction_told : PySem.W.keepIn K (.ref f_m_Fraction_told) = true)
    (a_m_Fraction_minus : PySem.W.findIn K (.ref CF) "minus" = some (some (.ref f_m_Fraction_minus)))
    (i_m_Fraction_minus : PySem.W.isFn K (.ref f_m_Fraction_minus) = true)
    (l_m_Fraction_minus : K.lookup f_m_Fraction_minus = some ⟨oc_m_Fraction_minus, od_m_Fraction_minus, .func (PySem.W.fnOf "minus" "Number.minus" (defArgs s_Number_minus) (defBody s_Number_minus) (defScope s_Number_minus) .none kV_m_Fraction_minus dc_m_Fraction_minus pm_m_Fraction_minus an_m_Fraction_minus cd_m_Fraction_minus ct_m_Fraction_minus), sl_m_Fraction_minus⟩)
    (c_m_Fraction_minus : PySem.W.codeIn K cd_m_Fraction_minus "Number.minus" = true)
    (k_m_Fraction_minus : PySem.W.keepIn K (.ref f_m_Fraction_minus) = true)
    (a_m_Fraction_over : PySem.W.findIn K (.ref CF) "over" = some (some (.ref f_m_Fraction_over)))
    (i_m_Fraction_over : PySem.W.isFn K (.ref f_m_Fraction_over) = true)
    (l_m_Fraction_over : K.lookup f_m_Fraction_over = some ⟨oc_m_Fraction_over, od_m_Fraction_over, .func (PySem.W.fnOf "over" "Number.over" (defArgs s_Number_over) (defBody s_Number_over) (defScope s_Number_over) .none kV_m_Fraction_over dc_m_Fraction_over pm_m_Fraction_over an_m_Fraction_over cd_m_Fraction_over ct_m_Fraction_over), sl_m_Fraction_over⟩)
    (c_m_Fraction_over : PySem.W.codeIn K cd_m_Fraction_over "Number.over" = true)
    (k_m_Fraction_over : PySem.W.keepIn K (.ref f_m_Fraction_over) = true)
    (a_m_Fraction_is_nought : PySem.W.findIn K (.ref CF) "is_nought" = some (some (.ref f_m_Fraction_is_nought)))
    (i_m_Fraction_is_nought : PySem.W.isFn K (.ref f_m_Fraction_is_nought) = true)
    (l_m_Fraction_is_nought : K.lookup f_m_Fraction_is_nought = some ⟨oc_m_Fraction_is_nought, od_m_Fraction_is_nought, .func (PySem.W.fnOf "is_nought" "Number.is_nought" (defArgs s_Number_is_nought) (defBody s_Number_is_nought) (defScope s_Number_is_nought) .none kV_m_Fraction_is_nought dc_m_Fraction_is_nought pm_m_Fraction_is_nought an_m_Fraction_is_nought cd_m_Fraction_is_nought ct_m_Fraction_is_nought), sl_m_Fraction_is_nought⟩)
    (c_m_Fraction_is_nought : PySem.W.codeIn K cd_m_Fraction_is_nought "Number.is_nought" = true)
    (k_m_Fraction_is_nought : PySem.W.keepIn K (.ref f_m_Fraction_is_nought) = true)
    (a_m_Mixed_plus : PySem.W.findIn K (.ref CM) "plus" = some (some (.ref f_m_Mixed_plus)))
    (i_m_Mixed_plus : PySem.W.isFn K (.ref f_m_Mixed_plus) = true)
    (l_m_Mixed_plus : K.lookup f_m_Mixed_plus = some ⟨oc_m_Mixed_plus, od_m_Mixed_plus, .func (PySem.W.fnOf "plus" "Mixed.plus" (defArgs s_Mixed_plus) (defBody s_Mixed_plus) (defScope s_Mixed_plus) .none kV_m_Mixed_plus dc_m_Mixed_plus pm_m_Mixed_plus an_m_Mixed_plus cd_m_Mixed_plus ct_m_Mixed_plus), sl_m_Mixed_plus⟩)
    (c_m_Mixed_plus : PySem.W.codeIn K cd_m_Mixed_plus "Mixed.plus" = true)
    (k_m_Mixed_plus : PySem.W.keepIn K (.ref f_m_Mixed_plus) = true)
    (a_m_Mixed_times : PySem.W.findIn K (.ref CM) "times" = some (some (.ref f_m_Mixed_times)))
    (i_m_Mixed_times : PySem.W.isFn K (.ref f_m_Mixed_times) = true)
    (l_m_Mixed_times : K.lookup f_m_Mixed_times = some ⟨oc_m_Mixed_times, od_m_Mixed_times, .func (PySem.W.fnOf "times" "Mixed.times" (defArgs s_Mixed_times) (defBody s_Mixed_times) (defScope s_Mixed_times) .none kV_m_Mixed_times dc_m_Mixed_times pm_m_Mixed_times an_m_Mixed_times cd_m_Mixed_times ct_m_Mixed_times), sl_m_Mixed_times⟩)
    (c_m_Mixed_times : PySem.W.codeIn K cd_m_Mixed_times "Mixed.times" = true)
    (k_m_Mixed_times : PySem.W.keepIn K (.ref f_m_Mixed_times) = true)
    (a_m_Mixed_norm : PySem.W.findIn K (.ref CM) "norm" = some (some (.ref f_m_Mixed_norm)))
    (i_m_Mixed_norm : PySem.W.isFn K (.ref f_m_Mixed_norm) = true)
    (l_m_Mixed_norm : K.lookup f_m_Mixed_norm = some ⟨oc_m_Mixed_norm, od_m_Mixed_norm, .func (PySem.W.fnOf "norm" "Mixed.norm" (defArgs s_Mixed_norm) (defBody s_Mixed_norm) (defScope s_Mixed_norm) .none kV_m_Mixed_norm dc_m_Mixed_norm pm_m_Mixed_norm an_m_Mixed_norm cd_m_Mixed_norm ct_m_Mixed_norm), sl_m_Mixed_norm⟩)
    (c_m_Mixed_norm : PySem.W.codeIn K cd_m_Mixed_norm "Mixed.norm" = true)
    (k_m_Mixed_norm : PySem.W.keepIn K (.ref f_m_Mixed_norm) = true)
    (a_m_Mixed_one_by : PySem.W.findIn K (.ref CM) "one_by" = some (some (.ref f_m_Mixed_one_by)))
    (i_m_Mixed_one_by : PySem.W.isFn K (.ref f_m_Mixed_one_by) = true)
    (l_m_Mixed_one_by : K.lookup f_m_Mixed_one_by = some ⟨oc_m_Mixed_one_by, od_m_Mixed_one_by, .func (PySem.W.fnOf "one_by" "Mixed.one_by" (defArgs s_Mixed_one_by) (defBody s_Mixed_one_by) (defScope s_Mixed_one_by) .none kV_m_Mixed_one_by dc_m_Mixed_one_by pm_m_Mixed_one_by an_m_Mixed_one_by cd_m_Mixed_one_by ct_m_Mixed_one_by), sl_m_Mixed_one_by⟩)
    (c_m_Mixed_one_by : PySem.W.codeIn K cd_m_Mixed_one_by "Mixed.one_by" = true)
    (k_m_Mixed_one_by : PySem.W.keepIn K (.ref f_m_Mixed_one_by) = true)
    (a_m_Mixed_turned : PySem.W.findIn K (.ref CM) "turned" = some (some (.ref f_m_Mixed_turned)))
    (i_m_Mixed_turned : PySem.W.isFn K (.ref f_m_Mixed_turned) = true)
    (l_m_Mixed_turned : K.lookup f_m_Mixed_turned = some ⟨oc_m_Mixed_turned, od_m_Mixed_turned, .func (PySem.W.fnOf "turned" "Mixed.turned" (defArgs s_Mixed_turned) (defBody s_Mixed_turned) (defScope s_Mixed_turned) .none kV_m_Mixed_turned dc_m_Mixed_turned pm_m_Mixed_turned an_m_Mixed_turned cd_m_Mixed_turned ct_m_Mixed_turned), sl_m_Mixed_turned⟩)
    (c_m_Mixed_turned : PySem.W.codeIn K cd_m_Mixed_turned "Mixed.turned" = true)
    (k_m_Mixed_turned : PySem.W.keepIn K (.ref f_m_Mixed_turned) = true)
    (a_m_Mixed_storey : PySem.W.findIn K (.ref CM) "storey" = some (some (.ref f_m_Mixed_storey)))
    (i_m_Mixed_storey : PySem.W.isFn K (.ref f_m_Mixed_storey) = true)
    (l_m_Mixed_storey : K.lookup f_m_Mixed_storey = some ⟨oc_m_Mixed_storey, od_m_Mixed_storey, .func (PySem.W.fnOf "storey" "Mixed.storey" (defArgs s_Mixed_storey) (defBody s_Mixed_storey) (defScope s_Mixed_storey) .none kV_m_Mixed_storey dc_m_Mixed_storey pm_m_Mixed_storey an_m_Mixed_storey cd_m_Mixed_storey ct_m_Mixed_storey), sl_m_Mixed_storey⟩)
    (c_m_Mixed_storey : PySem.W.codeIn K cd_m_Mixed_storey "Mixed.storey" = true)
    (k_m_Mixed_storey : PySem.W.keepIn K (.ref f_m_Mixed_storey) = true)
    (a_m_Mixed_told : PySem.W.findIn K (.ref CM) "told" = some (some (.ref f_m_Mixed_told)))
    (i_m_Mixed_told : PySem.W.isFn K (.ref f_m_Mixed_told) = true)
    (l_m_Mixed_told : K.lookup f_m_Mixed_told = some ⟨oc_m_Mixed_told, od_m_Mixed_told, .func (PySem.W.fnOf "told" "Mixed.told" (defArgs s_Mixed_told) (defBody s_Mixed_told) (defScope s_Mixed_told) .none kV_m_Mixed_told dc_m_Mixed_told pm_m_Mixed_told an_m_Mixed_told cd_m_Mixed_told ct_m_Mixed_told), sl_m_Mixed_told⟩)
    (c_m_Mixed_told : PySem.W.codeIn K cd_m_Mixed_told "Mixed.told" = true)
    (k_m_Mixed_told : PySem.W.keepIn K (.ref f_m_Mixed_told) = true)
    (a_m_Mixed_is_nought : PySem.W.findIn K (.ref CM) "is_nought" = some (some (.ref f_m_Mixed_is_nought)))
    (i_m_Mixed_is_nought : PySem.W.isFn K (.ref f_m_Mixed_is_nought) = true)
    (l_m_Mixed_is_nought : K.lookup f_m_Mixed_is_nought = some ⟨oc_m_Mixed_is_nought, od_m_Mixed_is_nought, .func (PySem.W.fnOf "is_nought" "Mixed.is_nought" (defArgs s_Mixed_is_nought) (defBody s_Mixed_is_nought) (defScope s_Mixed_is_nought) .none kV_m_Mixed_is_nought dc_m_Mixed_is_nought pm_m_Mixed_is_nought an_m_Mixed_is_nought cd_m_Mixed_is_nought ct_m_Mixed_is_nought), sl_m_Mixed_is_nought⟩)
    (c_m_Mixed_is_nought : PySem.W.codeIn K cd_m_Mixed_is_nought "Mixed.is_nought" = true)
    (k_m_Mixed_is_nought : PySem.W.keepIn K (.ref f_m_Mixed_is_nought) = true)
    (a_m_Mixed_minus : PySem.W.findIn K (.ref CM) "minus" = some (some (.ref f_m_Mixed_minus)))
    (i_m_Mixed_minus : PySem.W.isFn K (.ref f_m_Mixed_minus) = true)
    (l_m_Mixed_minus : K.lookup f_m_Mixed_minus = some ⟨oc_m_Mixed_minus, od_m_Mixed_minus, .func (PySem.W.fnOf "minus" "Number.minus" (defArgs s_Number_minus) (defBody s_Number_minus) (defScope s_Number_minus) .none kV_m_Mixed_minus dc_m_Mixed_minus pm_m_Mixed_minus an_m_Mixed_minus cd_m_Mixed_minus ct_m_Mixed_minus), sl_m_Mixed_minus⟩)
    (c_m_Mixed_minus : PySem.W.codeIn K cd_m_Mixed_minus "Number.minus" = true)
    (k_m_Mixed_minus : PySem.W.keepIn K (.ref f_m_Mixed_minus) = true)
    (a_m_Mixed_over : PySem.W.findIn K (.ref CM) "over" = some (some (.ref f_m_Mixed_over)))
    (i_m_Mixed_over : PySem.W.isFn K (.ref f_m_Mixed_over) = true)
    (l_m_Mixed_over : K.lookup f_m_Mixed_over = some ⟨oc_m_Mixed_over, od_m_Mixed_over, .func (PySem.W.fnOf "over" "Number.over" (defArgs s_Number_over) (defBody s_Number_over) (defScope s_Number_over) .none kV_m_Mixed_over dc_m_Mixed_over pm_m_Mixed_over an_m_Mixed_over cd_m_Mixed_over ct_m_Mixed_over), sl_m_Mixed_over⟩)
    (c_m_Mixed_over : PySem.W.codeIn K cd_m_Mixed_over "Number.over" = true)
    (k_m_Mixed_over : PySem.W.keepIn K (.ref f_m_Mixed_over) = true)
    (a_m_Point_same : PySem.W.findIn K (.ref CP) "same" = some (some (.ref f_m_Point_same)))
    (i_m_Point_same : PySem.W.isFn K (.ref f_m_Point_same) = true)
    (l_m_Point_same : K.lookup f_m_Point_same = some ⟨oc_m_Point_same, od_m_Point_same, .func (PySem.W.fnOf "same" "Point.same" (defArgs s_Point_same) (defBody s_Point_same) (defScope s_Point_same) .none kV_m_Point_same dc_m_Point_same pm_m_Point_same an_m_Point_same cd_m_Point_same ct_m_Point_same), sl_m_Point_same⟩)
    (c_m_Point_same : PySem.W.codeIn K cd_m_Point_same "Point.same" = true)
    (k_m_Point_same : PySem.W.keepIn K (.ref f_m_Point_same) = true)
    (ha_P : PySem.W.findIn K (.ref CP) "__class__" = some (some (.builtin "object.__class__")))
    (hn_P : PySem.W.specialIn K (.builtin "object.__class__") "__get__" = some (some (.builtin "getset_descriptor.__get__")))
    (tk_P : PySem.W.takesIn K (.builtin "object.__class__") = some true)
    (hm_P : PySem.W.mroIn K CP (.type "object") = some true)
    (kit_P : PySem.W.kitOne K (.ref CP) (.ref CP) = some true)
    (a_g_mixed : PySem.W.nsIn K mainGlobals "mixed" = some (some (.ref f_g_mixed)))
    (l_g_mixed : K.lookup f_g_mixed = some ⟨oc_g_mixed, od_g_mixed, .func (PySem.W.fnOf "mixed" "mixed" (defArgs s_mixed) (defBody s_mixed) (defScope s_mixed) .none kV_g_mixed dc_g_mixed pm_g_mixed an_g_mixed cd_g_mixed ct_g_mixed), sl_g_mixed⟩)
    (c_g_mixed : PySem.W.codeIn K cd_g_mixed "mixed" = true)
    (k_g_mixed : PySem.W.keepIn K (.ref f_g_mixed) = true)
    (a_g_common : PySem.W.nsIn K mainGlobals "common" = some (some (.ref f_g_common)))
    (l_g_common : K.lookup f_g_common = some ⟨oc_g_common, od_g_common, .func (PySem.W.fnOf "common" "common" (defArgs s_common) (defBody s_common) (defScope s_common) .none kV_g_common dc_g_common pm_g_common an_g_common cd_g_common ct_g_common), sl_g_common⟩)
    (c_g_common : PySem.W.codeIn K cd_g_common "common" = true)
    (k_g_common : PySem.W.keepIn K (.ref f_g_common) = true)
    (a_g_alike : PySem.W.nsIn K mainGlobals "alike" = some (some (.ref f_g_alike)))
    (l_g_alike : K.lookup f_g_alike = some ⟨oc_g_alike, od_g_alike, .func (PySem.W.fnOf "alike" "alike" (defArgs s_alike) (defBody s_alike) (defScope s_alike) .none kV_g_alike dc_g_alike pm_g_alike an_g_alike cd_g_alike ct_g_alike), sl_g_alike⟩)
    (c_g_alike : PySem.W.codeIn K cd_g_alike "alike" = true)
    (k_g_alike : PySem.W.keepIn K (.ref f_g_alike) = true)
    (a_g_ways_between : PySem.W.nsIn K mainGlobals "ways_between" = some (some (.ref f_g_ways_between)))
    (l_g_ways_between : K.lookup f_g_ways_between = some ⟨oc_g_ways_between, od_g_ways_between, .func (PySem.W.fnOf "ways_between" "ways_between" (defArgs s_ways_between) (defBody s_ways_between) (defScope s_ways_between) .none kV_g_ways_between dc_g_ways_between pm_g_ways_between an_g_ways_between cd_g_ways_between ct_g_ways_between), sl_g_ways_between⟩)
    (c_g_ways_between : PySem.W.codeIn K cd_g_ways_between "ways_between" = true)
    (k_g_ways_between : PySem.W.keepIn K (.ref f_g_ways_between) = true)
    (a_g_carrying : PySem.W.nsIn K mainGlobals "carrying" = some (some (.ref f_g_carrying)))
    (l_g_carrying : K.lookup f_g_carrying = some ⟨oc_g_carrying, od_g_carrying, .func (PySem.W.fnOf "carrying" "carrying" (defArgs s_carrying) (defBody s_carrying) (defScope s_carrying) .none kV_g_carrying dc_g_carrying pm_g_carrying an_g_carrying (.ref ca) ct_g_carrying), sl_g_carrying⟩)
    (c_g_carrying : PySem.W.codeIn K (.ref ca) "carrying" = true)
    (k_g_carrying : PySem.W.keepIn K (.ref f_g_carrying) = true)
    (a_g_mirroring : PySem.W.nsIn K mainGlobals "mirroring" = some (some (.ref f_g_mirroring)))
    (l_g_mirroring : K.lookup f_g_mirroring = some ⟨oc_g_mirroring, od_g_mirroring, .func (PySem.W.fnOf "mirroring" "mirroring" (defArgs s_mirroring) (defBody s_mirroring) (defScope s_mirroring) .none kV_g_mirroring dc_g_mirroring pm_g_mirroring an_g_mirroring (.ref mi) ct_g_mirroring), sl_g_mirroring⟩)
    (c_g_mirroring : PySem.W.codeIn K (.ref mi) "mirroring" = true)
    (k_g_mirroring : PySem.W.keepIn K (.ref f_g_mirroring) = true)
    (a_g_behind : PySem.W.nsIn K mainGlobals "behind" = some (some (.ref f_g_behind)))
    (l_g_behind : K.lookup f_g_behind = some ⟨oc_g_behind, od_g_behind, .func (PySem.W.fnOf "behind" "behind" (defArgs s_behind) (defBody s_behind) (defScope s_behind) .none kV_g_behind dc_g_behind pm_g_behind an_g_behind (.ref be) ct_g_behind), sl_g_behind⟩)
    (c_g_behind : PySem.W.codeIn K (.ref be) "behind" = true)
    (k_g_behind : PySem.W.keepIn K (.ref f_g_behind) = true)
    (a_g__law_cell_at : PySem.W.nsIn K mainGlobals "_law_cell_at" = some (some (.ref f_g__law_cell_at)))
    (l_g__law_cell_at : K.lookup f_g__law_cell_at = some ⟨oc_g__law_cell_at, od_g__law_cell_at, .func (PySem.W.fnOf "_law_cell_at" "_law_cell_at" (defArgs s__law_cell_at) (defBody s__law_cell_at) (defScope s__law_cell_at) .none kV_g__law_cell_at dc_g__law_cell_at pm_g__law_cell_at an_g__law_cell_at cd_g__law_cell_at ct_g__law_cell_at), sl_g__law_cell_at⟩)
    (c_g__law_cell_at : PySem.W.codeIn K cd_g__law_cell_at "_law_cell_at" = true)
    (k_g__law_cell_at : PySem.W.keepIn K (.ref f_g__law_cell_at) = true)
    (a_g__law_mix : PySem.W.nsIn K mainGlobals "_law_mix" = some (some (.ref f_g__law_mix)))
    (l_g__law_mix : K.lookup f_g__law_mix = some ⟨oc_g__law_mix, od_g__law_mix, .func (PySem.W.fnOf "_law_mix" "_law_mix" (defArgs s__law_mix) (defBody s__law_mix) (defScope s__law_mix) .none kV_g__law_mix dc_g__law_mix pm_g__law_mix an_g__law_mix cd_g__law_mix ct_g__law_mix), sl_g__law_mix⟩)
    (c_g__law_mix : PySem.W.codeIn K cd_g__law_mix "_law_mix" = true)
    (k_g__law_mix : PySem.W.keepIn K (.ref f_g__law_mix) = true)
    (a_g__law_fraction : PySem.W.nsIn K mainGlobals "_law_fraction" = some (some (.ref f_g__law_fraction)))
    (l_g__law_fraction : K.lookup f_g__law_fraction = some ⟨oc_g__law_fraction, od_g__law_fraction, .func (PySem.W.fnOf "_law_fraction" "_law_fraction" (defArgs s__law_fraction) (defBody s__law_fraction) (defScope s__law_fraction) .none kV_g__law_fraction dc_g__law_fraction pm_g__law_fraction an_g__law_fraction cd_g__law_fraction ct_g__law_fraction), sl_g__law_fraction⟩)
    (c_g__law_fraction : PySem.W.codeIn K cd_g__law_fraction "_law_fraction" = true)
    (k_g__law_fraction : PySem.W.keepIn K (.ref f_g__law_fraction) = true)
    (a_g__law_scaled : PySem.W.nsIn K mainGlobals "_law_scaled" = some (some (.ref f_g__law_scaled)))
    (l_g__law_scaled : K.lookup f_g__law_scaled = some ⟨oc_g__law_scaled, od_g__law_scaled, .func (PySem.W.fnOf "_law_scaled" "_law_scaled" (defArgs s__law_scaled) (defBody s__law_scaled) (defScope s__law_scaled) .none kV_g__law_scaled dc_g__law_scaled pm_g__law_scaled an_g__law_scaled cd_g__law_scaled ct_g__law_scaled), sl_g__law_scaled⟩)
    (c_g__law_scaled : PySem.W.codeIn K cd_g__law_scaled "_law_scaled" = true)
    (k_g__law_scaled : PySem.W.keepIn K (.ref f_g__law_scaled) = true)
    (a_g__law_chain : PySem.W.nsIn K mainGlobals "_law_chain" = some (some (.ref f_g__law_chain)))
    (l_g__law_chain : K.lookup f_g__law_chain = some ⟨oc_g__law_chain, od_g__law_chain, .func (PySem.W.fnOf "_law_chain" "_law_chain" (defArgs s__law_chain) (defBody s__law_chain) (defScope s__law_chain) .none kV_g__law_chain dc_g__law_chain pm_g__law_chain an_g__law_chain cd_g__law_chain ct_g__law_chain), sl_g__law_chain⟩)
    (c_g__law_chain : PySem.W.codeIn K cd_g__law_chain "_law_chain" = true)
    (k_g__law_chain : PySem.W.keepIn K (.ref f_g__law_chain) = true)
    (a_g__law_floor : PySem.W.nsIn K mainGlobals "_law_floor" = some (some (.ref f_g__law_floor)))
    (l_g__law_floor : K.lookup f_g__law_floor = some ⟨oc_g__law_floor, od_g__law_floor, .func (PySem.W.fnOf "_law_floor" "_law_floor" (defArgs s__law_floor) (defBody s__law_floor) (defScope s__law_floor) .none kV_g__law_floor dc_g__law_floor pm_g__law_floor an_g__law_floor cd_g__law_floor ct_g__law_floor), sl_g__law_floor⟩)
    (c_g__law_floor : PySem.W.codeIn K cd_g__law_floor "_law_floor" = true)
    (k_g__law_floor : PySem.W.keepIn K (.ref f_g__law_floor) = true)
    (a_g__law_roots : PySem.W.nsIn K mainGlobals "_law_roots" = some (some (.ref f_g__law_roots)))
    (l_g__law_roots : K.lookup f_g__law_roots = some ⟨oc_g__law_roots, od_g__law_roots, .func (PySem.W.fnOf "_law_roots" "_law_roots" (defArgs s__law_roots) (defBody s__law_roots) (defScope s__law_roots) .none kV_g__law_roots dc_g__law_roots pm_g__law_roots an_g__law_roots cd_g__law_roots ct_g__law_roots), sl_g__law_roots⟩)
    (c_g__law_roots : PySem.W.codeIn K cd_g__law_roots "_law_roots" = true)
    (k_g__law_roots : PySem.W.keepIn K (.ref f_g__law_roots) = true)
    (a_g__law_number : PySem.W.nsIn K mainGlobals "_law_number" = some (some (.ref f_g__law_number)))
    (l_g__law_number : K.lookup f_g__law_number = some ⟨oc_g__law_number, od_g__law_number, .func (PySem.W.fnOf "_law_number" "_law_number" (defArgs s__law_number) (defBody s__law_number) (defScope s__law_number) (.ref T_g__law_number) kV_g__law_number dc_g__law_number pm_g__law_number an_g__law_number cd_g__law_number ct_g__law_number), sl_g__law_number⟩)
    (c_g__law_number : PySem.W.codeIn K cd_g__law_number "_law_number" = true)
    (k_g__law_number : PySem.W.keepIn K (.ref f_g__law_number) = true)
    (d_g__law_number : K.lookup T_g__law_number = some ⟨ot_g__law_number, odt_g__law_number, .seq #[u_g__law_number] nt_g__law_number, slt_g__law_number⟩)
    (e_g__law_number : RelV (.bl true) u_g__law_number)
    (a_g__law_point : PySem.W.nsIn K mainGlobals "_law_point" = some (some (.ref f_g__law_point)))
    (l_g__law_point : K.lookup f_g__law_point = some ⟨oc_g__law_point, od_g__law_point, .func (PySem.W.fnOf "_law_point" "_law_point" (defArgs s__law_point) (defBody s__law_point) (defScope s__law_point) .none kV_g__law_point dc_g__law_point pm_g__law_point an_g__law_point cd_g__law_point ct_g__law_point), sl_g__law_point⟩)
    (c_g__law_point : PySem.W.codeIn K cd_g__law_point "_law_point" = true)
    (k_g__law_point : PySem.W.keepIn K (.ref f_g__law_point) = true)
    (a_g__law_four : PySem.W.nsIn K mainGlobals "_law_four" = some (some (.ref f_g__law_four)))
    (l_g__law_four : K.lookup f_g__law_four = some ⟨oc_g__law_four, od_g__law_four, .func (PySem.W.fnOf "_law_four" "_law_four" (defArgs s__law_four) (defBody s__law_four) (defScope s__law_four) .none kV_g__law_four dc_g__law_four pm_g__law_four an_g__law_four cd_g__law_four ct_g__law_four), sl_g__law_four⟩)
    (c_g__law_four : PySem.W.codeIn K cd_g__law_four "_law_four" = true)
    (k_g__law_four : PySem.W.keepIn K (.ref f_g__law_four) = true)
    (a_g__law_moving : PySem.W.nsIn K mainGlobals "_law_moving" = some (some (.ref f_g__law_moving)))
    (l_g__law_moving : K.lookup f_g__law_moving = some ⟨oc_g__law_moving, od_g__law_moving, .func (PySem.W.fnOf "_law_moving" "_law_moving" (defArgs s__law_moving) (defBody s__law_moving) (defScope s__law_moving) .none kV_g__law_moving dc_g__law_moving pm_g__law_moving an_g__law_moving cd_g__law_moving ct_g__law_moving), sl_g__law_moving⟩)
    (c_g__law_moving : PySem.W.codeIn K cd_g__law_moving "_law_moving" = true)
    (k_g__law_moving : PySem.W.keepIn K (.ref f_g__law_moving) = true)
    (a_g__law_by_hand : PySem.W.nsIn K mainGlobals "_law_by_hand" = some (some (.ref f_g__law_by_hand)))
    (l_g__law_by_hand : K.lookup f_g__law_by_hand = some ⟨oc_g__law_by_hand, od_g__law_by_hand, .func (PySem.W.fnOf "_law_by_hand" "_law_by_hand" (defArgs s__law_by_hand) (defBody s__law_by_hand) (defScope s__law_by_hand) .none kV_g__law_by_hand dc_g__law_by_hand pm_g__law_by_hand an_g__law_by_hand cd_g__law_by_hand ct_g__law_by_hand), sl_g__law_by_hand⟩)
    (c_g__law_by_hand : PySem.W.codeIn K cd_g__law_by_hand "_law_by_hand" = true)
    (k_g__law_by_hand : PySem.W.keepIn K (.ref f_g__law_by_hand) = true)
    (a_g_law : PySem.W.nsIn K mainGlobals "law" = some (some (.ref f_g_law)))
    (l_g_law : K.lookup f_g_law = some ⟨oc_g_law, od_g_law, .func (PySem.W.fnOf "law" "law" (defArgs s_law) (defBody s_law) (defScope s_law) .none kV_g_law dc_g_law pm_g_law an_g_law cd_g_law ct_g_law), sl_g_law⟩)
    (c_g_law : PySem.W.codeIn K cd_g_law "law" = true)
    (k_g_law : PySem.W.keepIn K (.ref f_g_law) = true)
    (z_abs : PySem.W.nsIn K mainGlobals "abs" = some none)
    (z_int : PySem.W.nsIn K mainGlobals "int" = some none)
    (z_len : PySem.W.nsIn K mainGlobals "len" = some none)
    (z_range : PySem.W.nsIn K mainGlobals "range" = some none)
    (z_isinstance : PySem.W.nsIn K mainGlobals "isinstance" = some none)
    (z_enumerate : PySem.W.nsIn K mainGlobals "enumerate" = some none)
    (t1 : PySem.W.tabIn K "carrying" = some (ca, tca))
    (t2 : PySem.W.tabIn K "mirroring" = some (mi, tmi))
    (t3 : PySem.W.tabIn K "behind" = some (be, tbe))
    (q1 : K.lookup tca = none)
    (q2 : K.lookup tmi = none)
    (q3 : K.lookup tbe = none)
    (d1 : tca ≠ tmi)
    (d2 : tca ≠ tbe)
    (d3 : tmi ≠ tbe)
    : Facts K mg fa := by
  have e := hfa.symm.trans (PySem.W.mg_of X G a_g_law)
  cases e
  exact ⟨⟨CF, CM, CR⟩, CP, ca, mi, be, tca, tmi, tbe, _,
    ⟨⟨pg_n_Fraction, hd_n_Fraction, po_n_Fraction, sa_n_Fraction⟩, ⟨pg_n_Mixed, hd_n_Mixed, po_n_Mixed, sa_n_Mixed⟩, ⟨pg_n_Root, hd_n_Root, po_n_Root, sa_n_Root⟩, o_Fraction_top, o_Fraction_bottom, o_Mixed_plain, o_Mixed_part, o_Mixed_root, o_Root_place, o_Root_square, tin_of1 X G b_n_Fraction mk_n_Fraction kc_n_Fraction a_n_Fraction i_n_Fraction l_n_Fraction c_n_Fraction k_n_Fraction (dfl1 d_n_Fraction e_n_Fraction), tin_of X G b_n_Mixed mk_n_Mixed kc_n_Mixed a_n_Mixed i_n_Mixed l_n_Mixed c_n_Mixed k_n_Mixed, tin_of X G b_n_Root mk_n_Root kc_n_Root a_n_Root i_n_Root l_n_Root c_n_Root k_n_Root, tmt_of a_m_Fraction_plus i_m_Fraction_plus l_m_Fraction_plus c_m_Fraction_plus k_m_Fraction_plus, tmt_of a_m_Fraction_times i_m_Fraction_times l_m_Fraction_times c_m_Fraction_times k_m_Fraction_times, tmt_of a_m_Fraction_one_by i_m_Fraction_one_by l_m_Fraction_one_by c_m_Fraction_one_by k_m_Fraction_one_by, tmt_of a_m_Fraction_turned i_m_Fraction_turned l_m_Fraction_turned c_m_Fraction_turned k_m_Fraction_turned, tmt_of a_m_Fraction_sign i_m_Fraction_sign l_m_Fraction_sign c_m_Fraction_sign k_m_Fraction_sign, tmt_of a_m_Fraction_storey i_m_Fraction_storey l_m_Fraction_storey c_m_Fraction_storey k_m_Fraction_storey, tmt_of a_m_Fraction_told i_m_Fraction_told l_m_Fraction_told c_m_Fraction_told k_m_Fraction_told, tmt_of a_m_Fraction_minus i_m_Fraction_minus l_m_Fraction_minus c_m_Fraction_minus k_m_Fraction_minus, tmt_of a_m_Fraction_over i_m_Fraction_over l_m_Fraction_over c_m_Fraction_over k_m_Fraction_over, tmt_of a_m_Fraction_is_nought i_m_Fraction_is_nought l_m_Fraction_is_nought c_m_Fraction_is_nought k_m_Fraction_is_nought, tmt_of a_m_Mixed_plus i_m_Mixed_plus l_m_Mixed_plus c_m_Mixed_plus k_m_Mixed_plus, tmt_of a_m_Mixed_times i_m_Mixed_times l_m_Mixed_times c_m_Mixed_times k_m_Mixed_times, tmt_of a_m_Mixed_norm i_m_Mixed_norm l_m_Mixed_norm c_m_Mixed_norm k_m_Mixed_norm, tmt_of a_m_Mixed_one_by i_m_Mixed_one_by l_m_Mixed_one_by c_m_Mixed_one_by k_m_Mixed_one_by, tmt_of a_m_Mixed_turned i_m_Mixed_turned l_m_Mixed_turned c_m_Mixed_turned k_m_Mixed_turned, tmt_of a_m_Mixed_storey i_m_Mixed_storey l_m_Mixed_storey c_m_Mixed_storey k_m_Mixed_storey, tmt_of a_m_Mixed_told i_m_Mixed_told l_m_Mixed_told c_m_Mixed_told k_m_Mixed_told, tmt_of a_m_Mixed_is_nought i_m_Mixed_is_nought l_m_Mixed_is_nought c_m_Mixed_is_nought k_m_Mixed_is_nought, tmt_of a_m_Mixed_minus i_m_Mixed_minus l_m_Mixed_minus c_m_Mixed_minus k_m_Mixed_minus, tmt_of a_m_Mixed_over i_m_Mixed_over l_m_Mixed_over c_m_Mixed_over k_m_Mixed_over, tfn_of X G a_g_mixed l_g_mixed c_g_mixed k_g_mixed, tfn_of X G a_g_common l_g_common c_g_common k_g_common, PySem.W.mg_none_of X G z_abs, PySem.W.mg_none_of X G z_int⟩,
    ⟨tfn_of X G a_g__law_cell_at l_g__law_cell_at c_g__law_cell_at k_g__law_cell_at, tfn_of X G a_g__law_mix l_g__law_mix c_g__law_mix k_g__law_mix, tfn_of X G a_g__law_fraction l_g__law_fraction c_g__law_fraction k_g__law_fraction, tfn_of X G a_g__law_scaled l_g__law_scaled c_g__law_scaled k_g__law_scaled, tfn_of X G a_g__law_chain l_g__law_chain c_g__law_chain k_g__law_chain, tfn_of X G a_g__law_floor l_g__law_floor c_g__law_floor k_g__law_floor, tfn_of X G a_g__law_roots l_g__law_roots c_g__law_roots k_g__law_roots, tfn_of1 X G a_g__law_number l_g__law_number c_g__law_number k_g__law_number (dfl1 d_g__law_number e_g__law_number), tfn_of X G a_g__law_point l_g__law_point c_g__law_point k_g__law_point, tfn_of X G a_g__law_four l_g__law_four c_g__law_four k_g__law_four, PySem.W.mg_none_of X G z_len, PySem.W.mg_none_of X G z_range⟩,
    ⟨⟨pg_n_Point, hd_n_Point, po_n_Point, sa_n_Point⟩, o_Point_x, o_Point_y, tin_of X G b_n_Point mk_n_Point kc_n_Point a_n_Point i_n_Point l_n_Point c_n_Point k_n_Point, tmt_of a_m_Point_same i_m_Point_same l_m_Point_same c_m_Point_same k_m_Point_same, ⟨⟨pg_n_Point, hd_n_Point, po_n_Point, sa_n_Point⟩, ha_P, hn_P, tk_P, hm_P⟩, kit_P, PySem.W.mg_none_of X G z_isinstance, tfn_of X G a_g_alike l_g_alike c_g_alike k_g_alike, tfn_of X G a_g_ways_between l_g_ways_between c_g_ways_between k_g_ways_between, tfc_of X G a_g_carrying l_g_carrying c_g_carrying k_g_carrying, tfc_of X G a_g_mirroring l_g_mirroring c_g_mirroring k_g_mirroring, tfc_of X G a_g_behind l_g_behind c_g_behind k_g_behind⟩,
    ⟨tfn_of X G a_g__law_moving l_g__law_moving c_g__law_moving k_g__law_moving, tfn_of X G a_g__law_by_hand l_g__law_by_hand c_g__law_by_hand k_g__law_by_hand, PySem.W.mg_none_of X G z_enumerate⟩,
    ⟨⟨oc_g_law, od_g_law, .none, kV_g_law, dc_g_law, pm_g_law, an_g_law, cd_g_law, ct_g_law, sl_g_law, rfl, l_g_law, c_g_law, .inl ⟨rfl, rfl⟩, .inl rfl⟩, k_g_law⟩, t1, t2, t3, q1, q2, q3, d1, d2, d3⟩
end
end Rl

set_option Elab.async false
set_option maxRecDepth 100000
open PySem PySem.W PyProof.Rows
set_option maxRecDepth 100000 in
set_option maxHeartbeats 0 in
theorem PySem.Challenge.cw_rodleg_k77_movings_behind_one_another_holds : PySem.Challenge.rw_rodleg_k77_movings_behind_one_another.Holds := by
  w_on; o_law; k_head; (case hw => w_witness2)
  k_fill
  refine Rl.walk77 (l := PySem.Challenge.rw_rodleg_k77_movings_behind_one_another) rfl rfl rfl (by decide +kernel) (fun w h Y => PySem.W.km_in_of Y) (by decide +kernel) (by decide +kernel) (by decide +kernel) ?F
  case F =>
    intro w mg fa h KX G hmg
    refine' Rl.facts_mk KX G hmg ?b_n_Fraction ?pg_n_Fraction ?hd_n_Fraction ?po_n_Fraction ?sa_n_Fraction ?mk_n_Fraction ?kc_n_Fraction ?a_n_Fraction ?i_n_Fraction ?l_n_Fraction ?c_n_Fraction ?k_n_Fraction ?d_n_Fraction ?e_n_Fraction ?b_n_Mixed ?pg_n_Mixed ?hd_n_Mixed ?po_n_Mixed ?sa_n_Mixed ?mk_n_Mixed ?kc_n_Mixed ?a_n_Mixed ?i_n_Mixed ?l_n_Mixed ?c_n_Mixed ?k_n_Mixed ?b_n_Root ?pg_n_Root ?hd_n_Root ?po_n_Root ?sa_n_Root ?mk_n_Root ?kc_n_Root ?a_n_Root ?i_n_Root ?l_n_Root ?c_n_Root ?k_n_Root ?b_n_Point ?pg_n_Point ?hd_n_Point ?po_n_Point ?sa_n_Point ?mk_n_Point ?kc_n_Point ?a_n_Point ?i_n_Point ?l_n_Point ?c_n_Point ?k_n_Point ?o_Fraction_top ?o_Fraction_bottom ?o_Mixed_plain ?o_Mixed_part ?o_Mixed_root ?o_Root_place ?o_Root_square ?o_Point_x ?o_Point_y ?a_m_Fraction_plus ?i_m_Fraction_plus ?l_m_Fraction_plus ?c_m_Fraction_plus ?k_m_Fraction_plus ?a_m_Fraction_times ?i_m_Fraction_times ?l_m_Fraction_times ?c_m_Fraction_times ?k_m_Fraction_times ?a_m_Fraction_one_by ?i_m_Fraction_one_by ?l_m_Fraction_one_by ?c_m_Fraction_one_by ?k_m_Fraction_one_by ?a_m_Fraction_turned ?i_m_Fraction_turned ?l_m_Fraction_turned ?c_m_Fraction_turned ?k_m_Fraction_turned ?a_m_Fraction_sign ?i_m_Fraction_sign ?l_m_Fraction_sign ?c_m_Fraction_sign ?k_m_Fraction_sign ?a_m_Fraction_storey ?i_m_Fraction_storey ?l_m_Fraction_storey ?c_m_Fraction_storey ?k_m_Fraction_storey ?a_m_Fraction_told ?i_m_Fraction_told ?l_m_Fraction_told ?c_m_Fraction_told ?k_m_Fraction_told ?a_m_Fraction_minus ?i_m_Fraction_minus ?l_m_Fraction_minus ?c_m_Fraction_minus ?k_m_Fraction_minus ?a_m_Fraction_over ?i_m_Fraction_over ?l_m_Fraction_over ?c_m_Fraction_over ?k_m_Fraction_over ?a_m_Fraction_is_nought ?i_m_Fraction_is_nought ?l_m_Fraction_is_nought ?c_m_Fraction_is_nought ?k_m_Fraction_is_nought ?a_m_Mixed_plus ?i_m_Mixed_plus ?l_m_Mixed_plus ?c_m_Mixed_plus ?k_m_Mixed_plus ?a_m_Mixed_times ?i_m_Mixed_times ?l_m_Mixed_times ?c_m_Mixed_times ?k_m_Mixed_times ?a_m_Mixed_norm ?i_m_Mixed_norm ?l_m_Mixed_norm ?c_m_Mixed_norm ?k_m_Mixed_norm ?a_m_Mixed_one_by ?i_m_Mixed_one_by ?l_m_Mixed_one_by ?c_m_Mixed_one_by ?k_m_Mixed_one_by ?a_m_Mixed_turned ?i_m_Mixed_turned ?l_m_Mixed_turned ?c_m_Mixed_turned ?k_m_Mixed_turned ?a_m_Mixed_storey ?i_m_Mixed_storey ?l_m_Mixed_storey ?c_m_Mixed_storey ?k_m_Mixed_storey ?a_m_Mixed_told ?i_m_Mixed_told ?l_m_Mixed_told ?c_m_Mixed_told ?k_m_Mixed_told ?a_m_Mixed_is_nought ?i_m_Mixed_is_nought ?l_m_Mixed_is_nought ?c_m_Mixed_is_nought ?k_m_Mixed_is_nought ?a_m_Mixed_minus ?i_m_Mixed_minus ?l_m_Mixed_minus ?c_m_Mixed_minus ?k_m_Mixed_minus ?a_m_Mixed_over ?i_m_Mixed_over ?l_m_Mixed_over ?c_m_Mixed_over ?k_m_Mixed_over ?a_m_Point_same ?i_m_Point_same ?l_m_Point_same ?c_m_Point_same ?k_m_Point_same ?ha_P ?hn_P ?tk_P ?hm_P ?kit_P ?a_g_mixed ?l_g_mixed ?c_g_mixed ?k_g_mixed ?a_g_common ?l_g_common ?c_g_common ?k_g_common ?a_g_alike ?l_g_alike ?c_g_alike ?k_g_alike ?a_g_ways_between ?l_g_ways_between ?c_g_ways_between ?k_g_ways_between ?a_g_carrying ?l_g_carrying ?c_g_carrying ?k_g_carrying ?a_g_mirroring ?l_g_mirroring ?c_g_mirroring ?k_g_mirroring ?a_g_behind ?l_g_behind ?c_g_behind ?k_g_behind ?a_g__law_cell_at ?l_g__law_cell_at ?c_g__law_cell_at ?k_g__law_cell_at ?a_g__law_mix ?l_g__law_mix ?c_g__law_mix ?k_g__law_mix ?a_g__law_fraction ?l_g__law_fraction ?c_g__law_fraction ?k_g__law_fraction ?a_g__law_scaled ?l_g__law_scaled ?c_g__law_scaled ?k_g__law_scaled ?a_g__law_chain ?l_g__law_chain ?c_g__law_chain ?k_g__law_chain ?a_g__law_floor ?l_g__law_floor ?c_g__law_floor ?k_g__law_floor ?a_g__law_roots ?l_g__law_roots ?c_g__law_roots ?k_g__law_roots ?a_g__law_number ?l_g__law_number ?c_g__law_number ?k_g__law_number ?d_g__law_number ?e_g__law_number ?a_g__law_point ?l_g__law_point ?c_g__law_point ?k_g__law_point ?a_g__law_four ?l_g__law_four ?c_g__law_four ?k_g__law_four ?a_g__law_moving ?l_g__law_moving ?c_g__law_moving ?k_g__law_moving ?a_g__law_by_hand ?l_g__law_by_hand ?c_g__law_by_hand ?k_g__law_by_hand ?a_g_law ?l_g_law ?c_g_law ?k_g_law ?z_abs ?z_int ?z_len ?z_range ?z_isinstance ?z_enumerate ?t1 ?t2 ?t3 ?q1 ?q2 ?q3 ?d1 ?d2 ?d3
    (case b_n_Fraction => k_is)
    (case pg_n_Fraction => k_is)
    (case hd_n_Fraction => k_is)
    (case po_n_Fraction => k_is)
    (case sa_n_Fraction => k_is)
    (case mk_n_Fraction => k_is)
    (case kc_n_Fraction => k_is)
    (case a_n_Fraction => k_is)
    (case i_n_Fraction => k_is)
    (case l_n_Fraction => k_is)
    (case c_n_Fraction => k_is)
    (case k_n_Fraction => k_is)
    (case d_n_Fraction => k_is)
    (case e_n_Fraction => first | exact ⟨_, rfl⟩ | rfl)
    (case b_n_Mixed => k_is)
    (case pg_n_Mixed => k_is)
    (case hd_n_Mixed => k_is)
    (case po_n_Mixed => k_is)
    (case sa_n_Mixed => k_is)
    (case mk_n_Mixed => k_is)
    (case kc_n_Mixed => k_is)
    (case a_n_Mixed => k_is)
    (case i_n_Mixed => k_is)
    (case l_n_Mixed => k_is)
    (case c_n_Mixed => k_is)
    (case k_n_Mixed => k_is)
    (case b_n_Root => k_is)
    (case pg_n_Root => k_is)
    (case hd_n_Root => k_is)
    (case po_n_Root => k_is)
    (case sa_n_Root => k_is)
    (case mk_n_Root => k_is)
    (case kc_n_Root => k_is)
    (case a_n_Root => k_is)
    (case i_n_Root => k_is)
    (case l_n_Root => k_is)
    (case c_n_Root => k_is)
    (case k_n_Root => k_is)
    (case b_n_Point => k_is)
    (case pg_n_Point => k_is)
    (case hd_n_Point => k_is)
    (case po_n_Point => k_is)
    (case sa_n_Point => k_is)
    (case mk_n_Point => k_is)
    (case kc_n_Point => k_is)
    (case a_n_Point => k_is)
    (case i_n_Point => k_is)
    (case l_n_Point => k_is)
    (case c_n_Point => k_is)
    (case k_n_Point => k_is)
    (case o_Fraction_top => k_is)
    (case o_Fraction_bottom => k_is)
    (case o_Mixed_plain => k_is)
    (case o_Mixed_part => k_is)
    (case o_Mixed_root => k_is)
    (case o_Root_place => k_is)
    (case o_Root_square => k_is)
    (case o_Point_x => k_is)
    (case o_Point_y => k_is)
    (case a_m_Fraction_plus => k_is)
    (case i_m_Fraction_plus => k_is)
    (case l_m_Fraction_plus => k_is)
    (case c_m_Fraction_plus => k_is)
    (case k_m_Fraction_plus => k_is)
    (case a_m_Fraction_times => k_is)
    (case i_m_Fraction_times => k_is)
    (case l_m_Fraction_times => k_is)
    (case c_m_Fraction_times => k_is)
    (case k_m_Fraction_times => k_is)
    (case a_m_Fraction_one_by => k_is)
    (case i_m_Fraction_one_by => k_is)
    (case l_m_Fraction_one_by => k_is)
    (case c_m_Fraction_one_by => k_is)
    (case k_m_Fraction_one_by => k_is)
    (case a_m_Fraction_turned => k_is)
    (case i_m_Fraction_turned => k_is)
    (case l_m_Fraction_turned => k_is)
    (case c_m_Fraction_turned => k_is)
    (case k_m_Fraction_turned => k_is)
    (case a_m_Fraction_sign => k_is)
    (case i_m_Fraction_sign => k_is)
    (case l_m_Fraction_sign => k_is)
    (case c_m_Fraction_sign => k_is)
    (case k_m_Fraction_sign => k_is)
    (case a_m_Fraction_storey => k_is)
    (case i_m_Fraction_storey => k_is)
    (case l_m_Fraction_storey => k_is)
    (case c_m_Fraction_storey => k_is)
    (case k_m_Fraction_storey => k_is)
    (case a_m_Fraction_told => k_is)
    (case i_m_Fraction_told => k_is)
    (case l_m_Fraction_told => k_is)
    (case c_m_Fraction_told => k_is)
    (case k_m_Fraction_told => k_is)
    (case a_m_Fraction_minus => k_is)
    (case i_m_Fraction_minus => k_is)
    (case l_m_Fraction_minus => k_is)
    (case c_m_Fraction_minus => k_is)
    (case k_m_Fraction_minus => k_is)
    (case a_m_Fraction_over => k_is)
    (case i_m_Fraction_over => k_is)
    (case l_m_Fraction_over => k_is)
    (case c_m_Fraction_over => k_is)
    (case k_m_Fraction_over => k_is)
    (case a_m_Fraction_is_nought => k_is)
    (case i_m_Fraction_is_nought => k_is)
    (case l_m_Fraction_is_nought => k_is)
    (case c_m_Fraction_is_nought => k_is)
    (case k_m_Fraction_is_nought => k_is)
    (case a_m_Mixed_plus => k_is)
    (case i_m_Mixed_plus => k_is)
    (case l_m_Mixed_plus => k_is)
    (case c_m_Mixed_plus => k_is)
    (case k_m_Mixed_plus => k_is)
    (case a_m_Mixed_times => k_is)
    (case i_m_Mixed_times => k_is)
    (case l_m_Mixed_times => k_is)
    (case c_m_Mixed_times => k_is)
    (case k_m_Mixed_times => k_is)
    (case a_m_Mixed_norm => k_is)
    (case i_m_Mixed_norm => k_is)
    (case l_m_Mixed_norm => k_is)
    (case c_m_Mixed_norm => k_is)
    (case k_m_Mixed_norm => k_is)
    (case a_m_Mixed_one_by => k_is)
    (case i_m_Mixed_one_by => k_is)
    (case l_m_Mixed_one_by => k_is)
    (case c_m_Mixed_one_by => k_is)
    (case k_m_Mixed_one_by => k_is)
    (case a_m_Mixed_turned => k_is)
    (case i_m_Mixed_turned => k_is)
    (case l_m_Mixed_turned => k_is)
    (case c_m_Mixed_turned => k_is)
    (case k_m_Mixed_turned => k_is)
    (case a_m_Mixed_storey => k_is)
    (case i_m_Mixed_storey => k_is)
    (case l_m_Mixed_storey => k_is)
    (case c_m_Mixed_storey => k_is)
    (case k_m_Mixed_storey => k_is)
    (case a_m_Mixed_told => k_is)
    (case i_m_Mixed_told => k_is)
    (case l_m_Mixed_told => k_is)
    (case c_m_Mixed_told => k_is)
    (case k_m_Mixed_told => k_is)
    (case a_m_Mixed_is_nought => k_is)
    (case i_m_Mixed_is_nought => k_is)
    (case l_m_Mixed_is_nought => k_is)
    (case c_m_Mixed_is_nought => k_is)
    (case k_m_Mixed_is_nought => k_is)
    (case a_m_Mixed_minus => k_is)
    (case i_m_Mixed_minus => k_is)
    (case l_m_Mixed_minus => k_is)
    (case c_m_Mixed_minus => k_is)
    (case k_m_Mixed_minus => k_is)
    (case a_m_Mixed_over => k_is)
    (case i_m_Mixed_over => k_is)
    (case l_m_Mixed_over => k_is)
    (case c_m_Mixed_over => k_is)
    (case k_m_Mixed_over => k_is)
    (case a_m_Point_same => k_is)
    (case i_m_Point_same => k_is)
    (case l_m_Point_same => k_is)
    (case c_m_Point_same => k_is)
    (case k_m_Point_same => k_is)
    (case ha_P => k_is)
    (case hn_P => k_is)
    (case tk_P => k_is)
    (case hm_P => k_is)
    (case kit_P => first | rfl | decide +kernel | (show PySem.W.kitOne _ _ _ = _; rfl))
    (case a_g_mixed => k_is)
    (case l_g_mixed => k_is)
    (case c_g_mixed => k_is)
    (case k_g_mixed => k_is)
    (case a_g_common => k_is)
    (case l_g_common => k_is)
    (case c_g_common => k_is)
    (case k_g_common => k_is)
    (case a_g_alike => k_is)
    (case l_g_alike => k_is)
    (case c_g_alike => k_is)
    (case k_g_alike => k_is)
    (case a_g_ways_between => k_is)
    (case l_g_ways_between => k_is)
    (case c_g_ways_between => k_is)
    (case k_g_ways_between => k_is)
    (case a_g_carrying => k_is)
    (case l_g_carrying => k_is)
    (case c_g_carrying => k_is)
    (case k_g_carrying => k_is)
    (case a_g_mirroring => k_is)
    (case l_g_mirroring => k_is)
    (case c_g_mirroring => k_is)
    (case k_g_mirroring => k_is)
    (case a_g_behind => k_is)
    (case l_g_behind => k_is)
    (case c_g_behind => k_is)
    (case k_g_behind => k_is)
    (case a_g__law_cell_at => k_is)
    (case l_g__law_cell_at => k_is)
    (case c_g__law_cell_at => k_is)
    (case k_g__law_cell_at => k_is)
    (case a_g__law_mix => k_is)
    (case l_g__law_mix => k_is)
    (case c_g__law_mix => k_is)
    (case k_g__law_mix => k_is)
    (case a_g__law_fraction => k_is)
    (case l_g__law_fraction => k_is)
    (case c_g__law_fraction => k_is)
    (case k_g__law_fraction => k_is)
    (case a_g__law_scaled => k_is)
    (case l_g__law_scaled => k_is)
    (case c_g__law_scaled => k_is)
    (case k_g__law_scaled => k_is)
    (case a_g__law_chain => k_is)
    (case l_g__law_chain => k_is)
    (case c_g__law_chain => k_is)
    (case k_g__law_chain => k_is)
    (case a_g__law_floor => k_is)
    (case l_g__law_floor => k_is)
    (case c_g__law_floor => k_is)
    (case k_g__law_floor => k_is)
    (case a_g__law_roots => k_is)
    (case l_g__law_roots => k_is)
    (case c_g__law_roots => k_is)
    (case k_g__law_roots => k_is)
    (case a_g__law_number => k_is)
    (case l_g__law_number => k_is)
    (case c_g__law_number => k_is)
    (case k_g__law_number => k_is)
    (case d_g__law_number => k_is)
    (case e_g__law_number => first | exact ⟨_, rfl⟩ | rfl)
    (case a_g__law_point => k_is)
    (case l_g__law_point => k_is)
    (case c_g__law_point => k_is)
    (case k_g__law_point => k_is)
    (case a_g__law_four => k_is)
    (case l_g__law_four => k_is)
    (case c_g__law_four => k_is)
    (case k_g__law_four => k_is)
    (case a_g__law_moving => k_is)
    (case l_g__law_moving => k_is)
    (case c_g__law_moving => k_is)
    (case k_g__law_moving => k_is)
    (case a_g__law_by_hand => k_is)
    (case l_g__law_by_hand => k_is)
    (case c_g__law_by_hand => k_is)
    (case k_g__law_by_hand => k_is)
    (case a_g_law => k_is)
    (case l_g_law => k_is)
    (case c_g_law => k_is)
    (case k_g_law => k_is)
    (case z_abs => k_is)
    (case z_int => k_is)
    (case z_len => k_is)
    (case z_range => k_is)
    (case z_isinstance => k_is)
    (case z_enumerate => k_is)
    (case t1 => first | k_is | rfl)
    (case t2 => first | k_is | rfl)
    (case t3 => first | k_is | rfl)
    (case q1 => first | k_is | rfl | decide +kernel)
    (case q2 => first | k_is | rfl | decide +kernel)
    (case q3 => first | k_is | rfl | decide +kernel)
    (case d1 => decide)
    (case d2 => decide)
    (case d3 => decide)


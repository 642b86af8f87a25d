import PyProof.Rows.All
import HandS.ForMost
import HandS.Zip
import HandS.TupAny
import HandS.Flow
import HandS.Evl
import HandS.Style
import HandS.Defaults
import HandS.DictComp
import HandS.DictTup
import HandS.IsInst
import HandS.Wide
import HandS.WideMore
import HandS.WideBits
import HandS.Conv
import PySem.Challenge.RW_rungfields_k12_papers_of_wholeness
import HandS.Zip0
import PyProof.EnumMake
import PyProof.Draws
import KE.KRevSl
import HandS.SortKw
import HandS.Iter
import HandS.More
import KE.KLam
import KE.SortKeyHeap
import HandS.Lambda
import HandS.EndTab
import HandS.HeadWalk
set_option Elab.async false
set_option linter.all false
section
namespace Rf
open Lean.Grind
local instance (priority := low) instNC {R : Type} [CommRing R] : NatCast R := Semiring.natCast
local instance (priority := low) instIC {R : Type} [CommRing R] : IntCast R := Ring.intCast

/-! ### whole numbers by p -/
def zset (p : Int) : Setoid Int := ⟨fun a b => p ∣ a - b, ⟨fun a => ⟨0, by grind⟩, fun {a b} ⟨k, h⟩ => ⟨-k, by grind⟩, fun {a b c} ⟨k, h⟩ ⟨l, g⟩ => ⟨k + l, by grind⟩⟩⟩
def Zp (p : Int) : Type := Quotient (zset p)
namespace Zp
variable {p : Int}
def mk (p a : Int) : Zp p := Quotient.mk (zset p) a
theorem ind {P : Zp p → Prop} (h : ∀ a, P (mk p a)) (x : Zp p) : P x := Quotient.ind h x
theorem mk_eq {a b : Int} (h : p ∣ a - b) : mk p a = mk p b := Quotient.sound h
theorem dvd_of {a b : Int} (h : mk p a = mk p b) : p ∣ a - b := Quotient.exact h
def add (x y : Zp p) : Zp p := Quotient.liftOn₂ x y (fun a b => mk p (a + b)) fun a b c d ⟨k, h⟩ ⟨l, g⟩ => mk_eq ⟨k + l, by grind⟩
def mul (x y : Zp p) : Zp p := Quotient.liftOn₂ x y (fun a b => mk p (a * b)) fun a b c d ⟨k, h⟩ ⟨l, g⟩ => mk_eq ⟨k * b + c * l, by grind⟩
def neg (x : Zp p) : Zp p := Quotient.liftOn x (fun a => mk p (-a)) fun a b ⟨k, h⟩ => mk_eq ⟨-k, by grind⟩
def npow (x : Zp p) : Nat → Zp p
  | 0 => mk p 1
  | n + 1 => mul (npow x n) x
instance : CommRing (Zp p) where
  add := add
  mul := mul
  neg := neg
  sub x y := add x (neg y)
  natCast := ⟨fun n => mk p n⟩
  ofNat n := ⟨mk p n⟩
  intCast := ⟨fun n => mk p n⟩
  nsmul := ⟨fun n x => mul (mk p n) x⟩
  zsmul := ⟨fun n x => mul (mk p n) x⟩
  npow := ⟨npow⟩
  add_zero := ind fun a => congrArg (mk p) (Int.add_zero a)
  add_comm := ind fun a => ind fun b => congrArg (mk p) (Int.add_comm a b)
  add_assoc := ind fun a => ind fun b => ind fun c => congrArg (mk p) (Int.add_assoc a b c)
  mul_assoc := ind fun a => ind fun b => ind fun c => congrArg (mk p) (Int.mul_assoc a b c)
  mul_one := ind fun a => congrArg (mk p) (Int.mul_one a)
  one_mul := ind fun a => congrArg (mk p) (Int.one_mul a)
  left_distrib := ind fun a => ind fun b => ind fun c => congrArg (mk p) (Int.mul_add a b c)
  right_distrib := ind fun a => ind fun b => ind fun c => congrArg (mk p) (Int.add_mul a b c)
  zero_mul := ind fun a => congrArg (mk p) (Int.zero_mul a)
  mul_zero := ind fun a => congrArg (mk p) (Int.mul_zero a)
  pow_zero _ := rfl
  pow_succ _ _ := rfl
  ofNat_succ a := by rfl
  neg_add_cancel := ind fun a => congrArg (mk p) (Int.add_left_neg a)
  sub_eq_add_neg _ _ := rfl
  neg_zsmul i := ind fun a => congrArg (mk p) (Int.neg_mul i a)
  mul_comm := ind fun a => ind fun b => congrArg (mk p) (Int.mul_comm a b)
theorem mk_add (a b : Int) : mk p (a + b) = mk p a + mk p b := rfl
theorem mk_mul (a b : Int) : mk p (a * b) = mk p a * mk p b := rfl
theorem mk_neg (a : Int) : mk p (-a) = - mk p a := rfl
theorem mk_sub (a b : Int) : mk p (a - b) = mk p a - mk p b := congrArg (mk p) (Int.sub_eq_add_neg (a := a) (b := b))
theorem mk_zero : mk p 0 = 0 := rfl
theorem mk_one : mk p 1 = 1 := rfl
theorem mk_nat (n : Nat) : mk p n = (n : Zp p) := rfl
theorem mk_mod (a : Int) : mk p (a % p) = mk p a := mk_eq ⟨-(a / p), by have := Int.mul_ediv_add_emod a p; grind⟩
theorem mk_self : mk p p = 0 := mk_eq ⟨1, by simp⟩
theorem mk_pow (a : Int) : ∀ n : Nat, mk p (a ^ n) = mk p a ^ n
  | 0 => by rw [Int.pow_zero, Semiring.pow_zero]; rfl
  | n + 1 => by rw [Int.pow_succ, Semiring.pow_succ, mk_mul, mk_pow a n]
theorem mk_inj {a b : Int} (ha : 0 ≤ a) (ha' : a < p) (hb : 0 ≤ b) (hb' : b < p) (h : mk p a = mk p b) : a = b := by
  have h1 := Int.emod_emod_of_dvd
  have h2 := dvd_of h
  have h3 : a % p = b % p := Int.emod_eq_emod_iff_emod_sub_eq_zero.mpr (Int.emod_eq_zero_of_dvd h2)
  rw [Int.emod_eq_of_lt ha ha', Int.emod_eq_of_lt hb hb'] at h3
  exact h3
end Zp

/-! ### polynomials over a ring: rows of rests that end -/
section conv
variable {R : Type} [CommRing R]
def tl (f : Nat → R) : Nat → R := fun n => f (n + 1)
def conv : (Nat → R) → (Nat → R) → Nat → R
  | f, g, 0 => f 0 * g 0
  | f, g, n + 1 => f 0 * g (n + 1) + conv (tl f) g n
theorem conv_succ (f g : Nat → R) (n : Nat) : conv f g (n + 1) = f 0 * g (n + 1) + conv (tl f) g n := rfl
theorem conv_zero (f g : Nat → R) : conv f g 0 = f 0 * g 0 := rfl
theorem conv_add_left : ∀ (n : Nat) (f g h : Nat → R), conv (fun i => f i + g i) h n = conv f h n + conv g h n
  | 0, f, g, h => by simp only [conv_zero]; grind
  | n + 1, f, g, h => by
    have := conv_add_left n (tl f) (tl g) h
    simp only [conv_succ]
    have e : tl (fun i => f i + g i) = fun i => tl f i + tl g i := rfl
    rw [e, this]; grind
theorem conv_add_right : ∀ (n : Nat) (f g h : Nat → R), conv h (fun i => f i + g i) n = conv h f n + conv h g n
  | 0, f, g, h => by simp only [conv_zero]; grind
  | n + 1, f, g, h => by
    have := conv_add_right n f g (tl h)
    simp only [conv_succ]
    rw [this]; grind
theorem conv_smul_left : ∀ (n : Nat) (c : R) (f g : Nat → R), conv (fun i => c * f i) g n = c * conv f g n
  | 0, c, f, g => by simp only [conv_zero]; grind
  | n + 1, c, f, g => by
    have := conv_smul_left n c (tl f) g
    simp only [conv_succ]
    have e : tl (fun i => c * f i) = fun i => c * tl f i := rfl
    rw [e, this]; grind
theorem tl_conv (f g : Nat → R) : tl (conv f g) = fun i => f 0 * tl g i + conv (tl f) g i := rfl
theorem conv_assoc : ∀ (n : Nat) (f g h : Nat → R), conv (conv f g) h n = conv f (conv g h) n
  | 0, f, g, h => by simp only [conv_zero]; grind
  | n + 1, f, g, h => by
    have := conv_assoc n (tl f) g h
    simp only [conv_succ, tl_conv]
    rw [conv_add_left, conv_smul_left, this]
    simp only [conv_zero]
    grind
theorem conv_last : ∀ (n : Nat) (f g : Nat → R), conv f g (n + 1) = conv f (tl g) n + f (n + 1) * g 0
  | 0, f, g => by simp only [conv_zero, conv_succ, tl]
  | n + 1, f, g => by
    have := conv_last n (tl f) g
    rw [conv_succ, this, conv_succ]
    simp only [tl]; grind
theorem conv_comm : ∀ (n : Nat) (f g : Nat → R), conv f g n = conv g f n
  | 0, f, g => by simp only [conv_zero]; grind
  | n + 1, f, g => by
    have := conv_comm n (tl f) g
    rw [conv_last n g f, conv_succ, this]; grind
theorem conv_one : ∀ (n : Nat) (f : Nat → R), conv (fun i => if i = 0 then 1 else 0) f n = f n
  | 0, f => by simp only [conv_zero]; grind
  | n + 1, f => by
    rw [conv_succ]
    have e : tl (fun i => if i = 0 then (1 : R) else 0) = fun i => 0 * (0 : R) := by funext i; simp [tl]; grind
    rw [e, conv_smul_left]; simp; grind
theorem conv_zl : ∀ (n : Nat) (f g : Nat → R), (∀ i, f i = 0) → conv f g n = 0
  | 0, f, g, h => by rw [conv_zero, h]; grind
  | n + 1, f, g, h => by rw [conv_succ, h, conv_zl n (tl f) g (fun i => h (i + 1))]; grind
theorem conv_lt : ∀ (a b n : Nat) (f g : Nat → R), (∀ i, a ≤ i → f i = 0) → (∀ i, b ≤ i → g i = 0) → a + b ≤ n + 1 → conv f g n = 0
  | 0, b, n, f, g, hf, hg, hn => conv_zl n f g fun i => hf i (Nat.zero_le _)
  | a + 1, b, 0, f, g, hf, hg, hn => by rw [conv_zero, hg 0 (by omega)]; grind
  | a + 1, b, n + 1, f, g, hf, hg, hn => by
    rw [conv_succ, hg (n + 1) (by omega), conv_lt a b n (tl f) g (fun i hi => hf (i + 1) (by omega)) hg (by omega)]; grind
theorem conv_top : ∀ (a b : Nat) (f g : Nat → R), (∀ i, a < i → f i = 0) → (∀ i, b < i → g i = 0) → conv f g (a + b) = f a * g b
  | 0, b, f, g, hf, hg => by
    cases b with
    | zero => rfl
    | succ b => rw [Nat.zero_add, conv_succ, conv_zl b (tl f) g fun i => hf (i + 1) (by omega)]; grind
  | a + 1, b, f, g, hf, hg => by
    rw [show a + 1 + b = (a + b) + 1 by omega, conv_succ, hg (a + b + 1) (by omega), conv_top a b (tl f) g (fun i hi => hf (i + 1) (by omega)) hg]
    simp only [tl]; grind
end conv

structure Poly (R : Type) [CommRing R] where
  c : Nat → R
  fin : ∃ N, ∀ n, N ≤ n → c n = 0

namespace Poly
variable {R : Type} [CommRing R]
theorem ext {f g : Poly R} (h : ∀ n, f.c n = g.c n) : f = g := by
  cases f; cases g; congr; exact funext h
def add (f g : Poly R) : Poly R := ⟨fun n => f.c n + g.c n, by
  obtain ⟨a, ha⟩ := f.fin; obtain ⟨b, hb⟩ := g.fin
  exact ⟨a + b, fun n hn => by rw [ha n (by omega), hb n (by omega)]; grind⟩⟩
def neg (f : Poly R) : Poly R := ⟨fun n => - f.c n, by
  obtain ⟨a, ha⟩ := f.fin
  exact ⟨a, fun n hn => by rw [ha n (by omega)]; grind⟩⟩
def mul (f g : Poly R) : Poly R := ⟨conv f.c g.c, by
  obtain ⟨a, ha⟩ := f.fin; obtain ⟨b, hb⟩ := g.fin
  exact ⟨a + b, fun n hn => conv_lt a b n _ _ ha hb (by omega)⟩⟩
def C (x : R) : Poly R := ⟨fun n => if n = 0 then x else 0, 1, fun n hn => by rw [if_neg (by omega)]⟩
def X : Poly R := ⟨fun n => if n = 1 then 1 else 0, 2, fun n hn => by rw [if_neg (by omega)]⟩
def npow (f : Poly R) : Nat → Poly R
  | 0 => C 1
  | n + 1 => mul (npow f n) f
theorem C_mul_c (x : R) (f : Poly R) (n : Nat) : (mul (C x) f).c n = x * f.c n := by
  show conv (fun i => if i = 0 then x else 0) f.c n = x * f.c n
  have e : (fun i : Nat => if i = 0 then x else 0) = fun i => x * (if i = 0 then 1 else 0) := by
    funext i; split <;> grind
  rw [e, conv_smul_left, conv_one]
instance : CommRing (Poly R) where
  add := add
  mul := mul
  neg := neg
  sub x y := add x (neg y)
  natCast := ⟨fun n => C n⟩
  ofNat n := ⟨C (OfNat.ofNat n)⟩
  intCast := ⟨fun n => C n⟩
  nsmul := ⟨fun n x => mul (C n) x⟩
  zsmul := ⟨fun n x => mul (C n) x⟩
  npow := ⟨npow⟩
  add_zero f := ext fun n => by show f.c n + (if n = 0 then 0 else 0) = f.c n; split <;> grind
  add_comm f g := ext fun n => Semiring.add_comm (f.c n) (g.c n)
  add_assoc f g h := ext fun n => Semiring.add_assoc (f.c n) (g.c n) (h.c n)
  mul_assoc f g h := ext fun n => conv_assoc n f.c g.c h.c
  mul_one f := ext fun n => by show (mul f (C 1)).c n = f.c n; rw [show (mul f (C 1)).c n = (mul (C 1) f).c n from conv_comm n _ _, C_mul_c]; grind
  one_mul f := ext fun n => by show (mul (C 1) f).c n = f.c n; rw [C_mul_c]; grind
  left_distrib f g h := ext fun n => conv_add_right n g.c h.c f.c
  right_distrib f g h := ext fun n => conv_add_left n f.c g.c h.c
  zero_mul f := ext fun n => by show (mul (C 0) f).c n = (C (0 : R)).c n; rw [C_mul_c]; show _ = (if n = 0 then (0 : R) else 0); split <;> grind
  mul_zero f := ext fun n => by show (mul f (C 0)).c n = (C (0 : R)).c n; rw [show (mul f (C 0)).c n = (mul (C 0) f).c n from conv_comm n _ _, C_mul_c]; show _ = (if n = 0 then (0 : R) else 0); split <;> grind
  pow_zero _ := rfl
  pow_succ _ _ := rfl
  ofNat_succ a := ext fun n => by
    show (if n = 0 then (OfNat.ofNat (a + 1) : R) else 0) = (if n = 0 then (OfNat.ofNat a : R) else 0) + (if n = 0 then (1 : R) else 0)
    split
    · exact Semiring.ofNat_succ a
    · grind
  ofNat_eq_natCast a := congrArg C (Semiring.ofNat_eq_natCast a)
  zsmul_natCast_eq_nsmul n f := congrArg (fun x => mul (C x) f) (Ring.intCast_natCast n)
  neg_add_cancel f := ext fun n => by show - f.c n + f.c n = (if n = 0 then (0 : R) else 0); split <;> grind
  sub_eq_add_neg _ _ := rfl
  intCast_ofNat a := ext fun n => by
    show (if n = 0 then (((OfNat.ofNat a : Int)) : R) else 0) = (if n = 0 then (OfNat.ofNat a : R) else 0)
    rw [Ring.intCast_ofNat]
  intCast_neg a := ext fun n => by
    show (if n = 0 then ((-a : Int) : R) else 0) = -(if n = 0 then (a : R) else 0)
    rw [Ring.intCast_neg]; split <;> grind
  neg_zsmul i f := ext fun n => by
    show (mul (C ((-i : Int) : R)) f).c n = - (mul (C (i : R)) f).c n
    rw [C_mul_c, C_mul_c, Ring.intCast_neg]; grind
  mul_comm f g := ext fun n => conv_comm n f.c g.c

theorem c_add (f g : Poly R) (n : Nat) : (f + g).c n = f.c n + g.c n := rfl
theorem c_neg (f : Poly R) (n : Nat) : (-f).c n = - f.c n := rfl
theorem c_sub (f g : Poly R) (n : Nat) : (f - g).c n = f.c n - g.c n := by
  rw [Ring.sub_eq_add_neg, Ring.sub_eq_add_neg]; rfl
theorem c_zero (n : Nat) : (0 : Poly R).c n = 0 := by show (if n = 0 then (0 : R) else 0) = 0; split <;> rfl
theorem c_C (x : R) (n : Nat) : (C x).c n = if n = 0 then x else 0 := rfl
theorem c_Cmul (x : R) (f : Poly R) (n : Nat) : (C x * f).c n = x * f.c n := C_mul_c x f n
theorem c_mul (f g : Poly R) (n : Nat) : (f * g).c n = conv f.c g.c n := rfl
theorem c_one (n : Nat) : (1 : Poly R).c n = if n = 0 then 1 else 0 := rfl
theorem C_one : (C 1 : Poly R) = 1 := rfl
theorem C_zero : (C 0 : Poly R) = 0 := rfl
theorem C_add (x y : R) : C (x + y) = C x + C y := ext fun n => by rw [c_add, c_C, c_C, c_C]; split <;> grind
theorem C_mul (x y : R) : C (x * y) = C x * C y := ext fun n => by rw [c_Cmul, c_C, c_C]; split <;> grind
theorem C_neg (x : R) : C (-x) = - C x := ext fun n => by rw [c_neg, c_C, c_C]; split <;> grind
theorem C_sub (x y : R) : C (x - y) = C x - C y := ext fun n => by rw [c_sub, c_C, c_C, c_C]; split <;> grind
theorem C_pow (x : R) : ∀ n : Nat, C (x ^ n) = C x ^ n
  | 0 => by rw [Semiring.pow_zero, Semiring.pow_zero]; rfl
  | n + 1 => by rw [Semiring.pow_succ, Semiring.pow_succ, C_mul, C_pow x n]
theorem C_nat (n : Nat) : C (n : R) = (n : Poly R) := rfl
theorem C_inj {x y : R} (h : C x = C y) : x = y := congrArg (fun f : Poly R => f.c 0) h
theorem c_Xmul_zero (f : Poly R) : (X * f).c 0 = 0 := by
  rw [c_mul, conv_zero]; show (if 0 = 1 then (1 : R) else 0) * f.c 0 = 0; rw [if_neg (by decide)]; grind
theorem c_Xmul_succ (f : Poly R) (n : Nat) : (X * f).c (n + 1) = f.c n := by
  rw [c_mul, conv_succ]
  have e : tl (X (R := R)).c = fun i => if i = 0 then 1 else 0 := by
    funext i; show (if i + 1 = 1 then (1 : R) else 0) = if i = 0 then 1 else 0
    by_cases h : i = 0
    · rw [if_pos h, if_pos (by omega)]
    · rw [if_neg h, if_neg (by omega)]
  rw [e, conv_one]
  show (if 0 = 1 then (1 : R) else 0) * f.c (n + 1) + f.c n = f.c n
  rw [if_neg (by decide)]; grind

/-- all places from d on are 0 -/
def Lt (f : Poly R) (d : Nat) : Prop := ∀ n, d ≤ n → f.c n = 0
theorem Lt.mono {f : Poly R} {d e : Nat} (h : Lt f d) (le : d ≤ e) : Lt f e := fun n hn => h n (by omega)
theorem Lt.add {f g : Poly R} {d : Nat} (h : Lt f d) (k : Lt g d) : Lt (f + g) d := fun n hn => by rw [c_add, h n hn, k n hn]; grind
theorem Lt.sub {f g : Poly R} {d : Nat} (h : Lt f d) (k : Lt g d) : Lt (f - g) d := fun n hn => by rw [c_sub, h n hn, k n hn]; grind
theorem Lt.zero {d : Nat} : Lt (0 : Poly R) d := fun n _ => c_zero n
theorem Lt.mul {f g : Poly R} {a b d : Nat} (h : Lt f a) (k : Lt g b) (le : a + b ≤ d + 1) : Lt (f * g) d := fun n hn => by
  rw [c_mul]; exact conv_lt a b n _ _ h k (by omega)
theorem lt_zero {f : Poly R} (h : Lt f 0) : f = 0 := ext fun n => by rw [h n (Nat.zero_le _), c_zero]
theorem ex_lt (f : Poly R) : ∃ d, Lt f d := f.fin
theorem top_mul {f g : Poly R} {a b : Nat} (h : Lt f (a + 1)) (k : Lt g (b + 1)) : (f * g).c (a + b) = f.c a * g.c b := by
  rw [c_mul]; exact conv_top a b _ _ (fun i hi => h i hi) fun i hi => k i hi
/-- X to a power, times f -/
theorem c_Xpow (f : Poly R) : ∀ (k n : Nat), (X ^ k * f).c (n + k) = f.c n
  | 0, n => by rw [Semiring.pow_zero, Semiring.one_mul]; rfl
  | k + 1, n => by
    rw [Semiring.pow_succ, show X ^ k * X * f = X * (X ^ k * f) by grind, show n + (k + 1) = (n + k) + 1 by omega, c_Xmul_succ, c_Xpow f k n]
theorem c_Xpow_lo (f : Poly R) : ∀ (k n : Nat), n < k → (X ^ k * f).c n = 0
  | k + 1, 0, _ => by rw [Semiring.pow_succ, show X ^ k * X * f = X * (X ^ k * f) by grind, c_Xmul_zero]
  | k + 1, n + 1, h => by rw [Semiring.pow_succ, show X ^ k * X * f = X * (X ^ k * f) by grind, c_Xmul_succ, c_Xpow_lo f k n (by omega)]
end Poly
end Rf
end
section
namespace Rf
open Lean.Grind
local instance (priority := low) instNC2 {R : Type} [CommRing R] : NatCast R := Semiring.natCast
local instance (priority := low) instIC2 {R : Type} [CommRing R] : IntCast R := Ring.intCast

section gen
variable {R : Type} [CommRing R]
theorem one_pw : ∀ n : Nat, (1 : R) ^ n = 1
  | 0 => Semiring.pow_zero _
  | n + 1 => by rw [Semiring.pow_succ, one_pw n]; grind
theorem zero_pw : ∀ n : Nat, 0 < n → (0 : R) ^ n = 0
  | n + 1, _ => by rw [Semiring.pow_succ]; grind
theorem mul_pw (a b : R) : ∀ n : Nat, (a * b) ^ n = a ^ n * b ^ n
  | 0 => by rw [Semiring.pow_zero, Semiring.pow_zero, Semiring.pow_zero]; grind
  | n + 1 => by rw [Semiring.pow_succ, Semiring.pow_succ, Semiring.pow_succ, mul_pw a b n]; grind
theorem pw_add (a : R) (m : Nat) : ∀ n : Nat, a ^ (m + n) = a ^ m * a ^ n
  | 0 => by rw [Semiring.pow_zero, Nat.add_zero]; grind
  | n + 1 => by rw [← Nat.add_assoc, Semiring.pow_succ, Semiring.pow_succ, pw_add a m n]; grind
theorem pw_pw (a : R) (m : Nat) : ∀ n : Nat, (a ^ m) ^ n = a ^ (m * n)
  | 0 => by rw [Nat.mul_zero, Semiring.pow_zero, Semiring.pow_zero]
  | n + 1 => by rw [Semiring.pow_succ, pw_pw a m n, Nat.mul_succ, pw_add]
theorem pw_one (a : R) : a ^ 1 = a := by rw [show 1 = 0 + 1 from rfl, Semiring.pow_succ, Semiring.pow_zero]; grind

/-- divides -/
def Dv (f a : R) : Prop := ∃ k, a = k * f
theorem Dv.refl (f : R) : Dv f f := ⟨1, by grind⟩
theorem Dv.zero (f : R) : Dv f 0 := ⟨0, by grind⟩
theorem Dv.one (f : R) : Dv 1 f := ⟨f, by grind⟩
theorem Dv.add {f a b : R} : Dv f a → Dv f b → Dv f (a + b) := fun ⟨k, h⟩ ⟨l, g⟩ => ⟨k + l, by grind⟩
theorem Dv.sub {f a b : R} : Dv f a → Dv f b → Dv f (a - b) := fun ⟨k, h⟩ ⟨l, g⟩ => ⟨k - l, by grind⟩
theorem Dv.mulr {f a : R} (b : R) : Dv f a → Dv f (a * b) := fun ⟨k, h⟩ => ⟨k * b, by grind⟩
theorem Dv.mull {f a : R} (b : R) : Dv f a → Dv f (b * a) := fun ⟨k, h⟩ => ⟨b * k, by grind⟩
theorem Dv.trans {f a b : R} : Dv f a → Dv a b → Dv f b := fun ⟨k, h⟩ ⟨l, g⟩ => ⟨l * k, by grind⟩
theorem Dv.sub_swap {f a b : R} : Dv f (a - b) → Dv f (b - a) := fun ⟨k, h⟩ => ⟨-k, by grind⟩
theorem Dv.chain {f a b c : R} : Dv f (a - b) → Dv f (b - c) → Dv f (a - c) := fun ⟨k, h⟩ ⟨l, g⟩ => ⟨k + l, by grind⟩
theorem Dv.mul2 {f a b c d : R} : Dv f (a - b) → Dv f (c - d) → Dv f (a * c - b * d) := fun ⟨k, h⟩ ⟨l, g⟩ => ⟨k * c + b * l, by grind⟩
theorem Dv.pow {f a b : R} (h : Dv f (a - b)) : ∀ n : Nat, Dv f (a ^ n - b ^ n)
  | 0 => ⟨0, by rw [Semiring.pow_zero, Semiring.pow_zero]; grind⟩
  | n + 1 => by rw [Semiring.pow_succ, Semiring.pow_succ]; exact Dv.mul2 (Dv.pow h n) h
theorem dv_idem {f h : R} (hh : Dv f (h * h - h)) : ∀ n : Nat, Dv f (h ^ (n + 1) - h)
  | 0 => ⟨0, by rw [Nat.zero_add, pw_one]; grind⟩
  | n + 1 => by
    obtain ⟨k, e⟩ := dv_idem hh n
    obtain ⟨l, g⟩ := hh
    rw [Semiring.pow_succ]
    exact ⟨k * h + l, by grind⟩

/-! ### sums to the power p -/
def nx (c : Nat) : List Nat → List Nat
  | [] => [c]
  | d :: l => (c + d) :: nx d l
def row : Nat → List Nat
  | 0 => [1]
  | n + 1 => nx 0 (row n)
def HH (a b : R) : List Nat → R
  | [] => 0
  | c :: l => (c : R) * b ^ l.length + a * HH a b l
theorem nx_len (c : Nat) (l : List Nat) : (nx c l).length = l.length + 1 := by
  induction l generalizing c with
  | nil => rfl
  | cons d l ih => rw [nx, List.length_cons, ih]; rfl
theorem HH_nx (a b : R) : ∀ (l : List Nat) (c : Nat), HH a b (nx c l) = (c : R) * b ^ l.length + (a + b) * HH a b l
  | [], c => by simp only [nx, HH]; grind
  | d :: l, c => by
    have := HH_nx a b l d
    simp only [nx, HH, nx_len, List.length_cons]
    rw [this, show ((c + d : Nat) : R) = (c : R) + (d : R) from Semiring.natCast_add c d, Semiring.pow_succ]
    grind
theorem HH_row (a b : R) : ∀ n : Nat, HH a b (row n) = (a + b) ^ n
  | 0 => by
    simp only [row, HH, Semiring.pow_zero, List.length_nil]
    have : ((1 : Nat) : R) = 1 := Semiring.natCast_one
    rw [this]; grind
  | n + 1 => by
    rw [row, HH_nx, HH_row a b n, Semiring.pow_succ]
    have : ((0 : Nat) : R) = 0 := Semiring.natCast_zero
    rw [this]; grind
def midOk (q : Nat) : List Nat → Bool
  | [] => false
  | [c] => c == 1
  | c :: d :: l => (c % q == 0) && midOk q (d :: l)
def rowOk (q : Nat) : Bool := match row q with
  | c :: d :: l => (c == 1) && midOk q (d :: l)
  | _ => false
theorem nat_mul0 {q : Nat} (hq : (q : R) = 0) {c : Nat} (h : c % q = 0) : (c : R) = 0 := by
  obtain ⟨k, rfl⟩ := Nat.dvd_of_mod_eq_zero h
  rw [show ((q * k : Nat) : R) = (q : R) * (k : R) from Semiring.natCast_mul q k, hq]; grind
theorem HH_mid {q : Nat} (hq : (q : R) = 0) (a b : R) : ∀ l : List Nat, midOk q l = true → HH a b l = a ^ (l.length - 1)
  | [], h => by simp [midOk] at h
  | [c], h => by
    simp only [midOk, beq_iff_eq] at h
    subst h
    simp only [HH, List.length_nil, List.length_cons, Semiring.pow_zero]
    have : ((1 : Nat) : R) = 1 := Semiring.natCast_one
    rw [this]; simp only [Nat.zero_add, Nat.sub_self, Semiring.pow_zero]; grind
  | c :: d :: l, h => by
    simp only [midOk, Bool.and_eq_true, beq_iff_eq] at h
    rw [HH, HH_mid hq a b (d :: l) h.2, nat_mul0 hq h.1]
    simp only [List.length_cons, Nat.add_sub_cancel]
    rw [Semiring.pow_succ]; grind
theorem row_len : ∀ n : Nat, (row n).length = n + 1
  | 0 => rfl
  | n + 1 => by rw [row, nx_len, row_len n]
theorem frob {q : Nat} (hq : (q : R) = 0) (ok : rowOk q = true) (a b : R) : (a + b) ^ q = a ^ q + b ^ q := by
  rw [← HH_row a b q]
  unfold rowOk at ok
  have hl := row_len q
  generalize row q = r at ok hl
  match r, ok, hl with
  | c :: d :: l, ok, hl =>
    simp only [Bool.and_eq_true, beq_iff_eq] at ok
    rw [HH, HH_mid hq a b _ ok.2, ok.1]
    simp only [List.length_cons] at hl ⊢
    have : ((1 : Nat) : R) = 1 := Semiring.natCast_one
    rw [this, show l.length + 1 = q by omega, show q = (l.length + 1 - 1) + 1 by omega, Semiring.pow_succ a]
    grind
theorem frob_sub {q : Nat} (hq : (q : R) = 0) (ok : rowOk q = true) (a b : R) : (a - b) ^ q = a ^ q - b ^ q := by
  have := frob hq ok (a - b) b
  rw [show a - b + b = a by grind] at this
  grind

/-! ### the ring by an element -/
def qset (f : R) : Setoid R := ⟨fun a b => ∃ k, a - b = k * f, ⟨fun a => ⟨0, by grind⟩, fun {a b} ⟨k, h⟩ => ⟨-k, by grind⟩, fun {a b c} ⟨k, h⟩ ⟨l, g⟩ => ⟨k + l, by grind⟩⟩⟩
def Qt (f : R) : Type := Quotient (qset f)
namespace Qt
variable {f : R}
def mk (f a : R) : Qt f := Quotient.mk (qset f) a
theorem ind {P : Qt f → Prop} (h : ∀ a, P (mk f a)) (x : Qt f) : P x := Quotient.ind h x
theorem mk_eq {a b : R} (h : ∃ k, a - b = k * f) : mk f a = mk f b := Quotient.sound h
theorem dv_of {a b : R} (h : mk f a = mk f b) : Dv f (a - b) := Quotient.exact h
def add (x y : Qt f) : Qt f := Quotient.liftOn₂ x y (fun a b => mk f (a + b)) fun a b c d ⟨k, h⟩ ⟨l, g⟩ => mk_eq ⟨k + l, by grind⟩
def mul (x y : Qt f) : Qt f := Quotient.liftOn₂ x y (fun a b => mk f (a * b)) fun a b c d ⟨k, h⟩ ⟨l, g⟩ => mk_eq ⟨k * b + c * l, by grind⟩
def neg (x : Qt f) : Qt f := Quotient.liftOn x (fun a => mk f (-a)) fun a b ⟨k, h⟩ => mk_eq ⟨-k, by grind⟩
def npow (x : Qt f) : Nat → Qt f
  | 0 => mk f 1
  | n + 1 => mul (npow x n) x
instance : CommRing (Qt f) where
  add := add
  mul := mul
  neg := neg
  sub x y := add x (neg y)
  natCast := ⟨fun n => mk f (n : R)⟩
  ofNat n := ⟨mk f (n : R)⟩
  intCast := ⟨fun n => mk f (n : R)⟩
  nsmul := ⟨fun n x => mul (mk f (n : R)) x⟩
  zsmul := ⟨fun n x => mul (mk f (n : R)) x⟩
  npow := ⟨npow⟩
  add_zero := ind fun a => congrArg (mk f) (by rw [Semiring.natCast_zero]; exact Semiring.add_zero a)
  add_comm := ind fun a => ind fun b => congrArg (mk f) (Semiring.add_comm a b)
  add_assoc := ind fun a => ind fun b => ind fun c => congrArg (mk f) (Semiring.add_assoc a b c)
  mul_assoc := ind fun a => ind fun b => ind fun c => congrArg (mk f) (Semiring.mul_assoc a b c)
  mul_one := ind fun a => congrArg (mk f) (by rw [Semiring.natCast_one]; exact Semiring.mul_one a)
  one_mul := ind fun a => congrArg (mk f) (by rw [Semiring.natCast_one]; exact Semiring.one_mul a)
  left_distrib := ind fun a => ind fun b => ind fun c => congrArg (mk f) (Semiring.left_distrib a b c)
  right_distrib := ind fun a => ind fun b => ind fun c => congrArg (mk f) (Semiring.right_distrib a b c)
  zero_mul := ind fun a => congrArg (mk f) (by rw [Semiring.natCast_zero]; exact Semiring.zero_mul a)
  mul_zero := ind fun a => congrArg (mk f) (by rw [Semiring.natCast_zero]; exact Semiring.mul_zero a)
  pow_zero _ := congrArg (mk f) (Semiring.natCast_one (α := R)).symm
  pow_succ _ _ := rfl
  ofNat_succ a := congrArg (mk f) (by rw [Semiring.natCast_add])
  neg_add_cancel := ind fun a => congrArg (mk f) (by rw [Semiring.natCast_zero]; exact Ring.neg_add_cancel a)
  sub_eq_add_neg _ _ := rfl
  neg_zsmul i := ind fun a => congrArg (mk f) (show ((-i : Int) : R) * a = -((i : R) * a) by rw [Ring.intCast_neg]; grind)
  intCast_ofNat n := congrArg (mk f) (by show ((OfNat.ofNat n : Int) : R) = ((n : Nat) : R); rw [Ring.intCast_ofNat, Semiring.ofNat_eq_natCast])
  zsmul_natCast_eq_nsmul n := ind fun a => congrArg (mk f) (show ((n : Int) : R) * a = (n : R) * a by rw [Ring.intCast_natCast])
  intCast_neg i := congrArg (mk f) (show ((-i : Int) : R) = -(i : R) by rw [Ring.intCast_neg])
  mul_comm := ind fun a => ind fun b => congrArg (mk f) (CommSemiring.mul_comm a b)
theorem mk_add (a b : R) : mk f (a + b) = mk f a + mk f b := rfl
theorem mk_mul (a b : R) : mk f (a * b) = mk f a * mk f b := rfl
theorem mk_zero : mk f 0 = 0 := congrArg (mk f) (Semiring.natCast_zero (α := R)).symm
theorem mk_one : mk f 1 = 1 := congrArg (mk f) (Semiring.natCast_one (α := R)).symm
theorem mk_neg (a : R) : mk f (-a) = - mk f a := rfl
theorem mk_sub (a b : R) : mk f (a - b) = mk f a - mk f b := congrArg (mk f) (Ring.sub_eq_add_neg a b)
theorem mk_nat (n : Nat) : mk f (n : R) = (n : Qt f) := rfl
theorem mk_pow (a : R) : ∀ n : Nat, mk f (a ^ n) = mk f a ^ n
  | 0 => by rw [Semiring.pow_zero, Semiring.pow_zero, mk_one]
  | n + 1 => by rw [Semiring.pow_succ, Semiring.pow_succ, mk_mul, mk_pow a n]
theorem mk_dv {a b : R} (h : Dv f (a - b)) : mk f a = mk f b := mk_eq h
theorem mk_dv0 {a : R} (h : Dv f a) : mk f a = 0 := by
  rw [← mk_zero]; exact mk_eq (by obtain ⟨k, h⟩ := h; exact ⟨k, by grind⟩)
theorem dv_of0 {a : R} (h : mk f a = 0) : Dv f a := by
  rw [← mk_zero] at h
  obtain ⟨k, e⟩ := dv_of h
  exact ⟨k, by grind⟩
end Qt

/-! ### rows of weights, their worth at a place -/
def ev : List R → R → R
  | [], _ => 0
  | a :: l, x => a + x * ev l x
def ml (c r : R) : List R → List R
  | [] => [c]
  | g :: gs => (c - r * g) :: ml g r gs
theorem ev_ml (r x : R) : ∀ (l : List R) (c : R), ev (ml c r l) x = c + (x - r) * ev l x
  | [], c => by simp only [ml, ev]; grind
  | g :: gs, c => by
    have := ev_ml r x gs g
    simp only [ml, ev]; rw [this]; grind
theorem len_ml (r : R) : ∀ (l : List R) (c : R), (ml c r l).length = l.length + 1
  | [], c => rfl
  | g :: gs, c => by rw [ml, List.length_cons, len_ml r gs g]; rfl
theorem last_ml (r : R) (d : R) : ∀ (l : List R) (c : R), l.getLast? = some d → (ml c r l).getLast? = some d
  | [], c, h => by simp at h
  | [g], c, h => by simpa [ml] using h
  | g :: g2 :: gs, c, h => by
    have h2 : (g2 :: gs).getLast? = some d := by rw [List.getLast?_cons_cons] at h; exact h
    have := last_ml r d (g2 :: gs) g h2
    rw [ml]
    cases e : ml g r (g2 :: gs) with
    | nil => rw [e] at this; simp at this
    | cons y ys => rw [List.getLast?_cons_cons, ← e]; exact this
theorem map_ml (s : R → R) (hs : ∀ a b, s (a - b) = s a - s b) (hm : ∀ a b, s (a * b) = s a * s b) (r : R) : ∀ (l : List R) (c : R), (ml c r l).map s = ml (s c) (s r) (l.map s)
  | [], c => rfl
  | g :: gs, c => by
    have := map_ml s hs hm r gs g
    simp only [ml, List.map_cons, this, hs, hm]
theorem ml_swap (r s : R) : ∀ (l : List R) (a a' b : R), a - r * b = a' - s * b → ml a r (ml b s l) = ml a' s (ml b r l)
  | [], a, a', b, h => by simp only [ml, h]
  | g :: gs, a, a', b, h => by
    have := ml_swap r s gs (b - s * g) (b - r * g) g (by grind)
    simp only [ml]
    rw [this, show a - r * (b - s * g) = a' - s * (b - r * g) by grind]
def MM : List R → List R
  | [] => [1]
  | r :: rs => ml 0 r (MM rs)
theorem len_MM : ∀ l : List R, (MM l).length = l.length + 1
  | [] => rfl
  | r :: rs => by rw [MM, len_ml, len_MM rs]; rfl
theorem last_MM : ∀ l : List R, (MM l).getLast? = some 1
  | [] => rfl
  | r :: rs => last_ml r 1 _ _ (last_MM rs)
theorem MM_snoc (r : R) : ∀ l : List R, MM (l ++ [r]) = MM (r :: l)
  | [] => rfl
  | a :: l => by
    show ml 0 a (MM (l ++ [r])) = ml 0 r (ml 0 a (MM l))
    rw [MM_snoc r l]
    exact ml_swap a r _ 0 0 0 (by grind)
theorem map_MM (s : R → R) (h1 : s 1 = 1) (h0 : s 0 = 0) (hs : ∀ a b, s (a - b) = s a - s b) (hm : ∀ a b, s (a * b) = s a * s b) : ∀ l : List R, (MM l).map s = MM (l.map s)
  | [] => by simp [MM, h1]
  | r :: l => by rw [MM, map_ml s hs hm, map_MM s h1 h0 hs hm l, h0]; rfl
theorem ev_MM_mem (x : R) : ∀ l : List R, x ∈ l → ev (MM l) x = 0
  | r :: l, h => by
    rw [MM, ev_ml]
    rcases List.mem_cons.mp h with e | h
    · rw [e]; grind
    · rw [ev_MM_mem x l h]; grind
/-- parted by Y less r -/
def qd (r : R) : List R → List R
  | [] => []
  | [_] => []
  | _ :: b :: l => ev (b :: l) r :: qd r (b :: l)
theorem ev_qd (r y : R) : ∀ (a : R) (l : List R), ev (a :: l) y = ev (a :: l) r + (y - r) * ev (qd r (a :: l)) y
  | a, [] => by simp only [qd, ev]; grind
  | a, b :: l => by
    have := ev_qd r y b l
    show a + y * ev (b :: l) y = a + r * ev (b :: l) r + (y - r) * (ev (b :: l) r + y * ev (qd r (b :: l)) y)
    rw [this]; grind
theorem len_qd (r : R) : ∀ (a : R) (l : List R), (qd r (a :: l)).length = l.length
  | a, [] => rfl
  | a, b :: l => by rw [qd, List.length_cons, len_qd r b l]; rfl
theorem last_qd (r d : R) : ∀ (a : R) (l : List R), l ≠ [] → (a :: l).getLast? = some d → (qd r (a :: l)).getLast? = some d
  | a, [], h, _ => (h rfl).elim
  | a, [b], _, h => by
    simp only [List.getLast?_cons_cons] at h
    simp only [List.getLast?_singleton, Option.some.injEq] at h
    subst h
    simp only [qd, List.getLast?_singleton, ev]
    congr 1; grind
  | a, b :: c :: l, _, h => by
    rw [List.getLast?_cons_cons] at h
    have := last_qd r d b (c :: l) (by simp) h
    rw [qd]
    cases e : qd r (b :: c :: l) with
    | nil => rw [e] at this; simp at this
    | cons y ys => rw [List.getLast?_cons_cons, ← e]; exact this
def pr (r : Nat → R) (y : R) : Nat → R
  | 0 => 1
  | k + 1 => pr r y k * (y - r k)
theorem fac (dom : ∀ a b : R, a * b = 0 → a = 0 ∨ b = 0) (r : Nat → R) : ∀ (k : Nat) (l : List R), l.length = k + 1 → l.getLast? = some 1 → (∀ i, i < k → ev l (r i) = 0) → (∀ i j, i < j → j < k → r i ≠ r j) → ∀ y, ev l y = pr r y k
  | 0, [a], _, h, _, _, y => by
    simp only [List.getLast?_singleton, Option.some.injEq] at h
    subst h
    simp only [ev, pr]; grind
  | k + 1, a :: b :: l, hl, h, hr, hd, y => by
    have e0 : ∀ y, ev (a :: b :: l) y = (y - r k) * ev (qd (r k) (a :: b :: l)) y := fun y => by
      rw [ev_qd (r k) y a (b :: l), hr k (by omega)]; grind
    have hl2 : (qd (r k) (a :: b :: l)).length = k + 1 := by rw [len_qd]; simpa using hl
    have ih := fac dom r k (qd (r k) (a :: b :: l)) hl2 (last_qd (r k) 1 a (b :: l) (by simp) h) (fun i hi => by
      have z := hr i (by omega)
      rw [e0] at z
      rcases dom _ _ z with q | q
      · exact (hd i k hi (by omega) (by grind)).elim
      · exact q) (fun i j h1 h2 => hd i j h1 (by omega)) y
    rw [e0, ih, pr]; grind
theorem pr_zero (dom : ∀ a b : R, a * b = 0 → a = 0 ∨ b = 0) (one : (1 : R) ≠ 0) (r : Nat → R) (y : R) : ∀ k, pr r y k = 0 → ∃ i, i < k ∧ y = r i
  | 0, h => (one h).elim
  | k + 1, h => by
    rcases dom _ _ h with q | q
    · obtain ⟨i, hi, e⟩ := pr_zero dom one r y k q
      exact ⟨i, by omega, e⟩
    · exact ⟨k, by omega, by grind⟩
end gen
end Rf
end
section
namespace Rf
open Lean.Grind
local instance (priority := low) instNC3 {R : Type} [CommRing R] : NatCast R := Semiring.natCast

section
variable {R : Type} [CommRing R]
open Poly
/-- a row whose last place n is 1 -/
structure Mon (f : Poly R) (n : Nat) : Prop where
  one : f.c n = 1
  lt : Lt f (n + 1)
theorem Mon.dv_lt {f : Poly R} {n : Nat} (m : Mon f n) (ne : (1 : R) ≠ 0) {a : Poly R} (h : Dv f a) (l : Lt a n) : a = 0 := by
  obtain ⟨k, e⟩ := h
  have all : ∀ d, Lt k d → k = 0 := by
    intro d
    induction d with
    | zero => exact lt_zero
    | succ d ih =>
      intro hk
      apply ih
      intro i hi
      by_cases h : i = d
      · subst h
        have t := top_mul hk m.lt
        rw [← e, l (i + n) (by omega), m.one] at t
        grind
      · exact hk i (by omega)
  obtain ⟨d, hd⟩ := k.ex_lt
  rw [e, all d hd]; grind
/-- parting by what ends in something that has an inverse -/
theorem part_ex {g : Poly R} {n : Nat} {b : R} (hl : Lt g (n + 1)) (hb : g.c n * b = 1) : ∀ (d : Nat) (a : Poly R), Lt a d → ∃ q r, a = q * g + r ∧ Lt r n
  | 0, a, h => ⟨0, 0, by rw [lt_zero h]; grind, Lt.zero⟩
  | d + 1, a, h => by
    by_cases hd : d < n
    · exact ⟨0, a, by grind, h.mono (by omega)⟩
    · obtain ⟨q, r, e, l⟩ := part_ex hl hb d (a - C (a.c d * b) * (X ^ (d - n) * g)) fun i hi => by
        rw [c_sub, c_Cmul]
        by_cases h2 : i = d
        · subst h2
          have := c_Xpow g (i - n) n
          rw [show n + (i - n) = i by omega] at this
          rw [this]; grind
        · rw [h i (by omega)]
          have := c_Xpow g (d - n) (i - (d - n))
          rw [show i - (d - n) + (d - n) = i by omega, hl (i - (d - n)) (by omega)] at this
          rw [this]; grind
      exact ⟨q + C (a.c d * b) * X ^ (d - n), r, by grind, l⟩
structure Fld (R : Type) [CommRing R] : Prop where
  inv : ∀ a : R, a ≠ 0 → ∃ b, a * b = 1
  ne : (1 : R) ≠ 0
theorem Fld.dom (F : Fld R) (a b : R) (h : a * b = 0) : a = 0 ∨ b = 0 := by
  by_cases e : a = 0
  · exact .inl e
  · obtain ⟨c, hc⟩ := F.inv a e
    exact .inr (by grind)
theorem gcd_ex (F : Fld R) : ∀ (d : Nat) (b : Poly R), Lt b d → ∀ a, ∃ g u v, g = u * a + v * b ∧ Dv g a ∧ Dv g b
  | 0, b, h, a => ⟨a, 1, 0, by grind, Dv.refl a, by rw [lt_zero h]; exact Dv.zero a⟩
  | d + 1, b, h, a => by
    by_cases e : b.c d = 0
    · exact gcd_ex F d b (fun i hi => by
        by_cases h2 : i = d
        · rw [h2, e]
        · exact h i (by omega)) a
    · obtain ⟨c, hc⟩ := F.inv _ e
      obtain ⟨da, ha⟩ := a.ex_lt
      obtain ⟨q, r, er, lr⟩ := part_ex h hc da a ha
      obtain ⟨g, u, v, eg, hb, hr⟩ := gcd_ex F d r lr b
      exact ⟨g, v, u - v * q, by grind, by rw [er]; exact (hb.mull q).add hr, hb⟩

/-! ### the slope -/
def derc (f : Nat → R) (n : Nat) : R := ((n + 1 : Nat) : R) * f (n + 1)
theorem derc_conv : ∀ (n : Nat) (f g : Nat → R), ((n + 1 : Nat) : R) * conv f g (n + 1) = conv (derc f) g n + conv f (derc g) n
  | 0, f, g => by
    simp only [conv_succ, conv_zero, derc, tl]
    have : ((0 + 1 : Nat) : R) = 1 := Semiring.natCast_one
    rw [this]; grind
  | n + 1, f, g => by
    have ih := derc_conv n (tl f) g
    have e : tl (derc f) = fun i => derc (tl f) i + tl (tl f) i := by
      funext i
      simp only [tl, derc]
      rw [show ((i + 1 + 1 : Nat) : R) = ((i + 1 : Nat) : R) + 1 from Semiring.natCast_succ (i + 1)]; grind
    have e2 : ((n + 1 + 1 : Nat) : R) = ((n + 1 : Nat) : R) + 1 := Semiring.natCast_succ (n + 1)
    rw [conv_succ f g, conv_succ (derc f) g, conv_succ f (derc g), e, conv_add_left]
    have e4 : conv (tl f) g (n + 1) = tl f 0 * g (n + 1) + conv (tl (tl f)) g n := rfl
    have e5 : derc f 0 = tl f 0 := by
      simp only [derc, tl]
      have : ((0 + 1 : Nat) : R) = 1 := Semiring.natCast_one
      rw [this]; grind
    have e6 : derc g (n + 1) = (((n + 1 : Nat) : R) + 1) * g (n + 1 + 1) := by rw [derc, e2]
    rw [e5, e6, e2]
    grind
def der (f : Poly R) : Poly R := ⟨derc f.c, by
  obtain ⟨N, h⟩ := f.fin
  exact ⟨N, fun n hn => by rw [derc, h (n + 1) (by omega)]; grind⟩⟩
theorem der_mul (f g : Poly R) : der (f * g) = der f * g + f * der g := ext fun n => derc_conv n f.c g.c

theorem al1 {a b c d f : R} (ee : a = b * d) (ec : c = f * d) : a * c = (b * f * d) * d := by rw [ee, ec]; grind
theorem al2 {u f v g k x y e k1 d1 d : R} (h : u * f + v * g = 1) (hf : f = k * d) (hg : g = k1 * d + k * d1) (hx : d = x * e) (hy : k = y * e) : 1 = (u * y * x * e + v * (k1 * x) + v * y * d1) * e := by
  rw [← h, hg, hf, hx, hy]; grind
theorem al3 {w s t d k e : R} (h : 1 = w * e) (g : e = s * d + t * k) : w * s * d + w * t * k = 1 := by rw [h, g]; grind
theorem al4 {w s t d k f : R} (h : w * s * d + w * t * k = 1) (g : f = k * d) : w * s * d * (w * s * d) - w * s * d = -(w * s * (w * t)) * f := by
  rw [g]; grind
theorem al5 {s t d k f z : R} (h : s * d + t * k = 1) (g : f = k * d) (e : s * d - 0 = z * f) : (z * d + t) * k = 1 := by
  rw [← h]; grind
theorem al6 {z d t k f a ka : R} (h : (z * d + t) * k = 1) (g : f = k * d) (e : a = ka * d) : a = ka * (z * d + t) * f := by
  rw [g, e]; grind
theorem al7 {s z k d f c ci : R} (e : s * d - c = z * f) (g : f = k * d) (h : c * ci = 1) : (s - z * k) * ci * d = 1 := by
  rw [← h]; grind
theorem al8 {q d u f v a b j : R} (h : q * d = 1) (e : d = u * f + v * a) (g : a * b = j * f) : b = q * (u * b + v * j) * f := by
  have : b = q * d * b := by rw [h]; grind
  rw [e] at this
  grind
/-! ### what does not part -/
theorem prime_of (F : Fld R) {f : Poly R} {n : Nat} (m : Mon f n) (hn : 0 < n) {q : Nat} (hq : 0 < q) (sq : ∃ u v, u * f + v * der f = 1) (fix : ∀ h, Dv f (h ^ q - h) → ∃ c, Dv f (h - C c)) (a b : Poly R) (h : Dv f (a * b)) : Dv f a ∨ Dv f b := by
  obtain ⟨da, ha⟩ := a.ex_lt
  obtain ⟨d, u, v, ed, ⟨k, ek⟩, ⟨ka, eka⟩⟩ : ∃ d u v, d = u * f + v * a ∧ Dv d f ∧ Dv d a := by
    obtain ⟨d, u, v, e, x, y⟩ := gcd_ex F da a ha f
    exact ⟨d, u, v, e, x, y⟩
  -- f = k d; d and k have nothing in common
  obtain ⟨dk, hk⟩ := k.ex_lt
  obtain ⟨e, s, t, ee, ⟨x, ex⟩, ⟨y, ey⟩⟩ := gcd_ex F dk k hk d
  obtain ⟨u1, v1, e1⟩ := sq
  have eder : der f = der k * d + k * der d := by rw [ek, der_mul]
  have ederd : der d = der x * e + x * der e := by rw [← der_mul, ← ex]
  have ederk : der k = der y * e + y * der e := by rw [← der_mul, ← ey]
  have hu : Dv e 1 := ⟨_, al2 e1 ek eder ex ey⟩
  obtain ⟨w, ew⟩ := hu
  -- s' d + t' k = 1
  have one : w * s * d + w * t * k = 1 := al3 ew ee
  obtain ⟨N, hN⟩ : ∃ N, q = N + 1 := ⟨q - 1, by omega⟩
  obtain ⟨c, hc⟩ := fix (w * s * d) (by
    rw [hN]
    exact dv_idem ⟨-(w * s * (w * t)), al4 one ek⟩ N)
  by_cases c0 : c = 0
  · -- f | s d: k | 1
    left
    rw [c0, C_zero] at hc
    obtain ⟨z, ez⟩ := hc
    have k1 : (z * d + w * t) * k = 1 := al5 one ek ez
    exact ⟨ka * (z * d + w * t), al6 k1 ek eka⟩
  · right
    obtain ⟨ci, hci⟩ := F.inv c c0
    obtain ⟨z, ez⟩ := hc
    have cc : C c * C ci = 1 := by rw [← C_mul, hci, C_one]
    have d1 : (w * s - z * k) * C ci * d = 1 := al7 ez ek cc
    obtain ⟨j, ej⟩ := h
    exact ⟨(w * s - z * k) * C ci * (u * b + v * j), al8 d1 ed ej⟩

/-! ### the turns of x -/
/-- rests as a row -/
def EE : List R → Poly R
  | [] => 0
  | a :: l => C a + X * EE l
theorem EE_c : ∀ (l : List R) (n : Nat), (EE l).c n = l.getD n 0
  | [], n => by rw [EE, c_zero]; rfl
  | a :: l, 0 => by rw [EE, c_add, c_Xmul_zero, c_C, if_pos rfl]; show a + 0 = a; grind
  | a :: l, n + 1 => by rw [EE, c_add, c_Xmul_succ, c_C, if_neg (by omega), EE_c l n]; show 0 + l.getD n 0 = (a :: l).getD (n + 1) 0; rw [List.getD_cons_succ]; grind
theorem EE_lt (l : List R) : Lt (EE l) l.length := fun n hn => by
  rw [EE_c, List.getD_eq_getElem?_getD, List.getElem?_eq_none_iff.mpr hn]; rfl
variable {f : Poly R}
def kc (f : Poly R) (a : R) : Qt f := Qt.mk f (C a)
theorem ev_kc (y : Poly R) : ∀ l : List R, ev (l.map (kc f)) (Qt.mk f X) = Qt.mk f (EE l)
  | [] => by rw [List.map_nil, ev, EE, Qt.mk_zero]
  | a :: l => by rw [List.map_cons, ev, ev_kc y l, EE, Qt.mk_add, Qt.mk_mul]; rfl
def sg (q : Nat) (k : Nat) (y : Qt f) : Qt f := y ^ (q ^ k)
theorem sg_zero (q : Nat) (y : Qt f) : sg q 0 y = y := by rw [sg, Nat.pow_zero, pw_one]
theorem sg_succ (q k : Nat) (y : Qt f) : sg q (k + 1) y = (sg q k y) ^ q := by rw [sg, sg, pw_pw, Nat.pow_succ]
theorem sg_succ' (q k : Nat) (y : Qt f) : sg q (k + 1) y = sg q k (y ^ q) := by rw [sg, sg, pw_pw, Nat.pow_succ, Nat.mul_comm]
def orb (q : Nat) : Nat → Qt f → List (Qt f)
  | 0, _ => []
  | k + 1, y => y :: orb q k (y ^ q)
theorem orb_len (q : Nat) : ∀ (k : Nat) (y : Qt f), (orb q k y).length = k
  | 0, _ => rfl
  | k + 1, y => by rw [orb, List.length_cons, orb_len q k]
theorem orb_snoc (q : Nat) : ∀ (k : Nat) (y : Qt f), orb q (k + 1) y = orb q k y ++ [sg q k y]
  | 0, y => by rw [sg_zero]; rfl
  | k + 1, y => by
    rw [orb, orb_snoc q k (y ^ q), ← sg_succ' q k y]; rfl
theorem orb_map (q : Nat) : ∀ (k : Nat) (y : Qt f), (orb q k y).map (· ^ q) = orb q k (y ^ q)
  | 0, _ => rfl
  | k + 1, y => by rw [orb, List.map_cons, orb_map q k]; rfl
theorem lift_list (g : R → Qt f) : ∀ l : List (Qt f), (∀ y ∈ l, ∃ a, y = g a) → ∃ m : List R, l = m.map g
  | [], _ => ⟨[], rfl⟩
  | y :: l, h => by
    obtain ⟨a, ha⟩ := h y List.mem_cons_self
    obtain ⟨m, hm⟩ := lift_list g l fun z hz => h z (List.mem_cons_of_mem _ hz)
    exact ⟨a :: m, by rw [ha, hm]; rfl⟩

structure Good (f : Poly R) (n q : Nat) : Prop where
  F : Fld R
  m : Mon f n
  n0 : 0 < n
  q0 : 0 < q
  char : (q : R) = 0
  rows : rowOk q = true
  fermat : ∀ a : R, a ^ q = a
  prime : ∀ a b, Dv f (a * b) → Dv f a ∨ Dv f b
  fix : ∀ h, Dv f (h ^ q - h) → ∃ c, Dv f (h - C c)
variable {n q : Nat}
theorem Good.charK (G : Good f n q) : (q : Qt f) = 0 := by
  have h : (q : Poly R) = 0 := by rw [← C_nat, G.char, C_zero]
  rw [← Qt.mk_nat, h, Qt.mk_zero]
theorem Good.neK (G : Good f n q) : (1 : Qt f) ≠ 0 := fun h => by
  rw [← Qt.mk_one] at h
  have := G.m.dv_lt G.F.ne (Qt.dv_of0 h) (fun i hi => by rw [c_one, if_neg (by have := G.n0; omega)])
  have e : (1 : Poly R).c 0 = (0 : Poly R).c 0 := by rw [this]
  rw [c_one, c_zero, if_pos rfl] at e
  exact G.F.ne e
theorem Good.dom (G : Good f n q) (a b : Qt f) : a * b = 0 → a = 0 ∨ b = 0 := by
  refine Qt.ind (P := fun a => a * b = 0 → a = 0 ∨ b = 0) (fun a => ?_) a
  refine Qt.ind (P := fun b => Qt.mk f a * b = 0 → Qt.mk f a = 0 ∨ b = 0) (fun b => ?_) b
  intro h
  rcases G.prime a b (Qt.dv_of0 h) with h | h
  · exact .inl (Qt.mk_dv0 h)
  · exact .inr (Qt.mk_dv0 h)
theorem Good.pw0 (G : Good f n q) (a : Qt f) : ∀ k : Nat, a ^ k = 0 → a = 0
  | 0, h => (G.neK (by rw [← h, Semiring.pow_zero])).elim
  | k + 1, h => by
    rw [Semiring.pow_succ] at h
    rcases G.dom _ _ h with h | h
    · exact G.pw0 a k h
    · exact h
theorem Good.inj (G : Good f n q) {a b : Qt f} (h : a ^ q = b ^ q) : a = b := by
  have := frob_sub G.charK G.rows a b
  have z := G.pw0 (a - b) q (by rw [this, h]; grind)
  grind
theorem Good.injs (G : Good f n q) : ∀ (k : Nat) {a b : Qt f}, sg q k a = sg q k b → a = b
  | 0, a, b, h => by rw [sg_zero, sg_zero] at h; exact h
  | k + 1, a, b, h => by rw [sg_succ, sg_succ] at h; exact G.injs k (G.inj h)
theorem Good.fixK (G : Good f n q) (y : Qt f) : y ^ q = y → ∃ a, y = kc f a := by
  refine Qt.ind (P := fun y => y ^ q = y → ∃ a, y = kc f a) (fun h => ?_) y
  intro e
  rw [← Qt.mk_pow] at e
  obtain ⟨c, hc⟩ := G.fix h (Qt.dv_of e)
  exact ⟨c, Qt.mk_dv hc⟩
/-- no lesser turn leaves x still -/
theorem Good.less (G : Good f n q) {m : Nat} (h0 : 0 < m) (hm : m < n) : sg q m (Qt.mk f X) ≠ Qt.mk f X := fun h => by
  obtain ⟨k, rfl⟩ : ∃ k, m = k + 1 := ⟨m - 1, by omega⟩
  have e1 : orb q (k + 1) ((Qt.mk f X) ^ q) = orb q k ((Qt.mk f X) ^ q) ++ [Qt.mk f X] := by rw [orb_snoc, ← sg_succ' q k, h]
  have e2 : MM (orb q (k + 1) ((Qt.mk f X) ^ q)) = MM (orb q (k + 1) (Qt.mk f X)) := by rw [e1, MM_snoc]; rfl
  have e3 : (MM (orb q (k + 1) (Qt.mk f X))).map (· ^ q) = MM (orb q (k + 1) (Qt.mk f X)) := by
    rw [map_MM (fun y : Qt f => y ^ q) (one_pw q) (zero_pw q G.q0) (fun a b => frob_sub G.charK G.rows a b) (fun a b => mul_pw a b q), orb_map, e2]
  obtain ⟨l, hl⟩ := lift_list (kc f) (MM (orb q (k + 1) (Qt.mk f X))) fun y hy => by
    apply G.fixK
    obtain ⟨i, hi, ei⟩ := List.getElem_of_mem hy
    have : ((MM (orb q (k + 1) (Qt.mk f X))).map (· ^ q))[i]? = (MM (orb q (k + 1) (Qt.mk f X)))[i]? := by rw [e3]
    rw [List.getElem?_map, List.getElem?_eq_getElem hi, ei] at this
    exact Option.some.inj this
  have hlen : l.length = k + 2 := by
    have := len_MM (orb q (k + 1) (Qt.mk f X))
    rw [hl, List.length_map, orb_len] at this
    exact this
  have z : ev (MM (orb q (k + 1) (Qt.mk f X))) (Qt.mk f X) = 0 := ev_MM_mem _ _ (by rw [orb]; exact List.mem_cons_self)
  rw [hl, ev_kc X] at z
  have z2 := G.m.dv_lt G.F.ne (Qt.dv_of0 z) ((EE_lt l).mono (by omega))
  have la := last_MM (orb q (k + 1) (Qt.mk f X))
  rw [hl, List.getLast?_map] at la
  cases el : l.getLast? with
  | none => rw [el] at la; simp at la
  | some d =>
    rw [el] at la
    have la' : kc f d = 1 := Option.some.inj la
    have d0 : d = 0 := by
      have t : (EE l).c (k + 1) = 0 := by rw [z2, c_zero]
      rw [EE_c, List.getD_eq_getElem?_getD] at t
      rw [List.getLast?_eq_getElem?, hlen] at el
      rw [show k + 2 - 1 = k + 1 by omega] at el
      rw [el] at t
      exact t
    rw [d0, kc, C_zero, Qt.mk_zero] at la'
    exact G.neK la'.symm
theorem Good.root (G : Good f n q) (l : List R) {y : Qt f} (h : ev (l.map (kc f)) y = 0) : ev (l.map (kc f)) (y ^ q) = 0 := by
  have key : ∀ l : List R, (ev (l.map (kc f)) y) ^ q = ev (l.map (kc f)) (y ^ q) := by
    intro l
    induction l with
    | nil => exact zero_pw q G.q0
    | cons a l ih =>
      rw [List.map_cons, ev, ev, frob G.charK G.rows, mul_pw, ih]
      have : (kc f a) ^ q = kc f a := by rw [kc, ← Qt.mk_pow, ← C_pow, G.fermat]
      rw [this]
  rw [← key, h]; exact zero_pw q G.q0
/-- n turns leave x still -/
theorem Good.home (G : Good f n q) : sg q n (Qt.mk f X) = Qt.mk f X := by
  let fs : List R := (List.range (n + 1)).map f.c
  have hfs : EE fs = f := ext fun i => by
    rw [EE_c, List.getD_eq_getElem?_getD]
    by_cases hi : i < n + 1
    · rw [List.getElem?_map, List.getElem?_range hi]; rfl
    · rw [List.getElem?_eq_none_iff.mpr (by simp [fs]; omega), G.m.lt i (by omega)]; rfl
  have r0 : ∀ k, ev (fs.map (kc f)) (sg q k (Qt.mk f X)) = 0 := by
    intro k
    induction k with
    | zero => rw [sg_zero, ev_kc X, hfs]; exact Qt.mk_dv0 (Dv.refl f)
    | succ k ih => rw [sg_succ]; exact G.root fs ih
  have key : ∀ i j, i < j → sg q j (Qt.mk f X) = sg q i (Qt.mk f X) → sg q (j - i) (Qt.mk f X) = Qt.mk f X := fun i j hij e => by
    apply G.injs i
    rw [← e, sg, sg, sg, pw_pw, ← Nat.pow_add, show j - i + i = j by omega]
  have fa := fac G.dom (fun i => sg q i (Qt.mk f X)) n (fs.map (kc f)) (by simp [fs]) (by
    rw [List.getLast?_eq_getElem?, List.length_map, List.getElem?_map]
    have : fs[fs.length - 1]? = some 1 := by
      simp only [fs, List.length_map, List.length_range, Nat.add_sub_cancel]
      rw [List.getElem?_map, List.getElem?_range (by omega)]
      exact congrArg some G.m.one
    rw [this]
    show some (kc f 1) = some 1
    rw [kc, C_one, Qt.mk_one]) (fun i _ => r0 i) (fun i j hij hj e => G.less (show 0 < j - i by omega) (by omega) (key i j hij e.symm)) (sg q n (Qt.mk f X))
  rw [r0 n] at fa
  obtain ⟨i, hi, e⟩ := pr_zero G.dom G.neK _ _ _ fa.symm
  have k2 := key i n hi e
  by_cases i0 : i = 0
  · rw [i0] at e; rw [e, sg_zero]
  · exact (G.less (show 0 < n - i by omega) (by omega) k2).elim
theorem Good.home_dv (G : Good f n q) : Dv f (X ^ (q ^ n) - X) := by
  apply Qt.dv_of
  rw [Qt.mk_pow]; exact G.home
theorem Good.less_dv (G : Good f n q) {m : Nat} (h0 : 0 < m) (hm : m < n) : ¬ Dv f (X ^ (q ^ m) - X) := fun h => by
  apply G.less h0 hm
  have := Qt.mk_dv h
  rw [Qt.mk_pow] at this; exact this
/-- what divides f is 1 or f -/
theorem Good.div (G : Good f n q) {d a : Poly R} (h : Dv d f) (ha : Dv d a) (no : ¬ Dv f a) : Dv d 1 := by
  obtain ⟨k, e⟩ := h
  rcases G.prime k d (by rw [← e]; exact Dv.refl f) with h | h
  · obtain ⟨j, ej⟩ := h
    have z : f * (1 - j * d) = 0 := by grind
    have t : 1 - j * d = 0 := by
      have all : ∀ (N : Nat) (k : Poly R), f * k = 0 → Lt k N → k = 0 := by
        intro N
        induction N with
        | zero => exact fun k _ h => lt_zero h
        | succ N ih =>
          intro k hk hl
          apply ih k hk
          intro i hi
          by_cases h2 : i = N
          · subst h2
            have := top_mul G.m.lt hl
            rw [hk, c_zero, G.m.one] at this
            grind
          · exact hl i (by omega)
      obtain ⟨N, hN⟩ := (1 - j * d).ex_lt
      exact all N _ z hN
    exact ⟨j, by grind⟩
  · exact (no (h.trans ha)).elim
end
end Rf
end
section
namespace Rf
/-! ### the mirror: each def as a plain function -/
def PRIMES : List Int := [2, 3, 5, 7, 11, 13, 17, 19, 23, 29, 31, 37, 41, 43, 47, 53, 59, 61, 67, 71, 73, 79, 83, 89, 97]
def raisedF : Nat → Int → Int → Int → Int → Int
  | 0, found, _, _, _ => found
  | n + 1, found, base, e, p => if 0 < e then raisedF n (if e % 2 = 1 then found * base % p else found) (base * base % p) (e / 2) p else found
def raised (number exponent p : Int) : Int := raisedF exponent.toNat 1 number exponent p
def turnedOver (number p : Int) : Int := raised number (p - 2) p
/-- without noughts at the end -/
def cut : List Int → List Int
  | [] => []
  | a :: l => match cut l with
    | [] => if a = 0 then [] else [a]
    | b :: m => a :: b :: m
def wid (a : List Int) (m : Nat) : List Int := a ++ List.replicate (m - a.length) 0
def blended (a b : List Int) (w p : Int) : List Int := cut (List.zipWith (fun x y => (x + w * y) % p) (wid a (max a.length b.length)) (wid b (max a.length b.length)))
def less (a b : List Int) (p : Int) : List Int := blended a b (p - 1) p
def scaled (a : List Int) (w p : Int) : List Int := cut (a.map fun x => x * w % p)
/-- for place, more in enumerate(other): found[at + place] += part * more -/
def inn (part : Int) : Nat → List Int → List Int → List Int
  | _, found, [] => found
  | at', found, m :: ms => inn part (at' + 1) (found.set at' (found.getD at' 0 + part * m)) ms
def out (other : List Int) : Nat → List Int → List Int → List Int
  | _, found, [] => found
  | at', found, a :: as => out other (at' + 1) (if a ≠ 0 then inn a at' found other else found) as
def multiplied (a b : List Int) (p : Int) : List Int :=
  if a = [] ∨ b = [] then [] else cut ((out b 0 (List.replicate (a.length + b.length - 1) 0) a).map (· % p))
/-- for place, part in enumerate(other): left[at + place] = (left[at + place] - weight * part) % p -/
def innM (w p : Int) : Nat → List Int → List Int → List Int
  | _, left, [] => left
  | at', left, m :: ms => innM w p (at' + 1) (left.set at' ((left.getD at' 0 - w * m) % p)) ms
def dvL (other : List Int) (back p : Int) : Nat → List Int → List Int → List Int × List Int
  | 0, left, quo => (quo, left)
  | k + 1, left, quo =>
    let w := left.getD (k + other.length - 1) 0 * back % p
    dvL other back p k (if w ≠ 0 then innM w p k left other else left) (quo.set k w)
def divided (one other : List Int) (p : Int) : List Int × List Int :=
  let r := dvL other (turnedOver (other.getLastD 0) p) p (one.length + 1 - other.length) one (List.replicate (one.length + 1 - other.length) 0)
  (cut r.1, cut (r.2.take (other.length - 1)))
def leftBy (one rule : List Int) (p : Int) : List Int := (divided one rule p).2
def levelled (one : List Int) (p : Int) : List Int := scaled one (turnedOver (one.getLastD 0) p) p
abbrev Tri := List Int × List Int × List Int
def shStep (here there : Tri) (p : Int) : Tri :=
  let d := divided here.1 there.1 p
  (d.2, less here.2.1 (multiplied d.1 there.2.1 p) p, less here.2.2 (multiplied d.1 there.2.2 p) p)
def shL (p : Int) : Nat → Tri → Tri → Tri
  | 0, here, _ => here
  | k + 1, here, there => if there.1 = [] then here else shL p k there (shStep here there p)
def shEnd (h : Tri) (p : Int) : Tri :=
  if h.1 = [] then h else (scaled h.1 (turnedOver (h.1.getLastD 0) p) p, scaled h.2.1 (turnedOver (h.1.getLastD 0) p) p, scaled h.2.2 (turnedOver (h.1.getLastD 0) p) p)
def shared (one other : List Int) (p : Int) : Tri := shEnd (shL p (other.length + 1) (one, [1], []) (other, [], [1])) p
def lrL (rule : List Int) (p : Int) : Nat → List Int → List Int → Int → List Int
  | 0, found, _, _ => found
  | k + 1, found, base, e => if 0 < e then lrL rule p k (if e % 2 = 1 then leftBy (multiplied found base p) rule p else found) (leftBy (multiplied base base p) rule p) (e / 2) else found
def leftRaised (one : List Int) (e : Int) (rule : List Int) (p : Int) : List Int := lrL rule p e.toNat (leftBy [1] rule p) (leftBy one rule p) e
def ptStep (other rule : List Int) (p : Int) (found : List Int) (part : Int) : List Int := leftBy (blended (multiplied found other p) (cut [part]) 1 p) rule p
def putThrough (one other rule : List Int) (p : Int) : List Int := one.reverse.foldl (ptStep other rule p) []
def worthAt (one : List Int) (number p : Int) : Int := one.reverse.foldl (fun found part => (found * number + part) % p) 0
def sloped (one : List Int) (p : Int) : List Int := cut ((one.zipIdx.map fun x => (x.2 : Int) * x.1 % p).drop 1)
/-! parting -/
def plL (step rule : List Int) (p : Int) : Nat → List Int → List (List Int)
  | 0, cur => [cur]
  | k + 1, cur => cur :: plL step rule p k (leftBy (multiplied cur step p) rule p)
def powersLeft (rule : List Int) (p : Int) : List (List Int) := plL (leftRaised [0, 1] p rule p) rule p (rule.length - 2) (leftBy [1] rule p)
def images (rule : List Int) (p : Int) : List (List Int) := (powersLeft rule p).zipIdx.map fun x => wid (less x.1 (cut (List.replicate x.2 0 ++ [1])) p) (rule.length - 1)
def rowsOf (imgs : List (List Int)) (many : Nat) : List (List Int) := (List.range many).map fun place => imgs.map fun im => im.getD place 0
/-! the grid -/
abbrev Tab := List (Nat × List Int)
def lessened (row other : List Int) (w p : Int) : List Int := if w = 0 then row else List.zipWith (fun a b => (a - w * b) % p) row other
def lowered (row : List Int) (found : Tab) (p : Int) : List Int := found.foldl (fun row e => lessened row e.2 (row.getD e.1 0) p) row
def spots (left : List Int) : List Nat := (left.zipIdx.filter fun x => decide (x.1 ≠ 0)).map (·.2)
def tput (found : Tab) (k : Nat) (v : List Int) : Tab := match found with
  | [] => [(k, v)]
  | e :: r => if e.1 = k then (k, v) :: r else e :: tput r k v
def stStep (p : Int) (found : Tab) (row : List Int) : Tab :=
  let left := lowered row found p
  match spots left with
  | [] => found
  | step :: _ =>
    let left2 := left.map fun x => x * turnedOver (left.getD step 0) p % p
    tput (found.map fun e => (e.1, lessened e.2 left2 (e.2.getD step 0) p)) step left2
def stepsOf (rows : List (List Int)) (p : Int) : Tab := rows.foldl (stStep p) []
def insN (a : Nat × List Int) : Tab → Tab
  | [] => [a]
  | b :: l => if a.1 ≤ b.1 then a :: b :: l else b :: insN a l
def sortN (t : Tab) : Tab := t.foldr insN []
def inOrder (t : Tab) : List (List Int) := (sortN t).map (·.2)
def freeRow (found : Tab) (width : Nat) (p : Int) (free : Nat) : List Int :=
  found.foldl (fun numbers e => numbers.set e.1 ((0 - e.2.getD free 0) % p)) ((List.replicate width 0).set free 1)
def idleOf (rows : List (List Int)) (width : Nat) (p : Int) : List (List Int) :=
  let found := stepsOf rows p
  inOrder (stepsOf (((List.range width).filter fun k => !(found.any fun e => e.1 == k)).map (freeRow found width p)) p)
def stillOf (rule : List Int) (p : Int) : List (List Int) := (idleOf (rowsOf (images rule p) (rule.length - 1)) (rule.length - 1) p).map cut
/-! parts -/
def hvIn (one still : List Int) (p : Int) : List Nat → Option (List Int × List Int)
  | [] => none
  | r :: rs =>
    let part := (shared one (blended still [1] (p - r) p) p).1
    if 1 < part.length ∧ part.length < one.length then some (part, (divided one part p).1) else hvIn one still p rs
def hvOut (one : List Int) (p : Int) : List (List Int) → Option (List Int × List Int)
  | [] => none
  | s :: ss => if 1 < s.length then (match hvIn one s p (List.range p.toNat) with | some x => some x | none => hvOut one p ss) else hvOut one p ss
def halved (one : List Int) (p : Int) : Option (List Int × List Int) := hvOut one p (stillOf one p)
/-- line: the last one first -/
def pcL (p : Int) : Nat → List (List Int) → List (List Int) → List (List Int)
  | 0, _, found => found
  | k + 1, line, found => match line with
    | [] => found
    | part :: rest => match (if 2 < part.length then halved part p else none) with
      | none => pcL p k rest (found ++ [part])
      | some b => pcL p k (b.2 :: b.1 :: rest) found
def piecesOf (one : List Int) (p : Int) : List (List Int) := pcL p (2 * one.length) [one] []
def thinned (one : List Int) (p : Int) : List Int := (one.zipIdx.filter fun x => decide ((x.2 : Int) % p = 0)).map (·.1)
abbrev Bag := List (List Int × Int)
def bget (f : Bag) (k : List Int) : Int := match f with
  | [] => 0
  | e :: r => if e.1 = k then e.2 else bget r k
def bput (f : Bag) (k : List Int) (v : Int) : Bag := match f with
  | [] => [(k, v)]
  | e :: r => if e.1 = k then (k, v) :: r else e :: bput r k v
def apL (p : Int) : Nat → List (List Int × Int) → Bag → Bag
  | 0, _, found => found
  | k + 1, line, found => match line with
    | [] => found
    | (part, times) :: rest =>
      let slope := sloped part p
      if 1 < part.length ∧ slope = [] then apL p k ((thinned part p, times * p) :: rest) found
      else if 1 < part.length then
        let twice := (shared part slope p).1
        if twice = [1] then apL p k rest ((piecesOf part p).foldl (fun f piece => bput f piece (bget f piece + times)) found)
        else apL p k (((divided part twice p).1, times) :: (twice, times) :: rest) found
      else apL p k rest found
def allParts (one : List Int) (p : Int) : Bag := apL p (2 * one.length) [(one, 1)] []
def lexLt : List Int → List Int → Bool
  | x :: xs, y :: ys => if x = y then lexLt xs ys else decide (x < y)
  | [], _ :: _ => true
  | _, [] => false
def rankLe (a b : List Int × Int) : Bool := if a.1.length = b.1.length then !lexLt b.1 a.1 else decide (a.1.length < b.1.length)
def insR (a : List Int × Int) : Bag → Bag
  | [] => [a]
  | b :: l => if rankLe a b then a :: b :: l else b :: insR a l
def inRank (t : Bag) : Bag := t.foldr insR []
def standsWhole (one : List Int) (p : Int) : Bool :=
  if one.length = 2 then true
  else if (List.range p.toNat).any (fun r => decide (worthAt one (r : Int) p = 0)) then false
  else if (shared one (sloped one p) p).1 ≠ [1] then false
  else decide ((stillOf one p).length = 1)
def partsOf (poly : List Int) (p : Int) : Bag := inRank (allParts (levelled poly p) p)
/-! papers -/
def SMALL : List Nat := [2, 3, 5, 7, 11, 13, 17, 19, 23]
def toL (rule first : List Int) (p : Int) : Nat → List Int → List (List Int)
  | 0, cur => [cur]
  | k + 1, cur => cur :: toL rule first p k (putThrough cur first rule p)
def turnsOf (rule : List Int) (p : Int) : List (List Int) := toL rule (leftRaised [0, 1] p rule p) p (rule.length - 2) (leftRaised [0, 1] p rule p)
def showOf (rule : List Int) (turns : List (List Int)) (p : Int) (q : Nat) : List Int × List Int :=
  (shared (less (turns.getD ((rule.length - 1) / q - 1) []) [0, 1] p) rule p).2
def showsOf (rule : List Int) (turns : List (List Int)) (p : Int) : List (List Int × List Int) :=
  (SMALL.filter fun q => decide ((rule.length - 1) % q = 0)).map (showOf rule turns p)
def isWhole (poly : List Int) (p : Int) : Bool := decide (1 < poly.length) && standsWhole (levelled poly p) p
inductive Paper where
  | whole (turns : List (List Int)) (shows : List (List Int × List Int))
  | parts (one other : List Int)
  deriving DecidableEq
def paper (poly : List Int) (p : Int) : Paper :=
  if standsWhole (levelled poly p) p then .whole (turnsOf poly p) (showsOf poly (turnsOf poly p) p)
  else
    let part := ((inRank (allParts (levelled poly p) p)).headD ([], 0)).1
    .parts part (divided poly part p).1
def isPoly (l : List Int) (p : Int) : Bool := if 25 < l.length ∨ ¬ (l.all fun a => decide (0 ≤ a ∧ a < p)) then false else decide (l = []) || decide (l.getLastD 0 ≠ 0)
def thL (rule first : List Int) (p : Int) : List (List Int) → Bool
  | a :: b :: r => if b ≠ putThrough a first rule p then false else thL rule first p (b :: r)
  | _ => true
def turnsHold (rule : List Int) (turns : List (List Int)) (p : Int) : Bool :=
  if turns.length ≠ rule.length - 1 ∨ turns.headD [] ≠ leftRaised [0, 1] p rule p then false
  else if thL rule (turns.headD []) p turns = false then false
  else decide (turns.getLastD [] = leftBy [0, 1] rule p)
def showHolds (rule : List Int) (turns : List (List Int)) (p : Int) (q : Nat) (sh : List Int × List Int) : Bool :=
  decide (blended (multiplied sh.1 (less (turns.getD ((rule.length - 1) / q - 1) []) [0, 1] p) p) (multiplied sh.2 rule p) 1 p = [1])
def wholeHolds (rule : List Int) (turns : List (List Int)) (shows : List (List Int × List Int)) (p : Int) : Bool :=
  let primes := SMALL.filter fun q => decide ((rule.length - 1) % q = 0)
  if turnsHold rule turns p = false ∨ shows.length ≠ primes.length then false
  else (primes.zip shows).all fun x => showHolds rule turns p x.1 x.2
def paperHolds (poly : List Int) (told : Paper) (p : Int) : Bool := match told with
  | .parts one other => isPoly one p && isPoly other p && decide (1 < one.length) && decide (1 < other.length) && decide (multiplied one other p = poly)
  | .whole turns shows => (turns ++ shows.flatMap fun s => [s.1, s.2]).all (isPoly · p) && wholeHolds poly turns shows p
/-! the least rule -/
def ndL (p : Int) : Nat → List Int → List Int
  | 0, d => d.set 0 (d.getD 0 0 + 1)
  | k + 1, d => if d.getD (k + 1) 0 = p - 1 then ndL p k (d.set (k + 1) 0) else d.set (k + 1) (d.getD (k + 1) 0 + 1)
def nextDigits (d : List Int) (p : Int) : List Int := ndL p (d.length - 1) d
def lrlL (p : Int) : Nat → List Int → List Int
  | 0, d => d ++ [1]
  | k + 1, d => if standsWhole (d ++ [1]) p then d ++ [1] else lrlL p k (nextDigits d p)
/-! the law's own -/
def inC (x p : Int) : Nat → List Int → List Int → List Int
  | _, f, [] => f
  | i, f, m :: ms => inC x p (i + 1) (f.set i ((f.getD i 0 + x * m) % p)) ms
def outC (b : List Int) (p : Int) : Nat → List Int → List Int → List Int
  | _, f, [] => f
  | i, f, a :: as => outC b p (i + 1) (inC a p i f b) as
def lConv (a b : List Int) (p : Int) : List Int := outC b p 0 (List.replicate (a.length + b.length) 0) a
def lMul (a b : List Int) (p : Int) : List Int := cut (lConv a b p)
def lBlend (a b : List Int) (w p : Int) : List Int := blended a b w p
def lBack (n p : Int) : Int := (((List.range (p.toNat - 1)).map (fun k : Nat => (k : Int) + 1)).filter fun k => decide (k * n % p = 1)).headD 0
def lcL (other : List Int) (back p : Int) : Nat → List Int → List Int → List Int × List Int
  | 0, left, quo => (quo, left)
  | k + 1, left, quo =>
    let w := left.getD (k + other.length - 1) 0 * back % p
    lcL other back p k (innM w p k left other) (quo.set k w)
def lCutBy (one other : List Int) (p : Int) : List Int × List Int :=
  let r := lcL other (lBack (other.getLastD 0) p) p (one.length + 1 - other.length) one (List.replicate (one.length + 1 - other.length) 0)
  (cut r.1, cut (r.2.take (other.length - 1)))
def lRem (one other : List Int) (p : Int) : List Int := (lCutBy one other p).2
def lLiftL (rule : List Int) (p : Int) : Nat → List Int → List Int → Int → List Int
  | 0, found, _, _ => found
  | k + 1, found, base, e => lLiftL rule p k (if e % 2 = 1 then lRem (lMul found base p) rule p else found) (if 0 < e / 2 then lRem (lMul base base p) rule p else base) (e / 2)
def lLift (one : List Int) (e : Int) (rule : List Int) (p : Int) : List Int := lLiftL rule p 140 (lRem [1] rule p) (lRem one rule p) e
def lShifted (poly : List Int) (by' p : Int) : List Int := poly.reverse.foldl (fun found n => lBlend (lMul found [by', 1] p) [1] n p) []
def lwL (one : List Int) (p : Int) : List Int → List (List Int) → Option (List Int)
  | here, [] => some here
  | here, t :: ts => if t = lLift here p one p then lwL one p (lLift here p one p) ts else none
def lShow (one : List Int) (turns : List (List Int)) (p : Int) (k : Int) (pair : List Int × List Int) : Bool :=
  decide (lBlend (lMul pair.1 (lBlend (turns.getD ((one.length - 1) / k.toNat - 1) []) [0, 1] (p - 1) p) p) (lMul pair.2 one p) 1 p = [1])
def lWalked (one : List Int) (told : Paper) (p : Int) : Bool := match told with
  | .parts a b => decide (1 < a.length) && decide (1 < b.length) && decide (a.getLastD 0 = 1) && decide (lMul a b p = one)
  | .whole turns shows =>
    if turns.length ≠ one.length - 1 then false
    else match lwL one p [0, 1] turns with
      | none => false
      | some here =>
        let ks := PRIMES.filter fun k => decide (((one.length - 1 : Nat) : Int) % k = 0)
        if here ≠ lRem [0, 1] one p ∨ shows.length ≠ ks.length then false
        else (ks.zip shows).all fun x => lShow one turns p x.1 x.2
end Rf
end
section
set_option maxRecDepth 100000
namespace Rf
open Lean.Grind
open Poly
local instance (priority := low) instNC4 {R : Type} [CommRing R] : NatCast R := Semiring.natCast

/-! ### the primes -/
theorem k_inv : PRIMES.all (fun p => (List.range p.toNat).all fun a => decide (a = 0) || decide (turnedOver a p * a % p = 1)) = true := by decide +kernel
theorem k_row : PRIMES.all (fun p => rowOk p.toNat) = true := by decide +kernel
theorem k_fer : PRIMES.all (fun p => (List.range p.toNat).all fun a => decide ((a ^ p.toNat) % p.toNat = a)) = true := by decide +kernel
theorem k_bd : PRIMES.all (fun p => decide (1 < p ∧ p ≤ 97)) = true := by decide +kernel
section
variable {p : Int}
def PR (p : Int) : Prop := p ∈ PRIMES
theorem PR.bd (h : PR p) : 1 < p ∧ p ≤ 97 := _root_.of_decide_eq_true (List.all_eq_true.mp k_bd p h)
theorem PR.gt (h : PR p) : 1 < p := h.bd.1
theorem PR.pos (h : PR p) : 0 < p := by have := h.bd.1; omega
theorem PR.cast (h : PR p) : (p.toNat : Int) = p := Int.toNat_of_nonneg (by have := h.bd.1; omega)
theorem PR.inv (h : PR p) {a : Int} (h0 : 0 < a) (h1 : a < p) : turnedOver a p * a % p = 1 := by
  have := List.all_eq_true.mp (List.all_eq_true.mp k_inv p h) a.toNat (List.mem_range.mpr (by omega))
  rw [Int.toNat_of_nonneg (by omega)] at this
  simp only [Bool.or_eq_true, decide_eq_true_eq] at this
  rcases this with e | e
  · omega
  · exact e
theorem PR.row (h : PR p) : rowOk p.toNat = true := List.all_eq_true.mp k_row p h
theorem PR.char (h : PR p) : (p.toNat : Zp p) = 0 := by
  rw [← Zp.mk_nat, h.cast]; exact Zp.mk_self
theorem mk_mod_eq (a : Int) : Zp.mk p (a % p) = Zp.mk p a := Zp.mk_mod a
theorem PR.fld (h : PR p) : Fld (Zp p) where
  inv := Zp.ind fun a ha => by
    have hp := h.pos
    have e : a % p ≠ 0 := fun e => ha (by rw [← Zp.mk_mod, e, Zp.mk_zero])
    have := h.inv (a := a % p) (by have := Int.emod_nonneg a (show p ≠ 0 by omega); omega) (Int.emod_lt_of_pos a hp)
    exact ⟨Zp.mk p (turnedOver (a % p) p), by
      rw [← Zp.mk_mod a, CommSemiring.mul_comm, ← Zp.mk_mul, ← Zp.mk_mod, this, Zp.mk_one]⟩
  ne := fun e => by
    rw [← Zp.mk_one, ← Zp.mk_zero] at e
    have := Int.le_of_dvd (by omega) (Zp.dvd_of e)
    have := h.gt
    omega
theorem PR.fermat (h : PR p) : ∀ x : Zp p, x ^ p.toNat = x := Zp.ind fun a => by
  have hp := h.pos
  have h0 := Int.emod_nonneg a (show p ≠ 0 by omega)
  have h1 := Int.emod_lt_of_pos a hp
  have := _root_.of_decide_eq_true (List.all_eq_true.mp (List.all_eq_true.mp k_fer p h) (a % p).toNat (List.mem_range.mpr (by omega)))
  have e : ((a % p) ^ p.toNat) % p = a % p := by
    have z : (((a % p).toNat ^ p.toNat % p.toNat : Nat) : Int) = ((a % p).toNat : Int) := by rw [this]
    rw [Int.natCast_emod, Int.natCast_pow, h.cast, Int.toNat_of_nonneg h0] at z
    exact z
  rw [← Zp.mk_mod a, ← Zp.mk_pow, ← Zp.mk_mod, e]

/-! ### rows of rests as polynomials -/
def tp (p : Int) (l : List Int) : Poly (Zp p) := EE (l.map (Zp.mk p))
theorem tp_nil : tp p [] = 0 := rfl
theorem tp_cons (a : Int) (l : List Int) : tp p (a :: l) = C (Zp.mk p a) + X * tp p l := rfl
theorem tp_c (l : List Int) (n : Nat) : (tp p l).c n = Zp.mk p (l.getD n 0) := by
  rw [tp, EE_c]
  simp only [List.getD_eq_getElem?_getD, List.getElem?_map]
  cases l[n]? <;> rfl
theorem tp_lt (l : List Int) : Lt (tp p l) l.length := by
  have := EE_lt (l.map (Zp.mk p)); rw [List.length_map] at this; exact this
theorem tp_append (a b : List Int) : tp p (a ++ b) = tp p a + X ^ a.length * tp p b := by
  induction a with
  | nil => rw [List.nil_append, tp_nil, List.length_nil, Semiring.pow_zero]; grind
  | cons x a ih => rw [List.cons_append, tp_cons, tp_cons, ih, List.length_cons, Semiring.pow_succ]; grind
theorem tp_rep (n : Nat) : tp p (List.replicate n 0) = 0 := by
  induction n with
  | zero => rfl
  | succ n ih => rw [List.replicate_succ, tp_cons, ih, Zp.mk_zero, C_zero]; grind
theorem cut_cons (a : Int) (l : List Int) : cut (a :: l) = match cut l with
    | [] => if a = 0 then [] else [a]
    | b :: m => a :: b :: m := rfl
theorem tp_cut (l : List Int) : tp p (cut l) = tp p l := by
  induction l with
  | nil => rfl
  | cons a l ih =>
    rw [cut_cons, tp_cons, ← ih]
    cases h : cut l with
    | nil =>
      simp only []
      split
      · rename_i e; rw [e, tp_nil, Zp.mk_zero, C_zero]; grind
      · rw [tp_cons]
    | cons b m => simp only []; rw [tp_cons]
theorem cut_len (l : List Int) : (cut l).length ≤ l.length := by
  induction l with
  | nil => exact Nat.le_refl _
  | cons a l ih =>
    rw [cut_cons]
    cases h : cut l with
    | nil => simp only []; split <;> simp
    | cons b m => rw [h] at ih; simp only [List.length_cons] at ih ⊢; omega
theorem cut_mem (l : List Int) : ∀ a ∈ cut l, a ∈ l := by
  induction l with
  | nil => exact fun a h => h
  | cons x l ih =>
    intro a h
    rw [cut_cons] at h
    cases e : cut l with
    | nil =>
      rw [e] at h; simp only [] at h
      split at h
      · simp at h
      · rw [List.mem_singleton] at h; rw [h]; exact List.mem_cons_self
    | cons b m =>
      rw [e] at h ih; simp only [] at h
      rcases List.mem_cons.mp h with h | h
      · rw [h]; exact List.mem_cons_self
      · exact List.mem_cons_of_mem _ (ih a h)
theorem cut_nz (l : List Int) : (cut l).getLast? ≠ some 0 := by
  induction l with
  | nil => simp [cut]
  | cons x l ih =>
    rw [cut_cons]
    cases e : cut l with
    | nil =>
      simp only []
      split
      · simp
      · rename_i h; simp [h]
    | cons b m => rw [e] at ih; simp only []; rw [List.getLast?_cons_cons]; exact ih
/-- rests -/
def Rg (p : Int) (l : List Int) : Prop := ∀ a ∈ l, 0 ≤ a ∧ a < p
structure Cn (p : Int) (l : List Int) : Prop where
  rg : Rg p l
  nz : l.getLast? ≠ some 0
theorem Cn.nil : Cn p [] := ⟨fun _ h => (by cases h), by simp⟩
theorem Cn.one (h : PR p) : Cn p [1] := ⟨fun a ha => by rw [List.mem_singleton] at ha; have := h.gt; omega, by simp⟩
theorem Cn.X (h : PR p) : Cn p [0, 1] := ⟨fun a ha => by simp at ha; have := h.gt; omega, by simp⟩
theorem cn_cut {l : List Int} (h : Rg p l) : Cn p (cut l) := ⟨fun a ha => h a (cut_mem l a ha), cut_nz l⟩
theorem cn_len (h : PR p) {l : List Int} (c : Cn p l) {d : Nat} (z : Lt (tp p l) d) : l.length ≤ d := by
  apply Nat.le_of_not_lt
  intro hd
  have e := z (l.length - 1) (by omega)
  rw [tp_c] at e
  have hl : l.length - 1 < l.length := by omega
  have e2 : l.getLast? = some l[l.length - 1] := by rw [List.getLast?_eq_getElem?, List.getElem?_eq_getElem hl]
  rw [List.getD_eq_getElem?_getD, List.getElem?_eq_getElem hl] at e
  have b := c.rg l[l.length - 1] (List.getElem_mem hl)
  have := Zp.mk_inj b.1 b.2 (Int.le_refl 0) h.pos (e.trans Zp.mk_zero.symm)
  rw [this] at e2
  exact c.nz e2
theorem cn_inj (h : PR p) {a b : List Int} (ca : Cn p a) (cb : Cn p b) (e : tp p a = tp p b) : a = b := by
  have h1 := cn_len h ca (by rw [e]; exact tp_lt b)
  have h2 := cn_len h cb (by rw [← e]; exact tp_lt a)
  apply List.ext_getElem (by omega)
  intro n hn1 hn2
  have t : (tp p a).c n = (tp p b).c n := by rw [e]
  rw [tp_c, tp_c, List.getD_eq_getElem?_getD, List.getD_eq_getElem?_getD, List.getElem?_eq_getElem hn1, List.getElem?_eq_getElem hn2] at t
  have x := ca.rg _ (List.getElem_mem hn1)
  have y := cb.rg _ (List.getElem_mem hn2)
  exact Zp.mk_inj x.1 x.2 y.1 y.2 t
theorem cn_zero (h : PR p) {a : List Int} (ca : Cn p a) (e : tp p a = 0) : a = [] := cn_inj h ca Cn.nil (by rw [e, tp_nil])
theorem tp_set {l : List Int} (v : Int) : ∀ {i : Nat}, i < l.length → tp p (l.set i v) = tp p l + C (Zp.mk p v - Zp.mk p (l.getD i 0)) * X ^ i := by
  induction l with
  | nil => intro i h; simp at h
  | cons a l ih =>
    intro i h
    cases i with
    | zero => rw [List.set_cons_zero, tp_cons, tp_cons, Semiring.pow_zero, C_sub]; show _ = _ + (_ - C (Zp.mk p a)) * 1; grind
    | succ i =>
      rw [List.set_cons_succ, tp_cons, tp_cons, ih (by simpa using h), List.getD_cons_succ, Semiring.pow_succ]; grind
theorem tp_mod (l : List Int) : tp p (l.map (· % p)) = tp p l := by
  induction l with
  | nil => rfl
  | cons a l ih => rw [List.map_cons, tp_cons, tp_cons, ih, Zp.mk_mod]
theorem rg_mod (h : 0 < p) (l : List Int) : Rg p (l.map (· % p)) := fun a ha => by
  obtain ⟨b, _, e⟩ := List.mem_map.mp ha
  rw [← e]; exact ⟨Int.emod_nonneg b (by omega), Int.emod_lt_of_pos b h⟩
theorem wid_len (a : List Int) {m : Nat} (h : a.length ≤ m) : (wid a m).length = m := by simp [wid]; omega
theorem tp_wid (a : List Int) (m : Nat) : tp p (wid a m) = tp p a := by rw [wid, tp_append, tp_rep]; grind
theorem tp_zip (w : Int) : ∀ (a b : List Int), a.length = b.length → tp p (List.zipWith (fun x y => (x + w * y) % p) a b) = tp p a + C (Zp.mk p w) * tp p b
  | [], [], _ => by rw [List.zipWith_nil_left, tp_nil]; grind
  | x :: a, y :: b, h => by
    rw [List.zipWith_cons_cons, tp_cons, tp_cons, tp_cons, tp_zip w a b (by simpa using h), Zp.mk_mod, Zp.mk_add, Zp.mk_mul, C_add, C_mul]; grind
theorem rg_zip (h : 0 < p) (f : Int → Int → Int) : ∀ (a b : List Int), Rg p (List.zipWith (fun x y => f x y % p) a b)
  | [], b, _, hx => by simp at hx
  | _ :: _, [], _, hx => by simp at hx
  | x :: a, y :: b, z, hx => by
    rcases List.mem_cons.mp hx with e | hx
    · rw [e]; exact ⟨Int.emod_nonneg _ (by omega), Int.emod_lt_of_pos _ h⟩
    · exact rg_zip h f a b z hx
theorem tp_blended (a b : List Int) (w : Int) : tp p (blended a b w p) = tp p a + C (Zp.mk p w) * tp p b := by
  rw [blended, tp_cut, tp_zip w _ _ (by rw [wid_len _ (Nat.le_max_left _ _), wid_len _ (Nat.le_max_right _ _)]), tp_wid, tp_wid]
theorem cn_blended (h : 0 < p) (a b : List Int) (w : Int) : Cn p (blended a b w p) := cn_cut (rg_zip h _ _ _)
theorem len_blended (a b : List Int) (w : Int) : (blended a b w p).length ≤ max a.length b.length := by
  refine Nat.le_trans (cut_len _) ?_
  rw [List.length_zipWith, wid_len _ (Nat.le_max_left _ _), wid_len _ (Nat.le_max_right _ _)]; omega
theorem mk_pm : Zp.mk p (p - 1) = -1 := by
  have : Zp.mk p (p - 1) = Zp.mk p p - Zp.mk p 1 := Zp.mk_sub p 1
  rw [this, Zp.mk_self, Zp.mk_one]; grind
theorem tp_less (a b : List Int) : tp p (less a b p) = tp p a - tp p b := by
  rw [less, tp_blended, mk_pm, C_neg, C_one]; grind
theorem cn_less (h : 0 < p) (a b : List Int) : Cn p (less a b p) := cn_blended h a b _
theorem tp_map_mul (w : Int) (a : List Int) : tp p (a.map fun x => x * w % p) = C (Zp.mk p w) * tp p a := by
  induction a with
  | nil => rw [List.map_nil, tp_nil]; grind
  | cons x a ih => rw [List.map_cons, tp_cons, tp_cons, ih, Zp.mk_mod, Zp.mk_mul, C_mul]; grind
theorem tp_scaled (a : List Int) (w : Int) : tp p (scaled a w p) = C (Zp.mk p w) * tp p a := by rw [scaled, tp_cut, tp_map_mul]
theorem cn_scaled (h : 0 < p) (a : List Int) (w : Int) : Cn p (scaled a w p) := cn_cut fun x hx => by
  obtain ⟨b, _, e⟩ := List.mem_map.mp hx
  rw [← e]; exact ⟨Int.emod_nonneg _ (by omega), Int.emod_lt_of_pos _ h⟩
theorem len_scaled (a : List Int) (w : Int) : (scaled a w p).length ≤ a.length := by
  refine Nat.le_trans (cut_len _) ?_
  rw [List.length_map]; exact Nat.le_refl _
theorem inn_len (c : Int) : ∀ (b : List Int) (i : Nat) (f : List Int), (inn c i f b).length = f.length
  | [], i, f => rfl
  | m :: b, i, f => by rw [inn, inn_len c b, List.length_set]
theorem tp_inn (c : Int) : ∀ (b : List Int) (i : Nat) (f : List Int), i + b.length ≤ f.length → tp p (inn c i f b) = tp p f + C (Zp.mk p c) * X ^ i * tp p b
  | [], i, f, h => by rw [inn, tp_nil]; grind
  | m :: b, i, f, h => by
    rw [List.length_cons] at h
    rw [inn, tp_inn c b (i + 1) _ (by rw [List.length_set]; omega), tp_set _ (by omega), tp_cons, Zp.mk_add, Zp.mk_mul, C_sub, C_add, C_mul, Semiring.pow_succ]; grind
theorem out_len (o : List Int) : ∀ (a : List Int) (i : Nat) (f : List Int), (out o i f a).length = f.length
  | [], i, f => rfl
  | x :: a, i, f => by
    rw [out, out_len o a]
    split
    · rw [inn_len]
    · rfl
theorem tp_out (o : List Int) : ∀ (a : List Int) (i : Nat) (f : List Int), i + a.length + o.length ≤ f.length + 1 → tp p (out o i f a) = tp p f + X ^ i * tp p a * tp p o
  | [], i, f, h => by rw [out, tp_nil]; grind
  | x :: a, i, f, h => by
    rw [List.length_cons] at h
    rw [out, tp_out o a (i + 1) _ (by split; (rw [inn_len]; omega); omega), tp_cons, Semiring.pow_succ]
    split
    · rw [tp_inn x o i f (by omega)]; grind
    · rename_i e
      rw [show x = 0 by omega, Zp.mk_zero, C_zero]; grind
theorem tp_multiplied (a b : List Int) : tp p (multiplied a b p) = tp p a * tp p b := by
  rw [multiplied]
  split
  · rename_i h
    rcases h with h | h
    · rw [h, tp_nil]; grind
    · rw [h, tp_nil]; grind
  · rename_i h
    have ha : 0 < a.length := List.length_pos_iff.mpr fun e => h (.inl e)
    rw [tp_cut, tp_mod, tp_out b a 0 _ (by rw [List.length_replicate]; omega), tp_rep, Semiring.pow_zero]; grind
theorem cn_multiplied (h : 0 < p) (a b : List Int) : Cn p (multiplied a b p) := by
  rw [multiplied]
  split
  · exact Cn.nil
  · exact cn_cut (rg_mod h _)
theorem len_multiplied (a b : List Int) : (multiplied a b p).length ≤ a.length + b.length - 1 := by
  rw [multiplied]
  split
  · exact Nat.zero_le _
  · refine Nat.le_trans (cut_len _) ?_
    rw [List.length_map, out_len, List.length_replicate]; exact Nat.le_refl _
theorem innM_len (w : Int) : ∀ (b : List Int) (i : Nat) (f : List Int), (innM w p i f b).length = f.length
  | [], i, f => rfl
  | m :: b, i, f => by rw [innM, innM_len w b, List.length_set]
theorem tp_innM (w : Int) : ∀ (b : List Int) (i : Nat) (f : List Int), i + b.length ≤ f.length → tp p (innM w p i f b) = tp p f - C (Zp.mk p w) * X ^ i * tp p b
  | [], i, f, h => by rw [innM, tp_nil]; grind
  | m :: b, i, f, h => by
    rw [List.length_cons] at h
    rw [innM, tp_innM w b (i + 1) _ (by rw [List.length_set]; omega), tp_set _ (by omega), tp_cons, Zp.mk_mod, Zp.mk_sub, Zp.mk_mul, C_sub, C_sub, C_mul, Semiring.pow_succ]; grind
theorem rg_set (h : 0 < p) {l : List Int} (hl : Rg p l) (i : Nat) (v : Int) : Rg p (l.set i (v % p)) := fun a ha => by
  rcases List.mem_or_eq_of_mem_set ha with h' | h'
  · exact hl a h'
  · rw [h']; exact ⟨Int.emod_nonneg _ (by omega), Int.emod_lt_of_pos _ h⟩
theorem rg_innM (h : 0 < p) (w : Int) : ∀ (b : List Int) (i : Nat) (f : List Int), Rg p f → Rg p (innM w p i f b)
  | [], i, f, hf => hf
  | m :: b, i, f, hf => by rw [innM]; exact rg_innM h w b (i + 1) _ (rg_set h hf _ _)
end
end Rf
end
section
set_option maxRecDepth 100000
namespace Rf
open Lean.Grind
open Poly
local instance (priority := low) instNC5 {R : Type} [CommRing R] : NatCast R := Semiring.natCast
section
variable {R : Type} [CommRing R]
theorem dv_lt' {f : Poly R} {n : Nat} {b : R} (hl : Lt f (n + 1)) (hb : f.c n * b = 1) {a : Poly R} (h : Dv f a) (l : Lt a n) : a = 0 := by
  obtain ⟨k, e⟩ := h
  have all : ∀ d, Lt k d → k = 0 := by
    intro d
    induction d with
    | zero => exact lt_zero
    | succ d ih =>
      intro hk
      apply ih
      intro i hi
      by_cases h : i = d
      · subst h
        have t := top_mul hk hl
        rw [← e, l (i + n) (by omega)] at t
        have : k.c i = k.c i * f.c n * b := by rw [show k.c i * f.c n * b = k.c i * (f.c n * b) by grind, hb]; grind
        rw [this, ← t]; grind
      · exact hk i (by omega)
  obtain ⟨d, hd⟩ := k.ex_lt
  rw [e, all d hd]; grind
end
section
variable {p : Int}
theorem tp_take {l : List Int} {d : Nat} (h : Lt (tp p l) d) : tp p (l.take d) = tp p l := ext fun n => by
  rw [tp_c, tp_c]
  by_cases hn : n < d
  · rw [List.getD_eq_getElem?_getD, List.getElem?_take_of_lt hn, List.getD_eq_getElem?_getD]
  · have := h n (by omega)
    rw [tp_c] at this
    rw [this, List.getD_eq_getElem?_getD, List.getElem?_eq_none_iff.mpr (by rw [List.length_take]; omega)]
    rfl
/-- a row that ends in a rest that is not 0: its last rest turned over -/
theorem last_inv (h : PR p) {l : List Int} (c : Cn p l) (ne : l ≠ []) : (tp p l).c (l.length - 1) * Zp.mk p (turnedOver (l.getLastD 0) p) = 1 ∧ turnedOver (l.getLastD 0) p * l.getLastD 0 % p = 1 ∧ 0 < l.getLastD 0 ∧ l.getLastD 0 < p := by
  have hl : 0 < l.length := List.length_pos_iff.mpr ne
  have e2 : l.getLast? = some l[l.length - 1] := by rw [List.getLast?_eq_getElem?, List.getElem?_eq_getElem (by omega)]
  have e3 : l.getLastD 0 = l[l.length - 1] := by rw [List.getLastD_eq_getLast?, e2]; rfl
  have b := c.rg l[l.length - 1] (List.getElem_mem (by omega))
  have b0 : l[l.length - 1] ≠ 0 := fun e => by rw [e] at e2; exact c.nz e2
  have i := h.inv (a := l[l.length - 1]) (by omega) b.2
  rw [e3]
  refine ⟨?_, i, by omega, b.2⟩
  rw [tp_c, List.getD_eq_getElem?_getD, List.getElem?_eq_getElem (by omega)]
  show Zp.mk p l[l.length - 1] * _ = 1
  rw [CommSemiring.mul_comm, ← Zp.mk_mul, ← Zp.mk_mod, i, Zp.mk_one]
theorem rg_rep (h : 0 < p) (n : Nat) : Rg p (List.replicate n 0) := fun a ha => by rw [(List.mem_replicate.mp ha).2]; omega
theorem dvL_spec (h : PR p) {other : List Int} (c : Cn p other) (ne : other ≠ []) : ∀ (k : Nat) (left quo : List Int), (0 < k → k + other.length ≤ left.length + 1) → k ≤ quo.length → (∀ i, i < k → quo.getD i 0 = 0) → Lt (tp p left) (k + (other.length - 1)) → Rg p left → Rg p quo →
    tp p (dvL other (turnedOver (other.getLastD 0) p) p k left quo).1 * tp p other + tp p (dvL other (turnedOver (other.getLastD 0) p) p k left quo).2 = tp p quo * tp p other + tp p left ∧
    Lt (tp p (dvL other (turnedOver (other.getLastD 0) p) p k left quo).2) (other.length - 1) ∧ Rg p (dvL other (turnedOver (other.getLastD 0) p) p k left quo).1 ∧ Rg p (dvL other (turnedOver (other.getLastD 0) p) p k left quo).2 ∧
    (dvL other (turnedOver (other.getLastD 0) p) p k left quo).1.length = quo.length
  | 0, left, quo, h1, h2, h3, h4, h5, h6 => ⟨rfl, by rw [Nat.zero_add] at h4; exact h4, h6, h5, rfl⟩
  | k + 1, left, quo, h1, h2, h3, h4, h5, h6 => by
    have hl : 0 < other.length := List.length_pos_iff.mpr ne
    have li := last_inv h c ne
    have h1 := h1 (by omega)
    rw [dvL]
    generalize hw : left.getD (k + other.length - 1) 0 * turnedOver (other.getLastD 0) p % p = w
    have tl : tp p (if w ≠ 0 then innM w p k left other else left) = tp p left - C (Zp.mk p w) * X ^ k * tp p other := by
      split
      · exact tp_innM w other k left (by omega)
      · rename_i e
        rw [show w = 0 by omega, Zp.mk_zero, C_zero]; grind
    have hlen : (if w ≠ 0 then innM w p k left other else left).length = left.length := by
      split
      · rw [innM_len]
      · rfl
    have hq : tp p (quo.set k w) = tp p quo + C (Zp.mk p w) * X ^ k := by
      rw [tp_set w (by omega), h3 k (by omega), C_sub, Zp.mk_zero, C_zero]; grind
    obtain ⟨e1, e2, e3, e4, e5⟩ := dvL_spec h c ne k (if w ≠ 0 then innM w p k left other else left) (quo.set k w) (fun _ => by rw [hlen]; omega) (by rw [List.length_set]; omega) (fun i hi => by
      rw [List.getD_eq_getElem?_getD, List.getElem?_set_ne (by omega), ← List.getD_eq_getElem?_getD]; exact h3 i (by omega)) (fun i hi => by
      rw [tl, c_sub, show C (Zp.mk p w) * X ^ k * tp p other = C (Zp.mk p w) * (X ^ k * tp p other) by grind, c_Cmul]
      have cx := c_Xpow (tp p other) k (i - k)
      rw [show i - k + k = i by omega] at cx
      rw [cx]
      by_cases hi2 : i = k + (other.length - 1)
      · rw [show i - k = other.length - 1 by omega, ← hw, Zp.mk_mod, Zp.mk_mul, tp_c left, show k + other.length - 1 = i by omega]
        have := li.1
        grind
      · rw [h4 i (by omega), tp_lt other (i - k) (by omega)]; grind) (by
      split
      · exact rg_innM h.pos w other k left h5
      · exact h5) (by rw [← hw]; exact rg_set h.pos h6 _ _)
    refine ⟨?_, e2, e3, e4, by rw [e5, List.length_set]⟩
    rw [e1, tl, hq]; grind
structure DivOk (p : Int) (one other : List Int) : Prop where
  eq : tp p one = tp p (divided one other p).1 * tp p other + tp p (divided one other p).2
  lt : (divided one other p).2.length < other.length
  c1 : Cn p (divided one other p).1
  c2 : Cn p (divided one other p).2
  l1 : (divided one other p).1.length ≤ one.length + 1 - other.length
theorem div_ok (h : PR p) {one other : List Int} (c : Cn p other) (ne : other ≠ []) (r : Rg p one) : DivOk p one other := by
  have hl : 0 < other.length := List.length_pos_iff.mpr ne
  obtain ⟨e1, e2, e3, e4, e5⟩ := dvL_spec h c ne (one.length + 1 - other.length) one (List.replicate (one.length + 1 - other.length) 0)
    (fun hk => by omega) (by simp) (fun i hi => by simp [List.getD_eq_getElem?_getD, hi]) ((tp_lt one).mono (by omega)) r (rg_rep h.pos _)
  refine ⟨?_, ?_, ?_, ?_, ?_⟩
  · rw [divided]
    simp only [tp_cut]
    rw [tp_take e2, e1, tp_rep]; grind
  · rw [divided]
    simp only []
    refine Nat.lt_of_le_of_lt (cut_len _) ?_
    rw [List.length_take]; omega
  · exact cn_cut e3
  · exact cn_cut fun a ha => e4 a (List.mem_of_mem_take ha)
  · rw [divided]
    simp only []
    refine Nat.le_trans (cut_len _) ?_
    rw [e5, List.length_replicate]; exact Nat.le_refl _

/-! ### the greatest common one -/
structure Tr (p : Int) (A B : Poly (Zp p)) (N : Nat) (t : Tri) : Prop where
  eq : tp p t.1 = tp p t.2.1 * A + tp p t.2.2 * B
  c1 : Cn p t.1
  c2 : Cn p t.2.1
  c3 : Cn p t.2.2
  n2 : t.2.1.length ≤ N
  n3 : t.2.2.length ≤ N
structure ShOk (p : Int) (A B : Poly (Zp p)) (N : Nat) (t : Tri) : Prop where
  tr : Tr p A B N t
  dA : Dv (tp p t.1) A
  dB : Dv (tp p t.1) B
theorem sh_step (h : PR p) {A B : Poly (Zp p)} {N : Nat} {here there : Tri} (th : Tr p A B N here) (tt : Tr p A B N there) (ne : there.1 ≠ []) (a2 : there.2.1.length + here.1.length ≤ N) (a3 : there.2.2.length + here.1.length ≤ N) (b2 : here.2.1.length + there.1.length ≤ N) (b3 : here.2.2.length + there.1.length ≤ N) :
    Tr p A B N (shStep here there p) ∧ (shStep here there p).1.length < there.1.length ∧ (shStep here there p).2.1.length + there.1.length ≤ N ∧ (shStep here there p).2.2.length + there.1.length ≤ N ∧
    there.2.1.length + (shStep here there p).1.length ≤ N ∧ there.2.2.length + (shStep here there p).1.length ≤ N ∧ ∀ d, Dv d (tp p there.1) → Dv d (tp p (shStep here there p).1) → Dv d (tp p here.1) := by
  have D := div_ok h tt.c1 ne th.c1.rg
  have hl : 0 < there.1.length := List.length_pos_iff.mpr ne
  have lm2 := len_multiplied (p := p) (divided here.1 there.1 p).1 there.2.1
  have lm3 := len_multiplied (p := p) (divided here.1 there.1 p).1 there.2.2
  have lb2 := len_blended (p := p) here.2.1 (multiplied (divided here.1 there.1 p).1 there.2.1 p) (p - 1)
  have lb3 := len_blended (p := p) here.2.2 (multiplied (divided here.1 there.1 p).1 there.2.2 p) (p - 1)
  have q1 := D.l1
  have q2 := D.lt
  -- an empty quotient makes an empty product
  have lz2 : (divided here.1 there.1 p).1.length = 0 → (multiplied (divided here.1 there.1 p).1 there.2.1 p).length = 0 := fun e => by
    rw [List.length_eq_zero_iff] at e; rw [e]; rfl
  have lz3 : (divided here.1 there.1 p).1.length = 0 → (multiplied (divided here.1 there.1 p).1 there.2.2 p).length = 0 := fun e => by
    rw [List.length_eq_zero_iff] at e; rw [e]; rfl
  have s1 : (shStep here there p).1 = (divided here.1 there.1 p).2 := rfl
  have s2 : (shStep here there p).2.1 = less here.2.1 (multiplied (divided here.1 there.1 p).1 there.2.1 p) p := rfl
  have s3 : (shStep here there p).2.2 = less here.2.2 (multiplied (divided here.1 there.1 p).1 there.2.2 p) p := rfl
  have m2 : (less here.2.1 (multiplied (divided here.1 there.1 p).1 there.2.1 p) p).length + there.1.length ≤ N := by
    show (blended _ _ _ _).length + _ ≤ N
    by_cases e : (divided here.1 there.1 p).1.length = 0
    · have := lz2 e; omega
    · omega
  have m3 : (less here.2.2 (multiplied (divided here.1 there.1 p).1 there.2.2 p) p).length + there.1.length ≤ N := by
    show (blended _ _ _ _).length + _ ≤ N
    by_cases e : (divided here.1 there.1 p).1.length = 0
    · have := lz3 e; omega
    · omega
  -- the rest is no longer than what was parted
  have lr : (divided here.1 there.1 p).2.length ≤ here.1.length := by
    by_cases e : here.1.length < there.1.length
    · exact cn_len h D.c2 (by
        have e0 : (divided here.1 there.1 p).1 = [] := List.length_eq_zero_iff.mp (by omega)
        have e1 := D.eq
        rw [e0, tp_nil] at e1
        have e2 : tp p (divided here.1 there.1 p).2 = tp p here.1 := by rw [e1]; grind
        rw [e2]; exact tp_lt _)
    · omega
  refine ⟨⟨?_, ?_, ?_, ?_, ?_, ?_⟩, ?_, ?_, ?_, ?_, ?_, ?_⟩
  · rw [s1, s2, s3, tp_less, tp_less, tp_multiplied, tp_multiplied]
    have e1 := D.eq
    have e2 := th.eq
    have e3 := tt.eq
    generalize tp p (divided here.1 there.1 p).1 = Q at *
    generalize tp p (divided here.1 there.1 p).2 = T at *
    have : T = tp p here.1 - Q * tp p there.1 := by rw [e1]; grind
    rw [this, e2, e3]; grind
  · exact D.c2
  · exact cn_less h.pos _ _
  · exact cn_less h.pos _ _
  · rw [s2]; omega
  · rw [s3]; omega
  · exact D.lt
  · rw [s2]; exact m2
  · rw [s3]; exact m3
  · rw [s1]; omega
  · rw [s1]; omega
  · intro d hd1 hd2
    rw [D.eq]
    exact (hd1.mull _).add hd2
theorem shL_ok (h : PR p) {A B : Poly (Zp p)} {N : Nat} : ∀ (k : Nat) (here there : Tri), Tr p A B N here → Tr p A B N there → there.1.length < k → there.2.1.length + here.1.length ≤ N → there.2.2.length + here.1.length ≤ N → here.2.1.length + there.1.length ≤ N → here.2.2.length + there.1.length ≤ N →
    (∀ d, Dv d (tp p here.1) → Dv d (tp p there.1) → Dv d A ∧ Dv d B) → ShOk p A B N (shL p k here there)
  | 0, _, _, _, _, hk, _, _, _, _, _ => by omega
  | k + 1, here, there, th, tt, hk, a2, a3, b2, b3, hd => by
    rw [shL]
    split
    · rename_i e
      have := hd (tp p here.1) (Dv.refl _) (by rw [e, tp_nil]; exact Dv.zero _)
      exact ⟨th, this.1, this.2⟩
    · rename_i e
      obtain ⟨s1, s2, s3, s4, s5, s6, s7⟩ := sh_step h th tt e a2 a3 b2 b3
      exact shL_ok h k there (shStep here there p) tt s1 (by omega) s3 s4 s5 s6 fun d x y => hd d (s7 d x y) x
theorem shL_done (h : PR p) : ∀ (k : Nat) (here there : Tri), Cn p there.1 → Rg p here.1 → there.1.length < k → ∀ (P : Tri → Prop), True := fun _ _ _ _ _ _ _ => trivial
structure GcdOk (p : Int) (one other : List Int) (s : Tri) : Prop where
  eq : tp p s.1 = tp p s.2.1 * tp p one + tp p s.2.2 * tp p other
  dA : Dv (tp p s.1) (tp p one)
  dB : Dv (tp p s.1) (tp p other)
  c1 : Cn p s.1
  c2 : Cn p s.2.1
  c3 : Cn p s.2.2
  n2 : s.2.1.length ≤ max one.length other.length + 1
  n3 : s.2.2.length ≤ max one.length other.length + 1
  lev : s.1 = [] ∨ s.1.getLast? = some 1
theorem scaled_last (h : PR p) {l : List Int} (c : Cn p l) (ne : l ≠ []) : (scaled l (turnedOver (l.getLastD 0) p) p).length = l.length ∧ (scaled l (turnedOver (l.getLastD 0) p) p).getLast? = some 1 := by
  have hl : 0 < l.length := List.length_pos_iff.mpr ne
  have li := last_inv h c ne
  have cs := cn_scaled (p := p) h.pos l (turnedOver (l.getLastD 0) p)
  have l1 := len_scaled (p := p) l (turnedOver (l.getLastD 0) p)
  have e : (tp p (scaled l (turnedOver (l.getLastD 0) p) p)).c (l.length - 1) = 1 := by
    rw [tp_scaled, c_Cmul, CommSemiring.mul_comm]; exact li.1
  have l2 : l.length ≤ (scaled l (turnedOver (l.getLastD 0) p) p).length := by
    apply Nat.le_of_not_lt
    intro hlt
    have z := tp_lt (p := p) (scaled l (turnedOver (l.getLastD 0) p) p) (l.length - 1) (by omega)
    rw [e] at z
    exact h.fld.ne z
  have l3 : (scaled l (turnedOver (l.getLastD 0) p) p).length = l.length := by omega
  refine ⟨l3, ?_⟩
  rw [List.getLast?_eq_getElem?, l3, List.getElem?_eq_getElem (by omega)]
  rw [tp_c, List.getD_eq_getElem?_getD, List.getElem?_eq_getElem (by omega), ← Zp.mk_one] at e
  have b := cs.rg _ (List.getElem_mem (show l.length - 1 < (scaled l (turnedOver (l.getLastD 0) p) p).length by omega))
  exact congrArg some (Zp.mk_inj b.1 b.2 (by omega) h.gt e)
theorem gcd_ok (h : PR p) {one other : List Int} (c1 : Cn p one) (c2 : Cn p other) : GcdOk p one other (shared one other p) := by
  have key : ShOk p (tp p one) (tp p other) (max one.length other.length + 1) (shL p (other.length + 1) (one, [1], []) (other, [], [1])) := by
    have e1 : tp p [1] = 1 := by rw [tp_cons, tp_nil, Zp.mk_one, C_one]; grind
    refine shL_ok h _ _ _ ⟨?_, c1, Cn.one h, Cn.nil, ?_, ?_⟩ ⟨?_, c2, Cn.nil, Cn.one h, ?_, ?_⟩ ?_ ?_ ?_ ?_ ?_ ?_
    · show tp p one = tp p [1] * tp p one + tp p [] * tp p other
      rw [e1, tp_nil]; grind
    · show 1 ≤ _; omega
    · exact Nat.zero_le _
    · show tp p other = tp p [] * tp p one + tp p [1] * tp p other
      rw [e1, tp_nil]; grind
    · exact Nat.zero_le _
    · show 1 ≤ _; omega
    · show other.length < _; omega
    · show 0 + one.length ≤ _; omega
    · show 1 + one.length ≤ _; omega
    · show 1 + other.length ≤ _; omega
    · show 0 + other.length ≤ _; omega
    · exact fun d x y => ⟨x, y⟩
  rw [shared]
  generalize shL p (other.length + 1) (one, [1], []) (other, [], [1]) = s at key
  rw [shEnd]
  split
  · rename_i e
    exact ⟨key.tr.eq, key.dA, key.dB, key.tr.c1, key.tr.c2, key.tr.c3, key.tr.n2, key.tr.n3, .inl e⟩
  · rename_i e
    have sl := scaled_last h key.tr.c1 e
    have li := last_inv h key.tr.c1 e
    have dv : ∀ Y, Dv (tp p s.1) Y → Dv (tp p (scaled s.1 (turnedOver (s.1.getLastD 0) p) p)) Y := fun Y hY => by
      refine Dv.trans ?_ hY
      rw [tp_scaled]
      refine ⟨C (Zp.mk p (s.1.getLastD 0)), ?_⟩
      have : C (Zp.mk p (s.1.getLastD 0)) * C (Zp.mk p (turnedOver (s.1.getLastD 0) p)) = 1 := by
        rw [← C_mul, CommSemiring.mul_comm, ← Zp.mk_mul, ← Zp.mk_mod, li.2.1, Zp.mk_one, C_one]
      grind
    refine ⟨?_, dv _ key.dA, dv _ key.dB, cn_scaled h.pos _ _, cn_scaled h.pos _ _, cn_scaled h.pos _ _, Nat.le_trans (len_scaled _ _) key.tr.n2, Nat.le_trans (len_scaled _ _) key.tr.n3, .inr sl.2⟩
    simp only [tp_scaled]
    rw [key.tr.eq]; grind
/-! ### what is left by a rule -/
structure Rm (p : Int) (rule : List Int) (f : List Int) (a : Poly (Zp p)) : Prop where
  dv : Dv (tp p rule) (tp p f - a)
  cn : Cn p f
  lt : f.length < rule.length
structure Ru (p : Int) (rule : List Int) : Prop where
  pr : PR p
  cn : Cn p rule
  ne : rule ≠ []
variable {rule : List Int}
theorem Ru.dv0 (u : Ru p rule) {a : Poly (Zp p)} (h : Dv (tp p rule) a) (l : Lt a (rule.length - 1)) : a = 0 := by
  have hl : 0 < rule.length := List.length_pos_iff.mpr u.ne
  exact dv_lt' ((tp_lt rule).mono (by omega)) (last_inv u.pr u.cn u.ne).1 h l
theorem Rm.uniq (u : Ru p rule) {f g : List Int} {a b : Poly (Zp p)} (hf : Rm p rule f a) (hg : Rm p rule g b) (ab : Dv (tp p rule) (a - b)) : f = g := by
  have hl := hf.lt
  have hl2 := hg.lt
  apply cn_inj u.pr hf.cn hg.cn
  have : tp p f - tp p g = 0 := u.dv0 ((hf.dv.chain ab).chain hg.dv.sub_swap) (((tp_lt f).mono (by omega)).sub ((tp_lt g).mono (by omega)))
  grind
theorem Rm.to (hf : Rm p rule f a) (ab : Dv (tp p rule) (a - b)) : Rm p rule f b := ⟨hf.dv.chain ab, hf.cn, hf.lt⟩
theorem leftBy_ok (u : Ru p rule) {one : List Int} (r : Rg p one) : Rm p rule (leftBy one rule p) (tp p one) := by
  have D := div_ok u.pr u.cn u.ne r
  exact ⟨⟨- tp p (divided one rule p).1, by rw [D.eq]; show tp p (divided one rule p).2 - _ = _; grind⟩, D.c2, D.lt⟩
theorem Rm.mul (u : Ru p rule) {f g : List Int} {a b : Poly (Zp p)} (hf : Rm p rule f a) (hg : Rm p rule g b) : Rm p rule (leftBy (multiplied f g p) rule p) (a * b) := by
  have := leftBy_ok u (cn_multiplied u.pr.pos f g).rg
  refine this.to ?_
  rw [tp_multiplied]
  exact Dv.mul2 hf.dv hg.dv
theorem Rm.one (u : Ru p rule) : Rm p rule (leftBy [1] rule p) 1 := by
  have := leftBy_ok u (Cn.one u.pr).rg
  rw [tp_cons, tp_nil, Zp.mk_one, C_one] at this
  exact this.to ⟨0, by grind⟩
theorem tp_X : tp p [0, 1] = X := by rw [tp_cons, tp_cons, tp_nil, Zp.mk_zero, Zp.mk_one, C_zero, C_one]; grind
theorem pw_half {R : Type} [CommRing R] (b : R) (e : Nat) : b ^ e = (if e % 2 = 1 then b else 1) * (b * b) ^ (e / 2) := by
  have e2 : b * b = b ^ 2 := by rw [show (2 : Nat) = 1 + 1 from rfl, Semiring.pow_succ, pw_one]
  rw [e2, pw_pw]
  split
  · rw [show b ^ e = b ^ (2 * (e / 2) + 1) by congr 1; omega, Semiring.pow_succ]; grind
  · rw [show b ^ e = b ^ (2 * (e / 2)) by congr 1; omega]; grind
theorem lrL_ok (u : Ru p rule) : ∀ (k : Nat) (found base : List Int) (e : Int) (a b : Poly (Zp p)), 0 ≤ e → e.toNat ≤ k → Rm p rule found a → Rm p rule base b → Rm p rule (lrL rule p k found base e) (a * b ^ e.toNat)
  | 0, found, base, e, a, b, h0, hk, hf, hb => by
    rw [lrL, show e.toNat = 0 by omega, Semiring.pow_zero]
    exact hf.to ⟨0, by grind⟩
  | k + 1, found, base, e, a, b, h0, hk, hf, hb => by
    rw [lrL]
    split
    · rename_i he
      have e2 : (e / 2).toNat = e.toNat / 2 := by omega
      have := lrL_ok u k (if e % 2 = 1 then leftBy (multiplied found base p) rule p else found) (leftBy (multiplied base base p) rule p) (e / 2) (if e.toNat % 2 = 1 then a * b else a) (b * b) (by omega) (by omega) (by
        by_cases h1 : e % 2 = 1
        · rw [if_pos h1, if_pos (by omega)]; exact hf.mul u hb
        · rw [if_neg h1, if_neg (by omega)]; exact hf) (hb.mul u hb)
      rw [e2] at this
      refine this.to ⟨0, ?_⟩
      rw [pw_half b e.toNat]
      split <;> grind
    · rw [show e.toNat = 0 by omega, Semiring.pow_zero]
      exact hf.to ⟨0, by grind⟩
theorem leftRaised_ok (u : Ru p rule) {one : List Int} (r : Rg p one) {e : Int} (he : 0 ≤ e) : Rm p rule (leftRaised one e rule p) (tp p one ^ e.toNat) :=
  (lrL_ok u e.toNat _ _ e 1 _ he (Nat.le_refl _) (Rm.one u) (leftBy_ok u r)).to ⟨0, by grind⟩
/-! ### one put into another -/
def cp (p : Int) : List Int → Poly (Zp p) → Poly (Zp p)
  | [], _ => 0
  | a :: l, y => C (Zp.mk p a) + y * cp p l y
theorem cp_X (l : List Int) : cp p l X = tp p l := by
  induction l with
  | nil => rfl
  | cons a l ih => rw [cp, ih, tp_cons]
theorem cp_dv {f y z : Poly (Zp p)} (h : Dv f (y - z)) : ∀ l : List Int, Dv f (cp p l y - cp p l z)
  | [] => ⟨0, by rw [cp, cp]; grind⟩
  | a :: l => by
    obtain ⟨k, e⟩ := Dv.mul2 h (cp_dv h l)
    exact ⟨k, by rw [cp, cp]; grind⟩
theorem PR.charP (h : PR p) : (p.toNat : Poly (Zp p)) = 0 := by rw [← C_nat, h.char, C_zero]
theorem cp_frob (h : PR p) (l : List Int) (y : Poly (Zp p)) : cp p l y ^ p.toNat = cp p l (y ^ p.toNat) := by
  induction l with
  | nil => exact zero_pw _ (by have := h.gt; omega)
  | cons a l ih =>
    rw [cp, cp, frob h.charP h.row, mul_pw, ih]
    have : (C (Zp.mk p a)) ^ p.toNat = C (Zp.mk p a) := by rw [← C_pow, h.fermat]
    rw [this]
theorem putThrough_ok (u : Ru p rule) {one other : List Int} (hl : 1 < rule.length) (ro : Rg p one) (r : Rg p other) : Rm p rule (putThrough one other rule p) (cp p one (tp p other)) := by
  rw [putThrough, List.foldl_reverse]
  induction one with
  | nil => exact ⟨⟨0, by rw [List.foldr_nil, tp_nil, cp]; grind⟩, Cn.nil, by simpa using (show 0 < rule.length by omega)⟩
  | cons a l ih =>
    have ih := ih fun x hx => ro x (List.mem_cons_of_mem _ hx)
    rw [List.foldr_cons]
    generalize List.foldr (fun x y => ptStep other rule p y x) [] l = t at ih
    rw [ptStep]
    have hb := cn_blended (p := p) u.pr.pos (multiplied t other p) (cut [a]) 1
    have := leftBy_ok u hb.rg
    refine this.to ?_
    rw [tp_blended, tp_multiplied, tp_cut, tp_cons, tp_nil, Zp.mk_one, C_one, cp]
    obtain ⟨k, e⟩ := ih.dv
    exact ⟨k * tp p other, by grind⟩
/-- the next turn -/
theorem turn_next (u : Ru p rule) (hl : 1 < rule.length) {f g : List Int} {k : Nat} (hf : Rm p rule f (X ^ (p.toNat ^ k))) (hg : Rm p rule g (X ^ p.toNat)) : Rm p rule (putThrough f g rule p) (X ^ (p.toNat ^ (k + 1))) := by
  refine (putThrough_ok u hl hf.cn.rg hg.cn.rg).to ?_
  have h1 := cp_dv hg.dv f
  rw [← cp_frob u.pr, cp_X] at h1
  have h2 := hf.dv.pow p.toNat
  rw [pw_pw, ← Nat.pow_succ] at h2
  exact h1.chain h2
/-! ### worth at a rest, slope -/
theorem worth_ev (one : List Int) (x : Int) : Zp.mk p (worthAt one x p) = ev (one.map (Zp.mk p)) (Zp.mk p x) := by
  rw [worthAt, List.foldl_reverse]
  induction one with
  | nil => rfl
  | cons a l ih => rw [List.foldr_cons, List.map_cons, ev, ← ih, Zp.mk_mod, Zp.mk_add, Zp.mk_mul]; grind
theorem dv_root {R : Type} [CommRing R] (x : R) : ∀ l : List R, Dv (X - C x) (EE l - C (ev l x))
  | [] => ⟨0, by rw [EE, ev, C_zero]; grind⟩
  | a :: l => by
    obtain ⟨k, e⟩ := dv_root x l
    rw [EE, ev, C_add, C_mul]
    exact ⟨X * k + C (ev l x), by grind⟩
theorem worth_dv {one : List Int} {x : Int} (h : worthAt one x p = 0) : Dv (X - C (Zp.mk p x)) (tp p one) := by
  have := dv_root (Zp.mk p x) (one.map (Zp.mk p))
  rw [← worth_ev, h, Zp.mk_zero, C_zero] at this
  obtain ⟨k, e⟩ := this
  exact ⟨k, by rw [tp]; grind⟩
theorem sloped_len (one : List Int) : (sloped one p).length ≤ one.length - 1 := by
  refine Nat.le_trans (cut_len _) ?_
  simp
theorem cn_sloped (h : 0 < p) (one : List Int) : Cn p (sloped one p) := cn_cut fun a ha => by
  obtain ⟨x, _, e⟩ := List.mem_map.mp (List.mem_of_mem_drop ha)
  rw [← e]; exact ⟨Int.emod_nonneg _ (by omega), Int.emod_lt_of_pos _ h⟩
theorem tp_sloped (one : List Int) : tp p (sloped one p) = der (tp p one) := ext fun n => by
  rw [sloped, tp_cut, tp_c]
  show _ = ((n + 1 : Nat) : Zp p) * (tp p one).c (n + 1)
  rw [tp_c, List.getD_eq_getElem?_getD, List.getElem?_drop, List.getElem?_map, List.getElem?_zipIdx, List.getD_eq_getElem?_getD, Nat.add_comm 1 n, Nat.zero_add]
  cases one[n + 1]? with
  | none => show Zp.mk p 0 = _ * Zp.mk p 0; rw [Zp.mk_zero]; grind
  | some a =>
    show Zp.mk p (((n + 1 : Nat) : Int) * a % p) = _
    rw [Zp.mk_mod, Zp.mk_mul, Zp.mk_nat]; rfl
end
end Rf
end
section
set_option maxRecDepth 100000
namespace Rf
open Lean.Grind
open Poly
local instance (priority := low) instNC6 {R : Type} [CommRing R] : NatCast R := Semiring.natCast
section
variable {R : Type} [CommRing R]
/-! ### sums -/
def sm (g : Nat → R) : Nat → R
  | 0 => 0
  | n + 1 => sm g n + g n
theorem sm_zero (g : Nat → R) : ∀ n, (∀ i, i < n → g i = 0) → sm g n = 0
  | 0, _ => rfl
  | n + 1, h => by rw [sm, sm_zero g n fun i hi => h i (by omega), h n (by omega)]; grind
theorem sm_one (g : Nat → R) (a : Nat) : ∀ n, a < n → (∀ i, i < n → i ≠ a → g i = 0) → sm g n = g a
  | n + 1, ha, h => by
    rw [sm]
    by_cases e : a = n
    · rw [sm_zero g n fun i hi => h i (by omega) (by omega), e]; grind
    · rw [sm_one g a n (by omega) fun i hi => h i (by omega), h n (by omega) (by omega)]; grind
theorem sm_two (g : Nat → R) (a b : Nat) (ab : a ≠ b) : ∀ n, a < n → b < n → (∀ i, i < n → i ≠ a → i ≠ b → g i = 0) → sm g n = g a + g b
  | n + 1, ha, hb, h => by
    rw [sm]
    by_cases e : a = n
    · rw [sm_one g b n (by omega) fun i hi hib => h i (by omega) (by omega) hib, e]; grind
    · by_cases e2 : b = n
      · rw [sm_one g a n (by omega) fun i hi hia => h i (by omega) hia (by omega), e2]
      · rw [sm_two g a b ab n (by omega) (by omega) fun i hi => h i (by omega), h n (by omega) (by omega) (by omega)]; grind
theorem sm_add (g h : Nat → R) : ∀ n, sm (fun i => g i + h i) n = sm g n + sm h n
  | 0 => by simp only [sm]; grind
  | n + 1 => by rw [sm, sm_add g h n, sm, sm]; grind
theorem sm_mul (c : R) (g : Nat → R) : ∀ n, sm (fun i => c * g i) n = c * sm g n
  | 0 => by simp only [sm]; grind
  | n + 1 => by rw [sm, sm_mul c g n, sm]; grind
theorem sm_congr {g h : Nat → R} : ∀ n, (∀ i, i < n → g i = h i) → sm g n = sm h n
  | 0, _ => rfl
  | n + 1, e => by rw [sm, sm, sm_congr n fun i hi => e i (by omega), e n (by omega)]
def dot (n : Nat) (a b : Poly R) : R := sm (fun i => a.c i * b.c i) n
structure SubS (S : Poly R → Prop) : Prop where
  z : S 0
  add : ∀ a b, S a → S b → S (a + b)
  sc : ∀ w a, S a → S (C w * a)
theorem SubS.subm {S : Poly R → Prop} (h : SubS S) {a b : Poly R} (w : R) (ha : S a) (hb : S b) : S (a - C w * b) := by
  have := h.add _ _ ha (h.sc (-w) b hb)
  rw [C_neg] at this
  rw [show a - C w * b = a + -C w * b by grind]; exact this
theorem SubS.addm {S : Poly R → Prop} (h : SubS S) {a b : Poly R} (w : R) (ha : S (a - C w * b)) (hb : S b) : S a := by
  have := h.add _ _ ha (h.sc w b hb)
  rw [show a - C w * b + C w * b = a by grind] at this; exact this
theorem dot_sub (n : Nat) (v : Poly R) : SubS fun a => dot n a v = 0 where
  z := sm_zero _ n fun i _ => by rw [c_zero]; grind
  add a b ha hb := by
    have : dot n (a + b) v = dot n a v + dot n b v := by
      rw [dot, dot, dot, ← sm_add]
      exact sm_congr n fun i _ => by rw [c_add]; grind
    rw [this, ha, hb]; grind
  sc w a ha := by
    have : dot n (C w * a) v = w * dot n a v := by
      rw [dot, dot, ← sm_mul]
      exact sm_congr n fun i _ => by rw [c_Cmul]; grind
    rw [this, ha]; grind
theorem dot_comm (n : Nat) (a b : Poly R) : dot n a b = dot n b a := sm_congr n fun i _ => CommSemiring.mul_comm _ _
end

section
variable {p : Int}
theorem mk_getD (l : List Int) (i : Nat) : (tp p l).c i = Zp.mk p (l.getD i 0) := tp_c l i
structure Row (p : Int) (n : Nat) (l : List Int) : Prop where
  len : l.length = n
  rg : Rg p l
theorem Row.at (h : 0 < p) {n : Nat} {l : List Int} (r : Row p n l) (i : Nat) : 0 ≤ l.getD i 0 ∧ l.getD i 0 < p := by
  rw [List.getD_eq_getElem?_getD]
  by_cases hi : i < l.length
  · rw [List.getElem?_eq_getElem hi]; exact r.rg _ (List.getElem_mem hi)
  · rw [List.getElem?_eq_none_iff.mpr (by omega)]; exact ⟨Int.le_refl 0, h⟩
theorem Row.lt {n : Nat} {l : List Int} (r : Row p n l) : Lt (tp p l) n := by have := tp_lt (p := p) l; rw [r.len] at this; exact this
theorem row_less (h : 0 < p) {n : Nat} {row other : List Int} (r : Row p n row) (o : Row p n other) (w : Int) : Row p n (lessened row other w p) := by
  rw [lessened]
  split
  · exact r
  · exact ⟨by rw [List.length_zipWith, r.len, o.len]; omega, rg_zip h (fun a b => a - w * b) row other⟩
theorem tp_less2 {n : Nat} {row other : List Int} (r : Row p n row) (o : Row p n other) (w : Int) : tp p (lessened row other w p) = tp p row - C (Zp.mk p w) * tp p other := by
  rw [lessened]
  split
  · rename_i e; rw [e, Zp.mk_zero, C_zero]; grind
  · have key : ∀ a b : List Int, a.length = b.length → tp p (List.zipWith (fun x y => (x - w * y) % p) a b) = tp p a - C (Zp.mk p w) * tp p b := by
      intro a
      induction a with
      | nil => intro b hb; cases b with
        | nil => rw [List.zipWith_nil_left, tp_nil]; grind
        | cons y b => simp at hb
      | cons x a ih => intro b hb; cases b with
        | nil => simp at hb
        | cons y b => rw [List.zipWith_cons_cons, tp_cons, tp_cons, tp_cons, ih b (by simpa using hb), Zp.mk_mod, Zp.mk_sub, Zp.mk_mul, C_sub, C_mul]; grind
    exact key row other (by rw [r.len, o.len])
/-- the place of a lessened row -/
theorem less_at (h : 0 < p) {n : Nat} {row other : List Int} (r : Row p n row) (o : Row p n other) (w : Int) (i : Nat) : (lessened row other w p).getD i 0 = (row.getD i 0 - w * other.getD i 0) % p := by
  have r2 := row_less h r o w
  have a := r2.at h i
  refine Zp.mk_inj a.1 a.2 (Int.emod_nonneg _ (by omega)) (Int.emod_lt_of_pos _ h) ?_
  rw [← mk_getD, tp_less2 r o w, c_sub, c_Cmul, mk_getD, mk_getD, Zp.mk_mod, Zp.mk_sub, Zp.mk_mul]
structure Ech (p : Int) (n : Nat) (t : Tab) : Prop where
  nd : (t.map (·.1)).Nodup
  lt : ∀ e ∈ t, e.1 < n
  row : ∀ e ∈ t, Row p n e.2
  one : ∀ e ∈ t, e.2.getD e.1 0 = 1
  oth : ∀ e ∈ t, ∀ e' ∈ t, e.1 ≠ e'.1 → e.2.getD e'.1 0 = 0
def All (p : Int) (S : Poly (Zp p) → Prop) (t : Tab) : Prop := ∀ e ∈ t, S (tp p e.2)
theorem low_ok (h : PR p) {n : Nat} {t : Tab} (E : Ech p n t) {S : Poly (Zp p) → Prop} (hS : SubS S) (hA : All p S t) : ∀ (u : Tab) (row : List Int), (∀ e ∈ u, e ∈ t) → (u.map (·.1)).Nodup → Row p n row →
    Row p n (lowered row u p) ∧ (S (tp p row) ↔ S (tp p (lowered row u p))) ∧ (∀ e ∈ t, (e.1 ∈ u.map (·.1) → (lowered row u p).getD e.1 0 = 0) ∧ (row.getD e.1 0 = 0 → (lowered row u p).getD e.1 0 = 0))
  | [], row, _, _, r => ⟨r, Iff.rfl, fun e _ => ⟨fun z => (by simp at z), fun z => z⟩⟩
  | e :: u, row, hu, nd, r => by
    have he := hu e List.mem_cons_self
    have re := E.row e he
    have r2 := row_less h.pos r re (row.getD e.1 0)
    rw [List.map_cons, List.nodup_cons] at nd
    obtain ⟨a1, a2, a3⟩ := low_ok h E hS hA u (lessened row e.2 (row.getD e.1 0) p) (fun x hx => hu x (List.mem_cons_of_mem _ hx)) nd.2 r2
    have el : lowered row (e :: u) p = lowered (lessened row e.2 (row.getD e.1 0) p) u p := rfl
    rw [el]
    refine ⟨a1, ?_, fun e' he' => ⟨fun z => ?_, fun z => ?_⟩⟩
    · rw [← a2, tp_less2 r re]
      exact ⟨fun s => hS.subm _ s (hA e he), fun s => hS.addm _ s (hA e he)⟩
    · rcases List.mem_cons.mp z with q | q
      · apply (a3 e' he').2
        rw [less_at h.pos r re, q, E.one e he]
        simp
      · exact (a3 e' he').1 q
    · apply (a3 e' he').2
      rw [less_at h.pos r re, z]
      by_cases q : e.1 = e'.1
      · rw [q, z]; simp
      · rw [E.oth e he e' he' q]; simp
theorem tput_new : ∀ (t : Tab) (k : Nat) (v : List Int), k ∉ t.map (·.1) → tput t k v = t ++ [(k, v)]
  | [], k, v, _ => rfl
  | e :: t, k, v, h => by
    rw [List.map_cons, List.mem_cons] at h
    rw [tput, if_neg (fun q => h (.inl q.symm)), tput_new t k v fun q => h (.inr q)]; rfl
theorem spots_nil {l : List Int} (e : spots l = []) : tp p l = 0 := by
  have : ∀ i, l.getD i 0 = 0 := fun i => by
    rw [List.getD_eq_getElem?_getD]
    by_cases hi : i < l.length
    · rw [List.getElem?_eq_getElem hi]
      show l[i] = 0
      rw [spots, List.map_eq_nil_iff, List.filter_eq_nil_iff] at e
      have := e (l[i], i) (List.mem_zipIdx_iff_getElem?.mpr (List.getElem?_eq_getElem hi))
      simpa using this
    · rw [List.getElem?_eq_none_iff.mpr (by omega)]; rfl
  exact ext fun n => by rw [tp_c, this, c_zero]; exact Zp.mk_zero
theorem spots_cons {l : List Int} {s : Nat} {r : List Nat} (e : spots l = s :: r) : s < l.length ∧ l.getD s 0 ≠ 0 := by
  have : s ∈ spots l := by rw [e]; exact List.mem_cons_self
  rw [spots] at this
  obtain ⟨x, hx, ex⟩ := List.mem_map.mp this
  obtain ⟨h1, h2⟩ := List.mem_filter.mp hx
  have h3 := List.mem_zipIdx_iff_getElem?.mp h1
  rw [ex] at h3
  have h4 := List.getElem?_eq_some_iff.mp h3
  refine ⟨h4.1, ?_⟩
  rw [List.getD_eq_getElem?_getD, h3]
  simpa using h2
theorem map_at (h : 0 < p) {n : Nat} {l : List Int} (r : Row p n l) (w : Int) : Row p n (l.map fun x => x * w % p) ∧ ∀ i, (l.map fun x => x * w % p).getD i 0 = l.getD i 0 * w % p := by
  refine ⟨⟨by rw [List.length_map, r.len], fun a ha => ?_⟩, fun i => ?_⟩
  · obtain ⟨b, _, e⟩ := List.mem_map.mp ha
    rw [← e]; exact ⟨Int.emod_nonneg _ (by omega), Int.emod_lt_of_pos _ h⟩
  · rw [List.getD_eq_getElem?_getD, List.getElem?_map, List.getD_eq_getElem?_getD]
    cases l[i]? with
    | none => simp
    | some a => rfl
/-- one more row -/
theorem step_ok (h : PR p) {n : Nat} {t : Tab} (E : Ech p n t) {row : List Int} (r : Row p n row) :
    Ech p n (stStep p t row) ∧ ∀ S : Poly (Zp p) → Prop, SubS S → (All p S (stStep p t row) ↔ All p S t ∧ S (tp p row)) := by
  have base := fun (S : Poly (Zp p) → Prop) (hS : SubS S) (hA : All p S t) => low_ok h E hS hA t row (fun e he => he) E.nd r
  obtain ⟨rl, -, z⟩ := base (fun _ => True) ⟨trivial, fun _ _ _ _ => trivial, fun _ _ _ => trivial⟩ (fun _ _ => trivial)
  rw [stStep]
  simp only []
  cases es : spots (lowered row t p) with
  | nil =>
    simp only []
    refine ⟨E, fun S hS => ⟨fun hA => ⟨hA, ?_⟩, fun hA => hA.1⟩⟩
    rw [(base S hS hA).2.1, spots_nil es]; exact hS.z
  | cons s ss =>
    simp only []
    obtain ⟨hs, hs0⟩ := spots_cons es
    generalize hl : lowered row t p = left at *
    have hz : ∀ e ∈ t, left.getD e.1 0 = 0 := fun e he => (z e he).1 (List.mem_map.mpr ⟨e, he, rfl⟩)
    have hsn : s ∉ t.map (·.1) := fun q => by
      obtain ⟨e, he, ee⟩ := List.mem_map.mp q
      have := hz e he
      rw [ee] at this; exact hs0 this
    have as := rl.at h.pos s
    have inv := h.inv (a := left.getD s 0) (by omega) as.2
    obtain ⟨m1, m2⟩ := map_at h.pos rl (turnedOver (left.getD s 0) p)
    have t2 : tp p (left.map fun x => x * turnedOver (left.getD s 0) p % p) = C (Zp.mk p (turnedOver (left.getD s 0) p)) * tp p left := tp_map_mul _ _
    generalize hl2 : (left.map fun x => x * turnedOver (left.getD s 0) p % p) = left2 at *
    have l2s : left2.getD s 0 = 1 := by rw [m2, Int.mul_comm]; exact inv
    have l2z : ∀ e ∈ t, left2.getD e.1 0 = 0 := fun e he => by rw [m2, hz e he]; simp
    have keys : (t.map fun e => (e.1, lessened e.2 left2 (e.2.getD s 0) p)).map (·.1) = t.map (·.1) := by
      rw [List.map_map]; rfl
    have hput : tput (t.map fun e => (e.1, lessened e.2 left2 (e.2.getD s 0) p)) s left2 = (t.map fun e => (e.1, lessened e.2 left2 (e.2.getD s 0) p)) ++ [(s, left2)] := tput_new _ _ _ (by rw [keys]; exact hsn)
    rw [hput]
    have mem : ∀ e, e ∈ (t.map fun e => (e.1, lessened e.2 left2 (e.2.getD s 0) p)) ++ [(s, left2)] → (∃ e0 ∈ t, e = (e0.1, lessened e0.2 left2 (e0.2.getD s 0) p)) ∨ e = (s, left2) := fun e he => by
      rcases List.mem_append.mp he with q | q
      · obtain ⟨e0, h0, ee⟩ := List.mem_map.mp q
        exact .inl ⟨e0, h0, ee.symm⟩
      · exact .inr (List.mem_singleton.mp q)
    have ns : ∀ e ∈ t, e.1 ≠ s := fun e he q => hsn (List.mem_map.mpr ⟨e, he, q⟩)
    refine ⟨⟨?_, ?_, ?_, ?_, ?_⟩, fun S hS => ⟨fun hA => ?_, fun hA => ?_⟩⟩
    · rw [List.map_append, keys, List.nodup_append]
      refine ⟨E.nd, by simp, fun a ha b hb => ?_⟩
      simp at hb
      rw [hb]
      exact fun q => hsn (q ▸ ha)
    · intro e he
      rcases mem e he with ⟨e0, h0, rfl⟩ | rfl
      · exact E.lt e0 h0
      · rw [← rl.len]; exact hs
    · intro e he
      rcases mem e he with ⟨e0, h0, rfl⟩ | rfl
      · exact row_less h.pos (E.row e0 h0) m1 _
      · exact m1
    · intro e he
      rcases mem e he with ⟨e0, h0, rfl⟩ | rfl
      · show (lessened e0.2 left2 _ p).getD e0.1 0 = 1
        rw [less_at h.pos (E.row e0 h0) m1, E.one e0 h0, l2z e0 h0]
        have := h.gt
        rw [show (1 : Int) - e0.2.getD s 0 * 0 = 1 by omega]
        exact Int.emod_eq_of_lt (by omega) this
      · exact l2s
    · intro e he e' he' ne
      rcases mem e he with ⟨e0, h0, rfl⟩ | rfl
      · show (lessened e0.2 left2 _ p).getD e'.1 0 = 0
        rw [less_at h.pos (E.row e0 h0) m1]
        rcases mem e' he' with ⟨e1, h1, rfl⟩ | rfl
        · show (e0.2.getD e1.1 0 - _ * left2.getD e1.1 0) % p = 0
          rw [E.oth e0 h0 e1 h1 ne, l2z e1 h1]; simp
        · show (e0.2.getD s 0 - e0.2.getD s 0 * left2.getD s 0) % p = 0
          rw [l2s]; simp
      · rcases mem e' he' with ⟨e1, h1, rfl⟩ | rfl
        · exact l2z e1 h1
        · exact (ne rfl).elim
    · have s2 : S (tp p left2) := hA (s, left2) (List.mem_append_right _ (List.mem_singleton.mpr rfl))
      have sA : All p S t := fun e he => by
        have := hA (e.1, lessened e.2 left2 (e.2.getD s 0) p) (List.mem_append_left _ (List.mem_map.mpr ⟨e, he, rfl⟩))
        rw [tp_less2 (E.row e he) m1] at this
        exact hS.addm _ this s2
      refine ⟨sA, ?_⟩
      have b := (base S hS sA).2.1
      rw [b]
      have : tp p left = C (Zp.mk p (left.getD s 0)) * tp p left2 := by
        rw [t2]
        have i2 : C (Zp.mk p (left.getD s 0)) * C (Zp.mk p (turnedOver (left.getD s 0) p)) = 1 := by
          rw [← C_mul, CommSemiring.mul_comm, ← Zp.mk_mul, ← Zp.mk_mod, inv, Zp.mk_one, C_one]
        grind
      rw [this]; exact hS.sc _ _ s2
    · have b := (base S hS hA.1).2.1
      have s2 : S (tp p left2) := by rw [t2]; exact hS.sc _ _ (b.mp hA.2)
      intro e he
      rcases mem e he with ⟨e0, h0, rfl⟩ | rfl
      · show S (tp p (lessened e0.2 left2 _ p))
        rw [tp_less2 (E.row e0 h0) m1]
        exact hS.subm _ (hA.1 e0 h0) s2
      · exact s2
theorem steps_ok (h : PR p) {n : Nat} : ∀ (rows : List (List Int)) (t : Tab), Ech p n t → (∀ r ∈ rows, Row p n r) → Ech p n (rows.foldl (stStep p) t) ∧ ∀ S : Poly (Zp p) → Prop, SubS S → (All p S (rows.foldl (stStep p) t) ↔ All p S t ∧ ∀ r ∈ rows, S (tp p r))
  | [], t, E, _ => ⟨E, fun S _ => ⟨fun hA => ⟨hA, fun _ q => (by simp at q)⟩, fun hA => hA.1⟩⟩
  | row :: rows, t, E, hr => by
    obtain ⟨E1, s1⟩ := step_ok h E (hr row List.mem_cons_self)
    obtain ⟨E2, s2⟩ := steps_ok h rows (stStep p t row) E1 fun r q => hr r (List.mem_cons_of_mem _ q)
    refine ⟨E2, fun S hS => ?_⟩
    rw [List.foldl_cons, s2 S hS, s1 S hS]
    constructor
    · rintro ⟨⟨a, b⟩, c⟩
      refine ⟨a, fun r q => ?_⟩
      rcases List.mem_cons.mp q with q | q
      · rw [q]; exact b
      · exact c r q
    · rintro ⟨a, b⟩
      exact ⟨⟨a, b row List.mem_cons_self⟩, fun r q => b r (List.mem_cons_of_mem _ q)⟩
theorem ech_nil {n : Nat} : Ech p n [] := ⟨List.nodup_nil, fun _ q => (by simp at q), fun _ q => (by simp at q), fun _ q => (by simp at q), fun _ q => (by simp at q)⟩
theorem stepsOf_ok (h : PR p) {n : Nat} {rows : List (List Int)} (hr : ∀ r ∈ rows, Row p n r) : Ech p n (stepsOf rows p) ∧ ∀ S : Poly (Zp p) → Prop, SubS S → (All p S (stepsOf rows p) ↔ ∀ r ∈ rows, S (tp p r)) := by
  obtain ⟨a, b⟩ := steps_ok h rows [] ech_nil hr
  refine ⟨a, fun S hS => ?_⟩
  rw [stepsOf, b S hS]
  exact ⟨fun q => q.2, fun q => ⟨fun _ z => (by simp at z), q⟩⟩
theorem insN_perm (a : Nat × List Int) : ∀ t : Tab, (insN a t).Perm (a :: t)
  | [] => List.Perm.refl _
  | b :: t => by
    rw [insN]
    split
    · exact List.Perm.refl _
    · exact ((insN_perm a t).cons b).trans (List.Perm.swap a b t)
theorem sortN_perm : ∀ t : Tab, (sortN t).Perm t
  | [] => List.Perm.refl _
  | a :: t => (insN_perm a _).trans ((sortN_perm t).cons a)
theorem inOrder_mem {t : Tab} {r : List Int} : r ∈ inOrder t ↔ ∃ e ∈ t, e.2 = r := by
  rw [inOrder, List.mem_map]
  constructor
  · rintro ⟨e, h1, h2⟩; exact ⟨e, (sortN_perm t).mem_iff.mp h1, h2⟩
  · rintro ⟨e, h1, h2⟩; exact ⟨e, (sortN_perm t).mem_iff.mpr h1, h2⟩
theorem inOrder_len (t : Tab) : (inOrder t).length = t.length := by rw [inOrder, List.length_map, (sortN_perm t).length_eq]
/-! the free rows -/
theorem free_aux (h : PR p) {n : Nat} {t : Tab} (E : Ech p n t) (free : Nat) : ∀ (u : Tab) (l : List Int), (∀ e ∈ u, e ∈ t) → (u.map (·.1)).Nodup → Row p n l →
    Row p n (u.foldl (fun numbers e => numbers.set e.1 ((0 - e.2.getD free 0) % p)) l) ∧
    (∀ e ∈ u, (u.foldl (fun numbers e => numbers.set e.1 ((0 - e.2.getD free 0) % p)) l).getD e.1 0 = (0 - e.2.getD free 0) % p) ∧
    (∀ i, i ∉ u.map (·.1) → (u.foldl (fun numbers e => numbers.set e.1 ((0 - e.2.getD free 0) % p)) l).getD i 0 = l.getD i 0)
  | [], l, _, _, r => ⟨r, fun _ q => (by simp at q), fun _ _ => rfl⟩
  | e :: u, l, hu, nd, r => by
    rw [List.map_cons, List.nodup_cons] at nd
    have he := hu e List.mem_cons_self
    obtain ⟨a1, a2, a3⟩ := free_aux h E free u (l.set e.1 ((0 - e.2.getD free 0) % p)) (fun x hx => hu x (List.mem_cons_of_mem _ hx)) nd.2 ⟨by rw [List.length_set, r.len], rg_set h.pos r.rg _ _⟩
    rw [List.foldl_cons]
    refine ⟨a1, fun e' he' => ?_, fun i hi => ?_⟩
    · rcases List.mem_cons.mp he' with q | q
      · rw [q, a3 e.1 nd.1, List.getD_eq_getElem?_getD, List.getElem?_set_self (by rw [r.len]; exact E.lt e he)]; rfl
      · exact a2 e' q
    · rw [List.map_cons, List.mem_cons] at hi
      rw [a3 i fun q => hi (.inr q), List.getD_eq_getElem?_getD, List.getElem?_set_ne (fun q => hi (.inl q.symm)), ← List.getD_eq_getElem?_getD]
structure FreeOk (p : Int) (n : Nat) (t : Tab) (free : Nat) (l : List Int) : Prop where
  row : Row p n l
  piv : ∀ e ∈ t, l.getD e.1 0 = (0 - e.2.getD free 0) % p
  one : l.getD free 0 = 1
  oth : ∀ i, i ∉ t.map (·.1) → i ≠ free → l.getD i 0 = 0
theorem freeRow_ok (h : PR p) {n : Nat} {t : Tab} (E : Ech p n t) {free : Nat} (hf : free < n) (nf : free ∉ t.map (·.1)) : FreeOk p n t free (freeRow t n p free) := by
  have r0 : Row p n ((List.replicate n 0).set free 1) := ⟨by simp, fun a ha => by
    rcases List.mem_or_eq_of_mem_set ha with q | q
    · exact rg_rep h.pos n a q
    · rw [q]; have := h.gt; omega⟩
  obtain ⟨a1, a2, a3⟩ := free_aux h E free t _ (fun _ q => q) E.nd r0
  refine ⟨a1, a2, ?_, fun i hi hne => ?_⟩
  · rw [freeRow, a3 free nf, List.getD_eq_getElem?_getD, List.getElem?_set_self (by simpa using hf)]; rfl
  · rw [freeRow, a3 i hi, List.getD_eq_getElem?_getD, List.getElem?_set_ne (Ne.symm hne)]
    by_cases q : i < n
    · rw [List.getElem?_replicate, if_pos q]; rfl
    · rw [List.getElem?_replicate, if_neg q]; rfl
theorem free_dot (h : PR p) {n : Nat} {t : Tab} (E : Ech p n t) {free : Nat} (hf : free < n) (nf : free ∉ t.map (·.1)) {e : Nat × List Int} (he : e ∈ t) : dot n (tp p e.2) (tp p (freeRow t n p free)) = 0 := by
  have F := freeRow_ok h E hf nf
  have ne : e.1 ≠ free := fun q => nf (List.mem_map.mpr ⟨e, he, q⟩)
  rw [dot, sm_two _ e.1 free ne n (E.lt e he) hf]
  · rw [mk_getD, mk_getD, mk_getD, mk_getD, E.one e he, F.piv e he, F.one, Zp.mk_mod, Zp.mk_sub, Zp.mk_one, Zp.mk_zero]; grind
  · intro i hi h1 h2
    rw [mk_getD, mk_getD]
    by_cases q : i ∈ t.map (·.1)
    · obtain ⟨e', he', ee⟩ := List.mem_map.mp q
      rw [← ee, E.oth e he e' he' (by rw [ee]; exact Ne.symm h1), Zp.mk_zero]; grind
    · rw [F.oth i q h2, Zp.mk_zero]; grind
theorem ech_two {n : Nat} : ∀ {t : Tab}, Ech p n t → 2 ≤ t.length → ∃ r ∈ inOrder t, ∃ k, 0 < k ∧ r.getD k 0 = 1
  | [], _, h2 => by simp at h2
  | [_], _, h2 => by simp at h2
  | e :: e' :: r, E2, _ => by
    have nd := E2.nd
    rw [List.map_cons, List.map_cons, List.nodup_cons] at nd
    have ne : e.1 ≠ e'.1 := fun q => nd.1 (by rw [q]; exact List.mem_cons_self)
    by_cases z : e.1 = 0
    · exact ⟨e'.2, inOrder_mem.mpr ⟨e', List.mem_cons_of_mem _ List.mem_cons_self, rfl⟩, e'.1, by omega, E2.one e' (List.mem_cons_of_mem _ List.mem_cons_self)⟩
    · exact ⟨e.2, inOrder_mem.mpr ⟨e, List.mem_cons_self, rfl⟩, e.1, by omega, E2.one e List.mem_cons_self⟩
structure IdleOk (p : Int) (n : Nat) (rows res : List (List Int)) : Prop where
  row : ∀ r ∈ res, Row p n r
  ker : ∀ r ∈ res, ∀ row ∈ rows, dot n (tp p row) (tp p r) = 0
  all : ∀ v : Poly (Zp p), Lt v n → (∀ row ∈ rows, dot n (tp p row) v = 0) → ∀ T : Poly (Zp p) → Prop, SubS T → (∀ r ∈ res, T (tp p r)) → T v
  two : 2 ≤ res.length → ∃ r ∈ res, ∃ k, 0 < k ∧ r.getD k 0 = 1
theorem idle_ok (h : PR p) {n : Nat} {rows : List (List Int)} (hr : ∀ r ∈ rows, Row p n r) : IdleOk p n rows (idleOf rows n p) := by
  obtain ⟨E, s⟩ := stepsOf_ok h hr
  have hfree : ∀ k, k ∈ (List.range n).filter (fun k => !((stepsOf rows p).any fun e => e.1 == k)) ↔ k < n ∧ k ∉ (stepsOf rows p).map (·.1) := fun k => by
    rw [List.mem_filter, List.mem_range]
    refine and_congr Iff.rfl ?_
    simp only [Bool.not_eq_true', List.any_eq_false, beq_iff_eq, List.mem_map, _root_.not_exists, _root_.not_and]
  have hsome : ∀ r ∈ ((List.range n).filter (fun k => !((stepsOf rows p).any fun e => e.1 == k))).map (freeRow (stepsOf rows p) n p), ∃ k, k < n ∧ k ∉ (stepsOf rows p).map (·.1) ∧ freeRow (stepsOf rows p) n p k = r := fun r hr => by
    obtain ⟨k, h1, h2⟩ := List.mem_map.mp hr
    exact ⟨k, ((hfree k).mp h1).1, ((hfree k).mp h1).2, h2⟩
  obtain ⟨E2, s2⟩ := stepsOf_ok h (n := n) (rows := ((List.range n).filter (fun k => !((stepsOf rows p).any fun e => e.1 == k))).map (freeRow (stepsOf rows p) n p)) fun r hr => by
    obtain ⟨k, h1, h2, rfl⟩ := hsome r hr
    exact (freeRow_ok h E h1 h2).row
  have fdot : ∀ k, k < n → k ∉ (stepsOf rows p).map (·.1) → ∀ row ∈ rows, dot n (tp p row) (tp p (freeRow (stepsOf rows p) n p k)) = 0 := fun k h1 h2 =>
    (s _ (dot_sub n (tp p (freeRow (stepsOf rows p) n p k)))).mp fun e he => free_dot h E h1 h2 he
  rw [idleOf]
  refine ⟨fun r hr => ?_, fun r hr row hrow => ?_, fun v hv hk T hT hall => ?_, fun h2 => ?_⟩
  · obtain ⟨e, he, rfl⟩ := inOrder_mem.mp hr
    exact E2.row e he
  · obtain ⟨e, he, rfl⟩ := inOrder_mem.mp hr
    have := (s2 (fun a => dot n a (tp p row) = 0) (dot_sub n (tp p row))).mpr (fun r hr => by
      obtain ⟨k, h1, h2, rfl⟩ := hsome r hr
      rw [dot_comm]; exact fdot k h1 h2 row hrow) e he
    rw [dot_comm]; exact this
  · have tsome := (s2 T hT).mp fun e he => hall e.2 (inOrder_mem.mpr ⟨e, he, rfl⟩)
    have ke : ∀ e ∈ stepsOf rows p, dot n (tp p e.2) v = 0 := (s _ (dot_sub n v)).mpr hk
    -- the sum of the free rows, each by its place in v
    have part : ∀ m, m ≤ n → ∃ u : Poly (Zp p), T u ∧ Lt u n ∧ (∀ e ∈ stepsOf rows p, dot n (tp p e.2) u = 0) ∧ ∀ i, i ∉ (stepsOf rows p).map (·.1) → i < n → u.c i = if i < m then v.c i else 0 := by
      intro m
      induction m with
      | zero => exact fun _ => ⟨0, hT.z, Lt.zero, fun e _ => by rw [dot_comm]; exact (dot_sub n (tp p e.2)).z, fun i _ _ => by rw [c_zero, if_neg (by omega)]⟩
      | succ m ih =>
        intro hm
        obtain ⟨u, u1, u2, u3, u4⟩ := ih (by omega)
        by_cases q : m ∈ (stepsOf rows p).map (·.1)
        · refine ⟨u, u1, u2, u3, fun i hi hin => ?_⟩
          rw [u4 i hi hin]
          have : i ≠ m := fun e => hi (e ▸ q)
          by_cases h3 : i < m
          · rw [if_pos h3, if_pos (by omega)]
          · rw [if_neg h3, if_neg (by omega)]
        · have F := freeRow_ok h E (show m < n by omega) q
          have tf : T (tp p (freeRow (stepsOf rows p) n p m)) := tsome _ (List.mem_map.mpr ⟨m, (hfree m).mpr ⟨by omega, q⟩, rfl⟩)
          refine ⟨u + C (v.c m) * tp p (freeRow (stepsOf rows p) n p m), hT.add _ _ u1 (hT.sc _ _ tf), u2.add fun i hi => ?_, fun e he => ?_, fun i hi hin => ?_⟩
          · rw [c_Cmul, F.row.lt i hi]; grind
          · have D := dot_sub n (tp p e.2)
            rw [dot_comm]
            refine D.add _ _ ?_ (D.sc _ _ ?_)
            · rw [dot_comm]; exact u3 e he
            · rw [dot_comm]; exact free_dot h E (by omega) q he
          · rw [c_add, c_Cmul, mk_getD, u4 i hi hin]
            by_cases h3 : i = m
            · rw [h3, F.one, Zp.mk_one, if_neg (by omega), if_pos (by omega)]; grind
            · rw [F.oth i hi h3, Zp.mk_zero]
              by_cases h4 : i < m
              · rw [if_pos h4, if_pos (by omega)]; grind
              · rw [if_neg h4, if_neg (by omega)]; grind
    obtain ⟨u, u1, u2, u3, u4⟩ := part n (Nat.le_refl n)
    have : v = u := ext fun i => by
      by_cases hin : i < n
      · by_cases q : i ∈ (stepsOf rows p).map (·.1)
        · obtain ⟨e, he, ee⟩ := List.mem_map.mp q
          have D := dot_sub n (tp p e.2)
          have z : dot n (tp p e.2) (v - u) = 0 := by
            have := D.subm (a := v) (b := u) 1 (by rw [dot_comm]; exact ke e he) (by rw [dot_comm]; exact u3 e he)
            rw [C_one, show v - 1 * u = v - u by grind] at this
            rw [dot_comm]; exact this
          rw [dot, sm_one _ e.1 n (E.lt e he)] at z
          · rw [mk_getD, E.one e he, Zp.mk_one, c_sub, ee] at z
            grind
          · intro j hj hne
            by_cases q2 : j ∈ (stepsOf rows p).map (·.1)
            · obtain ⟨e', he', ee'⟩ := List.mem_map.mp q2
              rw [mk_getD, ← ee', E.oth e he e' he' (by rw [ee']; exact Ne.symm hne), Zp.mk_zero]; grind
            · rw [c_sub, u4 j q2 hj, if_pos hj]; grind
        · rw [u4 i q hin, if_pos hin]
      · rw [hv i (by omega), u2 i (by omega)]
    rw [this]; exact u1
  · rw [inOrder_len] at h2
    exact ech_two E2 h2
end
end Rf
end
section
set_option maxRecDepth 100000
namespace Rf
open Lean.Grind
open Poly
local instance (priority := low) instNC7 {R : Type} [CommRing R] : NatCast R := Semiring.natCast
/-! ### what stands still -/
section
variable {R : Type} [CommRing R]
theorem sm_c (g : Nat → Poly R) (j : Nat) : ∀ n, (sm g n).c j = sm (fun i => (g i).c j) n
  | 0 => c_zero j
  | n + 1 => by rw [sm, sm, c_add, sm_c g j n]
theorem sm_pw {q : Nat} (hq : (q : R) = 0) (ok : rowOk q = true) (q0 : 0 < q) (g : Nat → R) : ∀ n, (sm g n) ^ q = sm (fun i => g i ^ q) n
  | 0 => zero_pw q q0
  | n + 1 => by rw [sm, sm, frob hq ok, sm_pw hq ok q0 g n]
theorem sm_dv {f : R} {g h : Nat → R} : ∀ n, (∀ i, i < n → Dv f (g i - h i)) → Dv f (sm g n - sm h n)
  | 0, _ => ⟨0, by rw [sm, sm]; grind⟩
  | n + 1, e => by
    obtain ⟨k, a⟩ := sm_dv n fun i hi => e i (by omega)
    obtain ⟨l, b⟩ := e n (by omega)
    exact ⟨k + l, by rw [sm, sm]; grind⟩
theorem c_CX (x : R) (k n : Nat) : (C x * X ^ k).c n = if n = k then x else 0 := by
  rw [c_Cmul]
  by_cases h : n < k
  · have := c_Xpow_lo (1 : Poly R) k n h
    rw [show X ^ k * 1 = X ^ k by grind] at this
    rw [this, if_neg (by omega)]; grind
  · have := c_Xpow (1 : Poly R) k (n - k)
    rw [show X ^ k * 1 = X ^ k by grind, show n - k + k = n by omega, c_one] at this
    rw [this]
    by_cases h2 : n = k
    · rw [if_pos (by omega), if_pos h2]; grind
    · rw [if_neg (by omega), if_neg h2]; grind
theorem sm_poly {v : Poly R} {n : Nat} (h : Lt v n) : sm (fun i => C (v.c i) * X ^ i) n = v := ext fun j => by
  rw [sm_c]
  by_cases hj : j < n
  · rw [sm_one _ j n hj, c_CX, if_pos rfl]
    intro i _ hij
    rw [c_CX, if_neg (by omega)]
  · rw [sm_zero _ n, h j (by omega)]
    intro i hi
    rw [c_CX, if_neg (by omega)]
end
section
variable {p : Int}
theorem plL_len (step rule : List Int) : ∀ (k : Nat) (cur : List Int), (plL step rule p k cur).length = k + 1
  | 0, _ => rfl
  | k + 1, cur => by rw [plL, List.length_cons, plL_len step rule k]
theorem plL_ok {rule step : List Int} (u : Ru p rule) (hs : Rm p rule step (X ^ p.toNat)) : ∀ (k : Nat) (cur : List Int) (j : Nat), Rm p rule cur (X ^ (p.toNat * j)) → ∀ i l, (plL step rule p k cur)[i]? = some l → Rm p rule l (X ^ (p.toNat * (j + i)))
  | 0, cur, j, hc, i, l, h => by
    cases i with
    | zero => rw [plL] at h; have e : cur = l := Option.some.inj h; rw [← e]; exact hc
    | succ i => rw [plL] at h; simp at h
  | k + 1, cur, j, hc, i, l, h => by
    rw [plL] at h
    cases i with
    | zero => have e : cur = l := Option.some.inj h; rw [← e]; exact hc
    | succ i =>
      rw [List.getElem?_cons_succ] at h
      have := plL_ok u hs k _ (j + 1) (by
        have := hc.mul u hs
        rw [← pw_add, show p.toNat * j + p.toNat = p.toNat * (j + 1) by rw [Nat.mul_succ]] at this
        exact this) i l h
      rw [show j + (i + 1) = j + 1 + i by omega]; exact this
variable {rule : List Int}
theorem powers_ok (u : Ru p rule) (h2 : 2 ≤ rule.length) : (powersLeft rule p).length = rule.length - 1 ∧ ∀ i l, (powersLeft rule p)[i]? = some l → Rm p rule l (X ^ (p.toNat * i)) := by
  have hs := leftRaised_ok u (Cn.X u.pr).rg (show 0 ≤ p by have := u.pr.gt; omega)
  rw [tp_X] at hs
  refine ⟨by rw [powersLeft, plL_len]; omega, fun i l h => ?_⟩
  have := plL_ok u hs _ _ 0 (by rw [Nat.mul_zero, Semiring.pow_zero]; exact Rm.one u) i l h
  rw [Nat.zero_add] at this; exact this
theorem images_ok (u : Ru p rule) (h2 : 2 ≤ rule.length) : (images rule p).length = rule.length - 1 ∧ ∀ i l, (images rule p)[i]? = some l → Row p (rule.length - 1) l ∧ Dv (tp p rule) (tp p l - (X ^ (p.toNat * i) - X ^ i)) := by
  obtain ⟨pl, po⟩ := powers_ok u h2
  refine ⟨by rw [images, List.length_map, List.length_zipIdx, pl], fun i l h => ?_⟩
  rw [images, List.getElem?_map, List.getElem?_zipIdx, Nat.zero_add] at h
  cases e : (powersLeft rule p)[i]? with
  | none => rw [e] at h; simp at h
  | some a =>
    rw [e] at h
    have hi : i < rule.length - 1 := by rw [← pl]; exact (List.getElem?_eq_some_iff.mp e).1
    have ra := po i a e
    have el : wid (less a (cut (List.replicate i 0 ++ [1])) p) (rule.length - 1) = l := Option.some.inj h
    have ll : (less a (cut (List.replicate i 0 ++ [1])) p).length ≤ rule.length - 1 := by
      refine Nat.le_trans (len_blended _ _ _) ?_
      have := cut_len (List.replicate i 0 ++ [1])
      rw [List.length_append, List.length_replicate] at this
      simp only [List.length_cons, List.length_nil] at this
      have := ra.lt
      omega
    rw [← el]
    refine ⟨⟨wid_len _ ll, fun x hx => ?_⟩, ?_⟩
    · rcases List.mem_append.mp hx with q | q
      · exact (cn_less u.pr.pos _ _).rg x q
      · exact rg_rep u.pr.pos _ x q
    · rw [tp_wid, tp_less, tp_cut, tp_append, tp_rep, List.length_replicate, tp_cons, tp_nil, Zp.mk_one, C_one]
      obtain ⟨k, ek⟩ := ra.dv
      exact ⟨k, by rw [← ek]; grind⟩
theorem rows_ok (u : Ru p rule) (h2 : 2 ≤ rule.length) : ∀ r ∈ rowsOf (images rule p) (rule.length - 1), Row p (rule.length - 1) r := fun r hr => by
  obtain ⟨il, io⟩ := images_ok u h2
  obtain ⟨j, hj, e⟩ := List.mem_map.mp hr
  rw [← e]
  refine ⟨by rw [List.length_map, il], fun a ha => ?_⟩
  obtain ⟨im, him, ea⟩ := List.mem_map.mp ha
  obtain ⟨i, hi⟩ := List.getElem?_of_mem him
  rw [← ea]
  exact (io i im hi).1.at u.pr.pos j
/-- the kernel: what is its own power -/
theorem ker_iff (u : Ru p rule) (h2 : 2 ≤ rule.length) {v : Poly (Zp p)} (hv : Lt v (rule.length - 1)) :
    (∀ r ∈ rowsOf (images rule p) (rule.length - 1), dot (rule.length - 1) (tp p r) v = 0) ↔ Dv (tp p rule) (v ^ p.toNat - v) := by
  obtain ⟨il, io⟩ := images_ok u h2
  generalize hn : rule.length - 1 = n at *
  let L := sm (fun i => C (v.c i) * tp p ((images rule p).getD i [])) n
  have get : ∀ i, i < n → (images rule p)[i]? = some ((images rule p).getD i []) := fun i hi => by
    rw [List.getD_eq_getElem?_getD, List.getElem?_eq_getElem (by omega)]; rfl
  have Lc : ∀ j, L.c j = sm (fun i => v.c i * Zp.mk p (((images rule p).getD i []).getD j 0)) n := fun j => by
    rw [sm_c]
    exact sm_congr n fun i hi => by rw [c_Cmul, tp_c]
  have Llt : Lt L n := fun j hj => by
    rw [Lc]
    exact sm_zero _ n fun i hi => by
      rw [← tp_c, (io i _ (get i hi)).1.lt j hj]; grind
  have Ldv : Dv (tp p rule) (L - (v ^ p.toNat - v)) := by
    have e1 : v ^ p.toNat = sm (fun i => C (v.c i) * X ^ (p.toNat * i)) n := by
      have t : (sm (fun i => C (v.c i) * X ^ i) n) ^ p.toNat = sm (fun i => (C (v.c i) * X ^ i) ^ p.toNat) n := sm_pw u.pr.charP u.pr.row (by have := u.pr.gt; omega) _ n
      rw [sm_poly hv] at t
      rw [t]
      refine sm_congr n fun i _ => ?_
      rw [mul_pw, ← C_pow, u.pr.fermat, pw_pw, Nat.mul_comm]
    have e2 : v ^ p.toNat - v = sm (fun i => C (v.c i) * X ^ (p.toNat * i) + (-1) * (C (v.c i) * X ^ i)) n := by
      rw [sm_add, sm_mul, sm_poly hv, ← e1]; grind
    rw [e2]
    refine sm_dv n fun i hi => ?_
    obtain ⟨k, ek⟩ := (io i _ (get i hi)).2
    exact ⟨C (v.c i) * k, by grind⟩
  have mem : (∀ r ∈ rowsOf (images rule p) n, dot n (tp p r) v = 0) ↔ ∀ j, j < n → L.c j = 0 := by
    have d : ∀ j, dot n (tp p ((images rule p).map fun im => im.getD j 0)) v = L.c j := fun j => by
      rw [Lc, dot]
      refine sm_congr n fun i hi => ?_
      rw [tp_c, List.getD_eq_getElem?_getD, List.getElem?_map, get i hi]
      show Zp.mk p (((images rule p).getD i []).getD j 0) * v.c i = _
      grind
    constructor
    · intro h j hj
      rw [← d j]
      exact h _ (List.mem_map.mpr ⟨j, List.mem_range.mpr hj, rfl⟩)
    · intro h r hr
      obtain ⟨j, hj, e⟩ := List.mem_map.mp hr
      rw [← e, d j]
      exact h j (List.mem_range.mp hj)
  rw [mem]
  constructor
  · intro h
    have z : L = 0 := ext fun j => by
      rw [c_zero]
      by_cases hj : j < n
      · exact h j hj
      · exact Llt j (by omega)
    rw [z] at Ldv
    obtain ⟨k, ek⟩ := Ldv
    exact ⟨-k, by grind⟩
  · intro h j _
    have z : L = 0 := u.dv0 (by
      obtain ⟨k, ek⟩ := Ldv
      obtain ⟨l, el⟩ := h
      exact ⟨k + l, by grind⟩) (by rw [hn]; exact Llt)
    rw [z, c_zero]
theorem one_ker (u : Ru p rule) (h2 : 2 ≤ rule.length) : Lt (1 : Poly (Zp p)) (rule.length - 1) ∧ Dv (tp p rule) ((1 : Poly (Zp p)) ^ p.toNat - 1) :=
  ⟨fun i hi => by rw [c_one, if_neg (by omega)], by rw [one_pw]; exact ⟨0, by grind⟩⟩
theorem still_ok (u : Ru p rule) (h2 : 2 ≤ rule.length) : IdleOk p (rule.length - 1) (rowsOf (images rule p) (rule.length - 1)) (idleOf (rowsOf (images rule p) (rule.length - 1)) (rule.length - 1) p) := idle_ok u.pr (rows_ok u h2)
theorem ne1 (h : PR p) : (1 : Poly (Zp p)) ≠ 0 := fun e => by
  have : (1 : Poly (Zp p)).c 0 = (0 : Poly (Zp p)).c 0 := by rw [e]
  rw [c_one, if_pos rfl, c_zero] at this
  exact h.fld.ne this
/-- one alone stands still: the rests -/
theorem still_one (u : Ru p rule) (h2 : 2 ≤ rule.length) (h1 : (stillOf rule p).length = 1) (h : Poly (Zp p)) (hd : Dv (tp p rule) (h ^ p.toNat - h)) : ∃ c, Dv (tp p rule) (h - C c) := by
  have I := still_ok u h2
  rw [stillOf, List.length_map] at h1
  obtain ⟨r, hr⟩ : ∃ r, idleOf (rowsOf (images rule p) (rule.length - 1)) (rule.length - 1) p = [r] := by
    match hh : idleOf (rowsOf (images rule p) (rule.length - 1)) (rule.length - 1) p, h1 with
    | [r], _ => exact ⟨r, rfl⟩
  rw [hr] at I
  have T : SubS fun a : Poly (Zp p) => ∃ c, a = C c * tp p r := {
    z := ⟨0, by rw [C_zero]; grind⟩
    add := fun a b ⟨c, ec⟩ ⟨d, ed⟩ => ⟨c + d, by rw [C_add, ec, ed]; grind⟩
    sc := fun w a ⟨c, ec⟩ => ⟨w * c, by rw [C_mul, ec]; grind⟩ }
  have Tr : ∀ r' ∈ [r], ∃ c, tp p r' = C c * tp p r := fun r' hr' => ⟨1, by rw [List.mem_singleton.mp hr', C_one]; grind⟩
  obtain ⟨o1, o2⟩ := one_ker u h2
  obtain ⟨c1, e1⟩ := I.all 1 o1 ((ker_iff u h2 o1).mpr o2) _ T Tr
  have hl : 0 < rule.length := by omega
  obtain ⟨N, hN⟩ := h.ex_lt
  obtain ⟨k, v, ev, lv⟩ := part_ex (g := tp p rule) (n := rule.length - 1) ((tp_lt rule).mono (by omega)) (last_inv u.pr u.cn u.ne).1 N h hN
  have dv : Dv (tp p rule) (v ^ p.toNat - v) := by
    have hv : Dv (tp p rule) (h - v) := ⟨k, by grind⟩
    obtain ⟨a, ea⟩ := hv.pow p.toNat
    obtain ⟨b, eb⟩ := hd
    obtain ⟨c, ec⟩ := hv
    exact ⟨b - a + c, by grind⟩
  obtain ⟨c, ec⟩ := I.all v lv ((ker_iff u h2 lv).mpr dv) _ T Tr
  have c10 : c1 ≠ 0 := fun z => ne1 u.pr (by rw [e1, z, C_zero]; grind)
  obtain ⟨ci, hci⟩ := u.pr.fld.inv c1 c10
  have er : tp p r = C ci := by
    have : C ci * (C c1 * tp p r) = tp p r := by
      have : C c1 * C ci = 1 := by rw [← C_mul, hci, C_one]
      grind
    rw [← this, ← e1]; grind
  refine ⟨c * ci, k, ?_⟩
  rw [C_mul, ← er]; grind
/-- another number than one stands still: one of them is no rest -/
theorem still_more (u : Ru p rule) (h2 : 2 ≤ rule.length) (h1 : (stillOf rule p).length ≠ 1) : ∃ s ∈ stillOf rule p, 1 < s.length ∧ s.length < rule.length ∧ Cn p s ∧ Dv (tp p rule) (tp p s ^ p.toNat - tp p s) := by
  have I := still_ok u h2
  rw [stillOf, List.length_map] at h1
  have two : 2 ≤ (idleOf (rowsOf (images rule p) (rule.length - 1)) (rule.length - 1) p).length := by
    have ne0 : idleOf (rowsOf (images rule p) (rule.length - 1)) (rule.length - 1) p ≠ [] := fun e => by
      rw [e] at I
      obtain ⟨o1, o2⟩ := one_ker u h2
      have T : SubS fun a : Poly (Zp p) => a = 0 := {
        z := rfl
        add := fun a b ea eb => by rw [ea, eb]; grind
        sc := fun w a ea => by rw [ea]; grind }
      exact ne1 u.pr (I.all 1 o1 ((ker_iff u h2 o1).mpr o2) _ T fun r hr => (by simp at hr))
    have := List.length_pos_iff.mpr ne0
    omega
  obtain ⟨r, hr, k, hk, hk1⟩ := I.two two
  have R := I.row r hr
  refine ⟨cut r, List.mem_map.mpr ⟨r, hr, rfl⟩, ?_, ?_, cn_cut R.rg, ?_⟩
  · apply Nat.lt_of_not_le
    intro hle
    have z := tp_lt (p := p) (cut r) k (by omega)
    rw [tp_cut, tp_c, hk1, Zp.mk_one] at z
    exact u.pr.fld.ne z
  · have := cut_len r
    rw [R.len] at this
    omega
  · rw [tp_cut]
    exact (ker_iff u h2 R.lt).mp (I.ker r hr)

/-! ### level ones -/
structure Mo (p : Int) (l : List Int) : Prop where
  cn : Cn p l
  one : l.getLast? = some 1
theorem Mo.ne {l : List Int} (m : Mo p l) : l ≠ [] := fun e => by have := m.one; rw [e] at this; simp at this
theorem Mo.ru (h : PR p) {l : List Int} (m : Mo p l) : Ru p l := ⟨h, m.cn, m.ne⟩
theorem Mo.pos {l : List Int} (m : Mo p l) : 0 < l.length := List.length_pos_iff.mpr m.ne
theorem Mo.top {l : List Int} (m : Mo p l) : (tp p l).c (l.length - 1) = 1 := by
  have := m.one
  rw [List.getLast?_eq_getElem?] at this
  rw [tp_c, List.getD_eq_getElem?_getD, this]; exact Zp.mk_one
theorem Mo.mon {l : List Int} (m : Mo p l) : Mon (tp p l) (l.length - 1) := ⟨m.top, (tp_lt l).mono (by have := m.pos; omega)⟩
theorem Mo.of_top (h : PR p) {l : List Int} (c : Cn p l) (t : (tp p l).c (l.length - 1) = 1) : Mo p l := by
  refine ⟨c, ?_⟩
  by_cases e : l = []
  · rw [e, tp_nil, c_zero] at t; exact (h.fld.ne t.symm).elim
  · have hl := List.length_pos_iff.mpr e
    rw [tp_c, List.getD_eq_getElem?_getD, List.getElem?_eq_getElem (by omega)] at t
    have b := c.rg _ (List.getElem_mem (show l.length - 1 < l.length by omega))
    have := Zp.mk_inj b.1 b.2 (by omega) h.gt (t.trans Zp.mk_one.symm)
    rw [List.getLast?_eq_getElem?, List.getElem?_eq_getElem (by omega), this]
theorem Mo.len1 {l : List Int} (m : Mo p l) (h : l.length = 1) : l = [1] := by
  match l, h, m.one with
  | [a], _, e => simp at e; rw [e]
theorem mo_gcd (h : PR p) {one other : List Int} (c1 : Cn p one) (c2 : Cn p other) (ne : one ≠ [] ∨ other ≠ []) : Mo p (shared one other p).1 := by
  have G := gcd_ok h c1 c2
  refine ⟨G.c1, ?_⟩
  rcases G.lev with e | e
  · have d1 := G.dA
    have d2 := G.dB
    rw [e, tp_nil] at d1 d2
    rcases ne with ne | ne
    · obtain ⟨k, ek⟩ := d1
      exact (ne (cn_zero h c1 (by rw [ek]; grind))).elim
    · obtain ⟨k, ek⟩ := d2
      exact (ne (cn_zero h c2 (by rw [ek]; grind))).elim
  · exact e
theorem dv_len (h : PR p) {a b : List Int} (ma : Mo p a) (cb : Cn p b) (ne : b ≠ []) (d : Dv (tp p a) (tp p b)) : a.length ≤ b.length := by
  apply Nat.le_of_not_lt
  intro hlt
  have := (ma.ru h).dv0 d ((tp_lt b).mono (by omega))
  exact ne (cn_zero h cb this)
structure Exact (p : Int) (one part : List Int) : Prop where
  eq : tp p one = tp p (divided one part p).1 * tp p part
  cn : Cn p (divided one part p).1
  len : (divided one part p).1.length + part.length = one.length + 1
theorem exact_div (h : PR p) {one part : List Int} (c : Cn p one) (ne : one ≠ []) (m : Mo p part) (d : Dv (tp p part) (tp p one)) : Exact p one part := by
  have D := div_ok h m.cn m.ne c.rg
  have mp := m.pos
  have eq : tp p one = tp p (divided one part p).1 * tp p part := by
    have z : tp p (divided one part p).2 = 0 := (m.ru h).dv0 (by
      obtain ⟨k, ek⟩ := d
      have := D.eq
      exact ⟨k - tp p (divided one part p).1, by rw [show tp p (divided one part p).2 = tp p one - tp p (divided one part p).1 * tp p part by rw [D.eq]; grind, ek]; grind⟩) ((tp_lt _).mono (by have := D.lt; omega))
    rw [D.eq, z]; grind
  refine ⟨eq, D.c1, ?_⟩
  have qne : (divided one part p).1 ≠ [] := fun e => ne (cn_zero h c (by rw [eq, e, tp_nil]; grind))
  have ql := List.length_pos_iff.mpr qne
  have li := last_inv h D.c1 qne
  have t := top_mul (R := Zp p) (f := tp p (divided one part p).1) (g := tp p part) (a := (divided one part p).1.length - 1) (b := part.length - 1) ((tp_lt _).mono (by omega)) ((tp_lt _).mono (by omega))
  rw [← eq, m.top] at t
  have le1 : one.length ≤ (divided one part p).1.length + part.length - 1 := cn_len h c (by
    rw [eq]; exact Lt.mul (tp_lt _) (tp_lt _) (by omega))
  have le2 : (divided one part p).1.length + part.length - 1 ≤ one.length := by
    apply Nat.le_of_not_lt
    intro hlt
    have z := tp_lt (p := p) one ((divided one part p).1.length - 1 + (part.length - 1)) (by omega)
    rw [z] at t
    have l1 := li.1
    have : (tp p (divided one part p).1).c ((divided one part p).1.length - 1) = 0 := by rw [t]; grind
    rw [this] at l1
    exact h.fld.ne (by rw [← l1]; grind)
  omega
theorem exact_mo (h : PR p) {one part : List Int} (m1 : Mo p one) (m : Mo p part) (d : Dv (tp p part) (tp p one)) : Mo p (divided one part p).1 ∧ Dv (tp p (divided one part p).1) (tp p one) ∧ (divided one part p).1.length + part.length = one.length + 1 := by
  have E := exact_div h m1.cn m1.ne m d
  have mp := m.pos
  have le := dv_len h m m1.cn m1.ne d
  have t := top_mul (R := Zp p) (f := tp p (divided one part p).1) (g := tp p part) (a := (divided one part p).1.length - 1) (b := part.length - 1) ((tp_lt _).mono (by omega)) ((tp_lt _).mono (by omega))
  rw [← E.eq, m.top, show (divided one part p).1.length - 1 + (part.length - 1) = one.length - 1 by have := E.len; omega, m1.top] at t
  refine ⟨Mo.of_top h E.cn (by rw [t]; grind), ⟨tp p part, by rw [E.eq]; grind⟩, E.len⟩

/-! ### the product of all y less a rest -/
def mlI (p c r : Int) : List Int → List Int
  | [] => [c % p]
  | g :: gs => ((c - r * g) % p) :: mlI p g r gs
def prI (p : Int) : Nat → List Int
  | 0 => [1]
  | n + 1 => mlI p 0 n (prI p n)
theorem k_pr : PRIMES.all (fun p => prI p p.toNat == 0 :: (p - 1) :: (List.replicate (p.toNat - 2) 0 ++ [1])) = true := by decide +kernel
theorem cp_mlI (r : Int) (y : Poly (Zp p)) : ∀ (l : List Int) (c : Int), cp p (mlI p c r l) y = C (Zp.mk p c) + (y - C (Zp.mk p r)) * cp p l y
  | [], c => by rw [mlI, cp, cp, cp, Zp.mk_mod]; grind
  | g :: gs, c => by
    have := cp_mlI r y gs g
    rw [mlI, cp, cp, this, Zp.mk_mod, Zp.mk_sub, Zp.mk_mul, C_sub, C_mul]; grind
def prP (y : Poly (Zp p)) : Nat → Poly (Zp p)
  | 0 => 1
  | n + 1 => (y - C (Zp.mk p n)) * prP y n
theorem cp_prI (y : Poly (Zp p)) : ∀ n, cp p (prI p n) y = prP y n
  | 0 => by rw [prI, prP, cp, cp, Zp.mk_one, C_one]; grind
  | n + 1 => by rw [prI, cp_mlI, cp_prI y n, prP, Zp.mk_zero, C_zero]; grind
theorem cp_tail (y : Poly (Zp p)) : ∀ n, cp p (List.replicate n 0 ++ [1]) y = y ^ n
  | 0 => by rw [Semiring.pow_zero]; show cp p [1] y = 1; rw [cp, cp, Zp.mk_one, C_one]; grind
  | n + 1 => by rw [List.replicate_succ, List.cons_append, cp, cp_tail y n, Zp.mk_zero, C_zero, Semiring.pow_succ]; grind
theorem prP_all (h : PR p) (y : Poly (Zp p)) : prP y p.toNat = y ^ p.toNat - y := by
  have e := List.all_eq_true.mp k_pr p h
  rw [beq_iff_eq] at e
  have gt := h.gt
  rw [← cp_prI, e, cp, cp, cp_tail, mk_pm, Zp.mk_zero, C_zero, C_neg, C_one]
  rw [show y ^ p.toNat = y ^ (p.toNat - 2 + 1 + 1) by congr 1; omega, Semiring.pow_succ, Semiring.pow_succ]; grind

/-! ### halves -/
theorem hvIn_some {one still : List Int} {x : List Int × List Int} : ∀ rs : List Nat, hvIn one still p rs = some x → ∃ r : Nat, x.1 = (shared one (blended still [1] (p - r) p) p).1 ∧ x.2 = (divided one x.1 p).1 ∧ 1 < x.1.length ∧ x.1.length < one.length
  | [], h => by simp [hvIn] at h
  | r :: rs, h => by
    rw [hvIn] at h
    by_cases c : 1 < (shared one (blended still [1] (p - r) p) p).1.length ∧ (shared one (blended still [1] (p - r) p) p).1.length < one.length
    · simp only [if_pos c] at h
      have e := Option.some.inj h
      rw [← e]
      exact ⟨r, rfl, rfl, c.1, c.2⟩
    · simp only [if_neg c] at h
      exact hvIn_some rs h
theorem hvIn_none {one still : List Int} : ∀ rs : List Nat, hvIn one still p rs = none → ∀ r ∈ rs, ¬ (1 < (shared one (blended still [1] (p - r) p) p).1.length ∧ (shared one (blended still [1] (p - r) p) p).1.length < one.length)
  | [], _, r, hr => by simp at hr
  | r0 :: rs, h, r, hr => by
    rw [hvIn] at h
    by_cases c : 1 < (shared one (blended still [1] (p - r0) p) p).1.length ∧ (shared one (blended still [1] (p - r0) p) p).1.length < one.length
    · simp only [if_pos c] at h; cases h
    · simp only [if_neg c] at h
      rcases List.mem_cons.mp hr with q | q
      · rw [q]; exact c
      · exact hvIn_none rs h r q
theorem hvOut_some {one : List Int} {x : List Int × List Int} : ∀ ss : List (List Int), hvOut one p ss = some x → ∃ s ∈ ss, ∃ r : Nat, x.1 = (shared one (blended s [1] (p - r) p) p).1 ∧ x.2 = (divided one x.1 p).1 ∧ 1 < x.1.length ∧ x.1.length < one.length
  | [], h => by simp [hvOut] at h
  | s :: ss, h => by
    rw [hvOut] at h
    by_cases c : 1 < s.length
    · simp only [if_pos c] at h
      cases e : hvIn one s p (List.range p.toNat) with
      | some y =>
        rw [e] at h
        have e2 : y = x := Option.some.inj h
        rw [e2] at e
        exact ⟨s, List.mem_cons_self, hvIn_some _ e⟩
      | none =>
        rw [e] at h
        obtain ⟨s', h', q⟩ := hvOut_some ss h
        exact ⟨s', List.mem_cons_of_mem _ h', q⟩
    · simp only [if_neg c] at h
      obtain ⟨s', h', q⟩ := hvOut_some ss h
      exact ⟨s', List.mem_cons_of_mem _ h', q⟩
theorem hvOut_none {one : List Int} : ∀ ss : List (List Int), hvOut one p ss = none → ∀ s ∈ ss, 1 < s.length → hvIn one s p (List.range p.toNat) = none
  | [], _, s, hs, _ => by simp at hs
  | s0 :: ss, h, s, hs, hl => by
    rw [hvOut] at h
    by_cases c : 1 < s0.length
    · simp only [if_pos c] at h
      cases e : hvIn one s0 p (List.range p.toNat) with
      | some y => rw [e] at h; cases h
      | none =>
        rw [e] at h
        rcases List.mem_cons.mp hs with q | q
        · rw [q]; exact e
        · exact hvOut_none ss h s q hl
    · simp only [if_neg c] at h
      rcases List.mem_cons.mp hs with q | q
      · rw [q] at hl; exact (c hl).elim
      · exact hvOut_none ss h s q hl
structure Halves (p : Int) (one a b : List Int) : Prop where
  ma : Mo p a
  mb : Mo p b
  da : Dv (tp p a) (tp p one)
  db : Dv (tp p b) (tp p one)
  la : 2 ≤ a.length
  lb : 2 ≤ b.length
  len : a.length + b.length = one.length + 1
theorem halves_of (h : PR p) {one part : List Int} (m : Mo p one) (mp : Mo p part) (d : Dv (tp p part) (tp p one)) (l1 : 1 < part.length) (l2 : part.length < one.length) : Halves p one part (divided one part p).1 := by
  obtain ⟨a, b, c⟩ := exact_mo h m mp d
  exact ⟨mp, a, d, b, l1, by omega, by omega⟩
theorem halved_some (h : PR p) {one : List Int} (m : Mo p one) {x : List Int × List Int} (e : halved one p = some x) : Halves p one x.1 x.2 := by
  obtain ⟨s, _, r, e1, e2, l1, l2⟩ := hvOut_some _ e
  have cb := cn_blended (p := p) h.pos s [1] (p - r)
  rw [e2]
  refine halves_of h m ?_ ?_ l1 l2
  · rw [e1]; exact mo_gcd h m.cn cb (.inl m.ne)
  · rw [e1]; exact (gcd_ok h m.cn cb).dA
theorem halved_ex (h : PR p) {one : List Int} (m : Mo p one) (h2 : 2 ≤ one.length) (h1 : (stillOf one p).length ≠ 1) : halved one p ≠ none := fun e => by
  obtain ⟨s, hs, l1, l2, cs, ds⟩ := still_more (m.ru h) h2 h1
  have hn := hvIn_none _ (hvOut_none _ e s hs l1)
  have inv : ∀ r : Nat, (r : Int) < p → ∃ w, Dv (tp p one) (w * (tp p s - C (Zp.mk p r)) - 1) := fun r hr => by
    have cb := cn_blended (p := p) h.pos s [1] (p - r)
    have tb : tp p (blended s [1] (p - r) p) = tp p s - C (Zp.mk p r) := by
      rw [tp_blended, tp_cons, tp_nil, Zp.mk_one, C_one, Zp.mk_sub, Zp.mk_self, C_sub, C_zero]; grind
    have bne : blended s [1] (p - r) p ≠ [] := fun z => by
      rw [z, tp_nil] at tb
      have t : (tp p s - C (Zp.mk p r)).c (s.length - 1) = 0 := by rw [← tb, c_zero]
      rw [c_sub, c_C, if_neg (by omega)] at t
      have li := (last_inv h cs (by intro q; rw [q] at l1; simp at l1)).1
      have : (tp p s).c (s.length - 1) = 0 := by grind
      rw [this] at li
      exact h.fld.ne (by rw [← li]; grind)
    have G := gcd_ok h m.cn cb
    have mg := mo_gcd h m.cn cb (.inl m.ne)
    have no := hn r (List.mem_range.mpr (by omega))
    have lb := len_blended (p := p) s [1] (p - r)
    simp only [List.length_cons, List.length_nil] at lb
    have le := dv_len h mg cb bne G.dB
    have pos := mg.pos
    have e1 := mg.len1 (by omega)
    have eq := G.eq
    rw [e1, tp_cons, tp_nil, Zp.mk_one, C_one, tb] at eq
    exact ⟨tp p (shared one (blended s [1] (p - r) p) p).2.2, -tp p (shared one (blended s [1] (p - r) p) p).2.1, by grind⟩
  have all : ∀ n : Nat, (n : Int) ≤ p → ∃ w, Dv (tp p one) (w * prP (tp p s) n - 1) := by
    intro n
    induction n with
    | zero => exact fun _ => ⟨1, 0, by rw [prP]; grind⟩
    | succ n ih =>
      intro hle
      obtain ⟨w, k, ek⟩ := ih (by omega)
      obtain ⟨w2, k2, ek2⟩ := inv n (by omega)
      refine ⟨w * w2, k + w * prP (tp p s) n * k2, ?_⟩
      rw [prP]; grind
  obtain ⟨w, k, ek⟩ := all p.toNat (by rw [h.cast]; exact Int.le_refl p)
  rw [prP_all h] at ek
  obtain ⟨k2, ek2⟩ := ds
  have : (1 : Poly (Zp p)) = 0 := (m.ru h).dv0 ⟨w * k2 - k, by grind⟩ (fun i hi => by rw [c_one, if_neg (by omega)])
  exact ne1 h this
/-! ### pieces -/
def ms (line : List (List Int)) : Nat := (line.map fun x => 2 * x.length - 3).sum
structure PcOk (p : Int) (one : List Int) (B : Nat) (x : List Int) : Prop where
  mo : Mo p x
  dv : Dv (tp p x) (tp p one)
  lo : 2 ≤ x.length
  hi : x.length ≤ B
theorem pc_next (h : PR p) {one part : List Int} {B : Nat} (o : PcOk p one B part) {b : List Int × List Int} (e : (if 2 < part.length then halved part p else none) = some b) : PcOk p one B b.1 ∧ PcOk p one B b.2 ∧ b.1.length + b.2.length = part.length + 1 ∧ 2 < part.length := by
  split at e
  · rename_i hl
    have H := halved_some h o.mo e
    have := o.hi
    have := H.la
    have := H.lb
    have := H.len
    exact ⟨⟨H.ma, H.da.trans o.dv, H.la, by omega⟩, ⟨H.mb, H.db.trans o.dv, H.lb, by omega⟩, H.len, hl⟩
  · cases e
theorem pcL_ok (h : PR p) {one : List Int} {B : Nat} : ∀ (k : Nat) (line found : List (List Int)), ms line ≤ k → (∀ x ∈ line, PcOk p one B x) → (∀ x ∈ found, PcOk p one B x) → (found ≠ [] ∨ line ≠ []) →
    (∀ x ∈ pcL p k line found, PcOk p one B x) ∧ pcL p k line found ≠ []
  | 0, line, found, hm, hl, hf, hne => by
    rw [pcL]
    refine ⟨hf, ?_⟩
    rcases hne with q | q
    · exact q
    · match line, q with
      | x :: r, _ =>
        have := (hl x List.mem_cons_self).lo
        simp only [ms, List.map_cons, List.sum_cons] at hm
        omega
  | k + 1, [], found, hm, hl, hf, hne => by
    rw [pcL]
    exact ⟨hf, hne.resolve_right fun q => q rfl⟩
  | k + 1, part :: rest, found, hm, hl, hf, hne => by
    have o := hl part List.mem_cons_self
    have lo := o.lo
    simp only [ms, List.map_cons, List.sum_cons] at hm
    rw [pcL]
    cases e : (if 2 < part.length then halved part p else none) with
    | none =>
      simp only []
      refine pcL_ok h k rest _ (by simp only [ms]; omega) (fun x hx => hl x (List.mem_cons_of_mem _ hx)) (fun x hx => ?_) (.inl (by simp))
      rcases List.mem_append.mp hx with q | q
      · exact hf x q
      · rw [List.mem_singleton.mp q]; exact o
    | some b =>
      simp only []
      obtain ⟨o1, o2, len, hl2⟩ := pc_next h o e
      have := o1.lo
      have := o2.lo
      refine pcL_ok h k _ _ (by simp only [ms, List.map_cons, List.sum_cons]; omega) (fun x hx => ?_) hf (.inr (by simp))
      rcases List.mem_cons.mp hx with q | q
      · rw [q]; exact o2
      · rcases List.mem_cons.mp q with q | q
        · rw [q]; exact o1
        · exact hl x (List.mem_cons_of_mem _ q)
theorem pieces_ok (h : PR p) {one : List Int} (m : Mo p one) (h2 : 2 ≤ one.length) : (∀ x ∈ piecesOf one p, PcOk p one one.length x) ∧ piecesOf one p ≠ [] :=
  pcL_ok h _ _ _ (by simp only [ms, List.map_cons, List.sum_cons, List.map_nil, List.sum_nil]; omega) (fun x hx => by rw [List.mem_singleton.mp hx]; exact ⟨m, Dv.refl _, h2, Nat.le_refl _⟩) (fun x hx => (by simp at hx)) (.inr (by simp))
/-- where it parts, all pieces are lesser -/
theorem pieces_less (h : PR p) {one : List Int} (m : Mo p one) (h2 : 2 < one.length) (hh : halved one p ≠ none) : (∀ x ∈ piecesOf one p, PcOk p one (one.length - 1) x) ∧ piecesOf one p ≠ [] := by
  cases e : halved one p with
  | none => exact (hh e).elim
  | some b =>
    have H := halved_some h m e
    have := H.la
    have := H.lb
    have := H.len
    obtain ⟨k, hk⟩ : ∃ k, 2 * one.length = k + 1 := ⟨2 * one.length - 1, by omega⟩
    have e2 : piecesOf one p = pcL p k [b.2, b.1] [] := by
      rw [piecesOf, hk, pcL]
      simp only [if_pos h2, e]
    rw [e2]
    refine pcL_ok h k _ _ (by simp only [ms, List.map_cons, List.sum_cons, List.map_nil, List.sum_nil]; omega) (fun x hx => ?_) (fun x hx => (by simp at hx)) (.inr (by simp))
    rcases List.mem_cons.mp hx with q | q
    · rw [q]; exact ⟨H.mb, H.db, H.lb, by omega⟩
    · rw [List.mem_singleton.mp q]; exact ⟨H.ma, H.da, H.la, by omega⟩
end
end Rf
end
section
set_option maxRecDepth 100000
namespace Rf
open Lean.Grind
open Poly
local instance (priority := low) instNC8 {R : Type} [CommRing R] : NatCast R := Semiring.natCast
section
variable {p : Int}
/-! ### the thinned one -/
def thR (q : Nat) : Nat → List Int → List Int
  | _, [] => []
  | 0, a :: l => a :: thR q (q - 1) l
  | r + 1, _ :: l => thR q r l
theorem thR_eq {q : Nat} (hq : 0 < q) (hp : (q : Int) = p) : ∀ (l : List Int) (j r : Nat), r < q → (j + r) % q = 0 → ((l.zipIdx j).filter fun x => decide ((x.2 : Int) % p = 0)).map (·.1) = thR q r l
  | [], j, r, _, _ => by cases r <;> rfl
  | a :: l, j, 0, hr, h => by
    have e : ((j : Int) % p = 0) := by
      rw [Nat.add_zero] at h
      rw [← hp, ← Int.natCast_emod, h]; rfl
    rw [List.zipIdx_cons, List.filter_cons, if_pos (by simpa using e), List.map_cons, thR, thR_eq hq hp l (j + 1) (q - 1) (by omega) (by rw [show j + 1 + (q - 1) = j + q by omega, Nat.add_mod_right]; exact h)]
  | a :: l, j, r + 1, hr, h => by
    have e : ¬ ((j : Int) % p = 0) := by
      rw [← hp]
      intro z
      have z2 : j % q = 0 := by
        rw [← Int.natCast_emod] at z
        omega
      have : (j + (r + 1)) % q = (r + 1) % q := by rw [Nat.add_mod, z2, Nat.zero_add, Nat.mod_mod]
      rw [this, Nat.mod_eq_of_lt hr] at h
      omega
    rw [List.zipIdx_cons, List.filter_cons, if_neg (by simpa using e), thR, thR_eq hq hp l (j + 1) r (by omega) (by rw [show j + 1 + r = j + (r + 1) by omega]; exact h)]
theorem thinned_eq (h : PR p) (l : List Int) : thinned l p = thR p.toNat 0 l := by
  have := h.gt
  rw [thinned, ← thR_eq (by omega) h.cast l 0 0 (by omega) (by simp)]
theorem thR_mem (q : Nat) : ∀ (l : List Int) (r : Nat), ∀ a ∈ thR q r l, a ∈ l
  | [], r, a, h => by cases r <;> simp [thR] at h
  | x :: l, 0, a, h => by
    rw [thR] at h
    rcases List.mem_cons.mp h with e | e
    · rw [e]; exact List.mem_cons_self
    · exact List.mem_cons_of_mem _ (thR_mem q l _ a e)
  | x :: l, r + 1, a, h => by rw [thR] at h; exact List.mem_cons_of_mem _ (thR_mem q l _ a h)
theorem thR_len (q : Nat) : ∀ (l : List Int) (r : Nat), (thR q r l).length ≤ l.length
  | [], r => by cases r <;> simp [thR]
  | x :: l, 0 => by rw [thR, List.length_cons, List.length_cons]; have := thR_len q l (q - 1); omega
  | x :: l, r + 1 => by rw [thR, List.length_cons]; have := thR_len q l r; omega
/-- rests stand at the multiples of q alone: j is the place of the first -/
def Zs (q : Nat) (j : Nat) (l : List Int) : Prop := ∀ i a, l[i]? = some a → (j + i) % q ≠ 0 → a = 0
theorem Zs.tail {q j : Nat} {a : Int} {l : List Int} (h : Zs q j (a :: l)) : Zs q (j + 1) l := fun i b hb hz => h (i + 1) b (by rw [List.getElem?_cons_succ]; exact hb) (by rw [show j + (i + 1) = j + 1 + i by omega]; exact hz)
theorem thR_tp {q : Nat} (hq : 0 < q) : ∀ (l : List Int) (j r : Nat), r < q → (j + r) % q = 0 → Zs q j l → tp p l = X ^ r * cp p (thR q r l) (X ^ q)
  | [], j, r, _, _, _ => by cases r <;> (rw [thR, cp, tp_nil]; grind)
  | a :: l, j, 0, hr, h, z => by
    rw [thR, tp_cons, cp, thR_tp hq l (j + 1) (q - 1) (by omega) (by rw [show j + 1 + (q - 1) = j + q by omega, Nat.add_mod_right]; exact h) z.tail, Semiring.pow_zero]
    rw [show (X : Poly (Zp p)) ^ q = X ^ (q - 1 + 1) by congr 1; omega, Semiring.pow_succ]; grind
  | a :: l, j, r + 1, hr, h, z => by
    have a0 : a = 0 := z 0 a rfl (by
      rw [Nat.add_zero]
      intro z2
      have : (j + (r + 1)) % q = (r + 1) % q := by rw [Nat.add_mod, z2, Nat.zero_add, Nat.mod_mod]
      rw [this, Nat.mod_eq_of_lt hr] at h
      omega)
    rw [thR, tp_cons, thR_tp hq l (j + 1) r (by omega) (by rw [show j + 1 + r = j + (r + 1) by omega]; exact h) z.tail, a0, Zp.mk_zero, C_zero, Semiring.pow_succ]; grind
theorem thR_last {q : Nat} (hq : 0 < q) : ∀ (l : List Int) (j r : Nat) (d : Int), r < q → (j + r) % q = 0 → Zs q j l → d ≠ 0 → l.getLast? = some d → (thR q r l).getLast? = some d
  | [], j, r, d, _, _, _, _, h => by simp at h
  | a :: l, j, 0, d, hr, h, z, hd, hl => by
    rw [thR]
    match l, hl with
    | [], hl => cases hq' : q - 1 <;> simpa [thR] using hl
    | b :: l, hl =>
      rw [List.getLast?_cons_cons] at hl
      have := thR_last hq (b :: l) (j + 1) (q - 1) d (by omega) (by rw [show j + 1 + (q - 1) = j + q by omega, Nat.add_mod_right]; exact h) z.tail hd hl
      cases e : thR q (q - 1) (b :: l) with
      | nil => rw [e] at this; simp at this
      | cons x y => rw [List.getLast?_cons_cons, ← e]; exact this
  | a :: l, j, r + 1, d, hr, h, z, hd, hl => by
    rw [thR]
    match l, hl with
    | [], hl =>
      have e : a = d := by simpa using hl
      have := z 0 a rfl (by
        rw [Nat.add_zero]
        intro z2
        have : (j + (r + 1)) % q = (r + 1) % q := by rw [Nat.add_mod, z2, Nat.zero_add, Nat.mod_mod]
        rw [this, Nat.mod_eq_of_lt hr] at h
        omega)
      exact (hd (by rw [← e, this])).elim
    | b :: l, hl =>
      rw [List.getLast?_cons_cons] at hl
      exact thR_last hq (b :: l) (j + 1) r d (by omega) (by rw [show j + 1 + r = j + (r + 1) by omega]; exact h) z.tail hd hl
theorem slope_zs (h : PR p) {one : List Int} (c : Cn p one) (e : sloped one p = []) : Zs p.toNat 0 one := fun i a ha hz => by
  have gt := h.gt
  rw [Nat.zero_add] at hz
  have t : (tp p (sloped one p)).c (i - 1) = 0 := by rw [e, tp_nil, c_zero]
  have i0 : i ≠ 0 := fun q => hz (by rw [q]; exact Nat.zero_mod _)
  rw [tp_sloped] at t
  have t2 : ((i - 1 + 1 : Nat) : Zp p) * (tp p one).c (i - 1 + 1) = 0 := t
  rw [show i - 1 + 1 = i by omega, tp_c, List.getD_eq_getElem?_getD, ha, ← Zp.mk_nat, ← Zp.mk_mul, ← Zp.mk_zero] at t2
  have d := Zp.dvd_of t2
  rw [Int.sub_zero] at d
  have b := c.rg a (List.mem_of_getElem? ha)
  -- i has something that times it is 1
  have i1 : 0 < (i : Int) % p := by
    have := Int.emod_nonneg (i : Int) (show p ≠ 0 by omega)
    have : (i : Int) % p ≠ 0 := fun q => hz (by
      have : ((i % p.toNat : Nat) : Int) = 0 := by rw [Int.natCast_emod, h.cast]; exact q
      omega)
    omega
  have inv := h.inv i1 (Int.emod_lt_of_pos _ h.pos)
  have z : Zp.mk p a = 0 := by
    have e1 : Zp.mk p (turnedOver ((i : Int) % p) p) * Zp.mk p i = 1 := by
      rw [← Zp.mk_mod (i : Int), ← Zp.mk_mul, ← Zp.mk_mod, inv, Zp.mk_one]
    have e2 : Zp.mk p i * Zp.mk p a = 0 := t2.trans Zp.mk_zero
    have : Zp.mk p a = Zp.mk p (turnedOver ((i : Int) % p) p) * (Zp.mk p i * Zp.mk p a) := by grind
    rw [this, e2]; grind
  exact Zp.mk_inj b.1 b.2 (Int.le_refl 0) h.pos (z.trans Zp.mk_zero.symm)
theorem thinned_ok (h : PR p) {one : List Int} (m : Mo p one) (h2 : 2 ≤ one.length) (e : sloped one p = []) : Mo p (thinned one p) ∧ Dv (tp p (thinned one p)) (tp p one) ∧ 2 ≤ (thinned one p).length ∧ (thinned one p).length < one.length := by
  have gt := h.gt
  have Z := slope_zs h m.cn e
  rw [thinned_eq h]
  have la := thR_last (q := p.toNat) (by omega) one 0 0 1 (by omega) (by simp) Z (by decide) m.one
  refine ⟨⟨⟨fun a ha => m.cn.rg a (thR_mem _ _ _ a ha), by rw [la]; decide⟩, la⟩, ?_, ?_, ?_⟩
  · have t := thR_tp (p := p) (q := p.toNat) (by omega) one 0 0 (by omega) (by simp) Z
    rw [Semiring.pow_zero, ← cp_frob h, cp_X] at t
    refine ⟨tp p (thR p.toNat 0 one) ^ (p.toNat - 1), ?_⟩
    rw [t, ← Semiring.pow_succ, show p.toNat - 1 + 1 = p.toNat by omega]; grind
  · match one, h2, la, m, Z with
    | a :: b :: l, _, la, m, Z =>
      rw [thR, List.length_cons]
      have l2 := thR_last (q := p.toNat) (by omega) (b :: l) 1 (p.toNat - 1) 1 (by omega) (by rw [show 1 + (p.toNat - 1) = p.toNat by omega]; exact Nat.mod_self _) Z.tail (by decide) (by have := m.one; rw [List.getLast?_cons_cons] at this; exact this)
      have : thR p.toNat (p.toNat - 1) (b :: l) ≠ [] := fun q => by rw [q] at l2; simp at l2
      have := List.length_pos_iff.mpr this
      omega
  · match one, h2 with
    | a :: b :: l, _ =>
      rw [thR, show p.toNat - 1 = (p.toNat - 2) + 1 by omega, thR, List.length_cons, List.length_cons, List.length_cons]
      have := thR_len p.toNat l (p.toNat - 2)
      omega
/-! ### all parts -/
def wt (x : List Int × Int) : Nat := max 1 (2 * x.1.length - 3)
def mw (line : List (List Int × Int)) : Nat := (line.map wt).sum
structure LnOk (p : Int) (one : List Int) (B : Nat) (x : List Int) : Prop where
  mo : Mo p x
  dv : Dv (tp p x) (tp p one)
  hi : x.length ≤ B
theorem bput_mem {f : Bag} {k : List Int} {v : Int} : ∀ {e : List Int × Int}, e ∈ bput f k v → e ∈ f ∨ e.1 = k := by
  induction f with
  | nil => intro e h; rw [bput] at h; right; rw [List.mem_singleton.mp h]
  | cons a f ih =>
    intro e h
    rw [bput] at h
    split at h
    · rcases List.mem_cons.mp h with q | q
      · right; rw [q]
      · left; exact List.mem_cons_of_mem _ q
    · rcases List.mem_cons.mp h with q | q
      · left; rw [q]; exact List.mem_cons_self
      · rcases ih q with q | q
        · left; exact List.mem_cons_of_mem _ q
        · right; exact q
theorem bput_ne (f : Bag) (k : List Int) (v : Int) : bput f k v ≠ [] := by
  cases f with
  | nil => simp [bput]
  | cons a f => rw [bput]; split <;> simp
theorem bfold_ok {P : List Int → Prop} (times : Int) : ∀ (ps : List (List Int)) (f : Bag), (∀ x ∈ ps, P x) → (∀ e ∈ f, P e.1) → (∀ e ∈ ps.foldl (fun f piece => bput f piece (bget f piece + times)) f, P e.1) ∧ (f ≠ [] ∨ ps ≠ [] → ps.foldl (fun f piece => bput f piece (bget f piece + times)) f ≠ [])
  | [], f, _, hf => ⟨hf, fun q => q.resolve_right fun z => z rfl⟩
  | x :: ps, f, hp, hf => by
    rw [List.foldl_cons]
    obtain ⟨a, b⟩ := bfold_ok times ps (bput f x (bget f x + times)) (fun y hy => hp y (List.mem_cons_of_mem _ hy)) fun e he => by
      rcases bput_mem he with q | q
      · exact hf e q
      · rw [q]; exact hp x List.mem_cons_self
    exact ⟨a, fun _ => b (.inl (bput_ne _ _ _))⟩
/-- what one turn makes of its part -/
structure Next (p : Int) (one : List Int) (B : Nat) (part : List Int) (times : Int) : Prop where
  thin : 1 < part.length ∧ sloped part p = [] → LnOk p one (part.length - 1) (thinned part p) ∧ 2 ≤ (thinned part p).length
  tw : 1 < part.length → sloped part p ≠ [] → (shared part (sloped part p) p).1 ≠ [1] → LnOk p one (part.length - 1) (shared part (sloped part p) p).1 ∧ LnOk p one (part.length - 1) (divided part (shared part (sloped part p) p).1 p).1 ∧
    2 ≤ (shared part (sloped part p) p).1.length ∧ 2 ≤ (divided part (shared part (sloped part p) p).1 p).1.length ∧ (shared part (sloped part p) p).1.length + (divided part (shared part (sloped part p) p).1 p).1.length = part.length + 1
  pcs : 1 < part.length → (∀ x ∈ piecesOf part p, PcOk p one part.length x) ∧ piecesOf part p ≠ []
theorem ap_next (h : PR p) {one part : List Int} {B : Nat} (times : Int) (o : LnOk p one B part) : Next p one B part times where
  thin := fun ⟨h2, e⟩ => by
    obtain ⟨a, b, c, d⟩ := thinned_ok h o.mo h2 e
    exact ⟨⟨a, b.trans o.dv, by omega⟩, c⟩
  tw := fun h2 e ne => by
    have cs := cn_sloped (p := p) h.pos part
    have G := gcd_ok h o.mo.cn cs
    have mg := mo_gcd h o.mo.cn cs (.inl o.mo.ne)
    have le := dv_len h mg cs e G.dB
    have sl := sloped_len (p := p) part
    obtain ⟨x, y, z⟩ := exact_mo h o.mo mg G.dA
    have pos := mg.pos
    have n1 : (shared part (sloped part p) p).1.length ≠ 1 := fun q => ne (mg.len1 q)
    exact ⟨⟨mg, G.dA.trans o.dv, by omega⟩, ⟨x, y.trans o.dv, by omega⟩, by omega, by omega, by omega⟩
  pcs := fun h2 => by
    obtain ⟨a, b⟩ := pieces_ok h o.mo h2
    exact ⟨fun x hx => ⟨(a x hx).mo, (a x hx).dv.trans o.dv, (a x hx).lo, (a x hx).hi⟩, b⟩
structure BagOk (p : Int) (one : List Int) (B : Nat) (f : Bag) : Prop where
  all : ∀ e ∈ f, PcOk p one B e.1
theorem LnOk.mono {one x : List Int} {B B' : Nat} (o : LnOk p one B x) (h : B ≤ B') : LnOk p one B' x := ⟨o.mo, o.dv, Nat.le_trans o.hi h⟩
theorem PcOk.mono {one x : List Int} {B B' : Nat} (o : PcOk p one B x) (h : B ≤ B') : PcOk p one B' x := ⟨o.mo, o.dv, o.lo, Nat.le_trans o.hi h⟩
theorem apL_ok (h : PR p) {one : List Int} {B : Nat} : ∀ (k : Nat) (line : List (List Int × Int)) (found : Bag), mw line ≤ k → (∀ x ∈ line, LnOk p one B x.1) → BagOk p one B found → (found ≠ [] ∨ ∃ x ∈ line, 2 ≤ x.1.length) →
    BagOk p one B (apL p k line found) ∧ apL p k line found ≠ []
  | 0, line, found, hm, hl, hf, hne => by
    rw [apL]
    refine ⟨hf, ?_⟩
    rcases hne with q | ⟨x, hx, _⟩
    · exact q
    · match line, hx with
      | y :: r, _ =>
        simp only [mw, List.map_cons, List.sum_cons, wt] at hm
        omega
  | k + 1, [], found, hm, hl, hf, hne => by
    rw [apL]
    exact ⟨hf, hne.resolve_right fun ⟨x, hx, _⟩ => (by simp at hx)⟩
  | k + 1, (part, times) :: rest, found, hm, hl, hf, hne => by
    have o : LnOk p one B part := hl (part, times) List.mem_cons_self
    have N := ap_next h times o
    have hi := o.hi
    have hr : ∀ x ∈ rest, LnOk p one B x.1 := fun x hx => hl x (List.mem_cons_of_mem _ hx)
    simp only [mw, List.map_cons, List.sum_cons, wt] at hm
    rw [apL]
    by_cases c1 : 1 < part.length ∧ sloped part p = []
    · simp only [if_pos c1]
      obtain ⟨a, b⟩ := N.thin c1
      have := a.hi
      refine apL_ok h k _ _ (by simp only [mw, List.map_cons, List.sum_cons, wt]; omega) (fun x hx => ?_) hf (.inr ⟨_, List.mem_cons_self, b⟩)
      rcases List.mem_cons.mp hx with q | q
      · rw [q]; exact a.mono (by omega)
      · exact hr x q
    · simp only [if_neg c1]
      by_cases c2 : 1 < part.length
      · simp only [if_pos c2]
        have c3 : sloped part p ≠ [] := fun q => c1 ⟨c2, q⟩
        by_cases c4 : (shared part (sloped part p) p).1 = [1]
        · simp only [if_pos c4]
          obtain ⟨a, b⟩ := N.pcs c2
          obtain ⟨x, y⟩ := bfold_ok (P := PcOk p one B) times (piecesOf part p) found (fun x hx => (a x hx).mono (by omega)) hf.all
          exact apL_ok h k _ _ (by simp only [mw]; omega) hr ⟨x⟩ (.inl (y (.inr b)))
        · simp only [if_neg c4]
          obtain ⟨a, b, l1, l2, l3⟩ := N.tw c2 c3 c4
          refine apL_ok h k _ _ (by simp only [mw, List.map_cons, List.sum_cons, wt]; omega) (fun x hx => ?_) hf (.inr ⟨_, List.mem_cons_self, l2⟩)
          rcases List.mem_cons.mp hx with q | q
          · rw [q]; exact b.mono (by omega)
          · rcases List.mem_cons.mp q with q | q
            · rw [q]; exact a.mono (by omega)
            · exact hr x q
      · simp only [if_neg c2]
        refine apL_ok h k _ _ (by simp only [mw]; omega) hr hf ?_
        rcases hne with q | ⟨x, hx, q⟩
        · exact .inl q
        · rcases List.mem_cons.mp hx with z | z
          · rw [z] at q; exact (c2 q).elim
          · exact .inr ⟨x, z, q⟩
theorem sq_of (h : PR p) {one : List Int} (m : Mo p one) (e : (shared one (sloped one p) p).1 = [1]) : ∃ u v, u * tp p one + v * der (tp p one) = 1 := by
  have G := gcd_ok h m.cn (cn_sloped (p := p) h.pos one)
  have eq := G.eq
  rw [e, tp_cons, tp_nil, Zp.mk_one, C_one, tp_sloped] at eq
  exact ⟨_, _, by rw [← eq]; grind⟩
theorem good_of (h : PR p) {one : List Int} (m : Mo p one) (h2 : 2 ≤ one.length) (e : (shared one (sloped one p) p).1 = [1]) (s : (stillOf one p).length = 1) : Good (tp p one) (one.length - 1) p.toNat := by
  have gt := h.gt
  have fix := still_one (m.ru h) h2 s
  exact ⟨h.fld, m.mon, by omega, by omega, h.char, h.row, h.fermat, prime_of h.fld m.mon (by omega) (by omega) (sq_of h m e) fix, fix⟩
theorem good_line (h : PR p) {one : List Int} (m : Mo p one) (h2 : one.length = 2) : Good (tp p one) 1 p.toNat := by
  have gt := h.gt
  have ho : Mon (tp p one) 1 := by have := m.mon; rw [h2] at this; exact this
  -- any is a rest by it
  have cst : ∀ a : Poly (Zp p), ∃ c, Dv (tp p one) (a - C c) := fun a => by
    obtain ⟨N, hN⟩ := a.ex_lt
    obtain ⟨k, r, e, l⟩ := part_ex (b := 1) ho.lt (by rw [ho.one]; grind) N a hN
    refine ⟨r.c 0, k, ?_⟩
    have : r = C (r.c 0) := ext fun n => by
      rw [c_C]
      split
      · rename_i q; rw [q]
      · exact l n (by omega)
    rw [e, ← this]; grind
  have nor : ∀ c : Zp p, Dv (tp p one) (C c) → c = 0 := fun c hd => by
    have := ho.dv_lt h.fld.ne hd (fun i hi => by rw [c_C, if_neg (by omega)])
    exact C_inj (this.trans C_zero.symm)
  refine ⟨h.fld, ho, by omega, by omega, h.char, h.row, h.fermat, fun a b hab => ?_, fun g _ => cst g⟩
  obtain ⟨ca, ha⟩ := cst a
  obtain ⟨cb, hb⟩ := cst b
  have : Dv (tp p one) (C (ca * cb)) := by
    obtain ⟨k, ek⟩ := Dv.mul2 ha hb
    obtain ⟨l, el⟩ := hab
    rw [C_mul]
    exact ⟨l - k, by grind⟩
  rcases h.fld.dom _ _ (nor _ this) with z | z
  · left
    rw [z, C_zero] at ha
    obtain ⟨k, ek⟩ := ha
    exact ⟨k, by grind⟩
  · right
    rw [z, C_zero] at hb
    obtain ⟨k, ek⟩ := hb
    exact ⟨k, by grind⟩
theorem stands_good (h : PR p) {one : List Int} (m : Mo p one) (h2 : 2 ≤ one.length) (s : standsWhole one p = true) : Good (tp p one) (one.length - 1) p.toNat := by
  rw [standsWhole] at s
  by_cases c1 : one.length = 2
  · have := good_line h m c1
    rw [c1]; exact this
  · rw [if_neg c1] at s
    split at s
    · cases s
    · split at s
      · cases s
      · rename_i c2 c3
        exact good_of h m h2 (Classical.not_not.mp c3) (_root_.of_decide_eq_true s)
/-- where it does not stand whole: all its parts are lesser -/
theorem parts_less (h : PR p) {one : List Int} (m : Mo p one) (h2 : 2 ≤ one.length) (s : standsWhole one p = false) : BagOk p one (one.length - 1) (allParts one p) ∧ allParts one p ≠ [] := by
  have c1 : one.length ≠ 2 := fun q => by rw [standsWhole, if_pos q] at s; cases s
  obtain ⟨k, hk⟩ : ∃ k, 2 * one.length = k + 1 := ⟨2 * one.length - 1, by omega⟩
  rw [allParts, hk, apL]
  have o : LnOk p one one.length one := ⟨m, Dv.refl _, Nat.le_refl _⟩
  have N := ap_next h 1 o
  by_cases d1 : 1 < one.length ∧ sloped one p = []
  · simp only [if_pos d1]
    obtain ⟨a, b⟩ := N.thin d1
    have := a.hi
    refine apL_ok h k _ _ (by simp only [mw, List.map_cons, List.sum_cons, wt, List.map_nil, List.sum_nil]; omega) (fun x hx => ?_) ⟨fun e he => (by simp at he)⟩ (.inr ⟨_, List.mem_cons_self, b⟩)
    rw [List.mem_singleton.mp hx]; exact a
  · simp only [if_neg d1, if_pos (show 1 < one.length by omega)]
    have d3 : sloped one p ≠ [] := fun q => d1 ⟨by omega, q⟩
    by_cases d4 : (shared one (sloped one p) p).1 = [1]
    · simp only [if_pos d4]
      have hs : (stillOf one p).length ≠ 1 := fun q => by
        have G := good_of h m h2 d4 q
        rw [standsWhole, if_neg c1] at s
        by_cases r : (List.range p.toNat).any (fun r => decide (worthAt one (r : Int) p = 0)) = true
        · obtain ⟨x, hx, ex⟩ := List.any_eq_true.mp r
          have wd := worth_dv (p := p) (_root_.of_decide_eq_true ex)
          obtain ⟨g, eg⟩ := wd
          have hl : Lt (X - C (Zp.mk p (x : Int)) : Poly (Zp p)) 2 := fun n hn => by
            rw [c_sub, c_C, if_neg (by omega)]
            show (if n = 1 then (1 : Zp p) else 0) - 0 = 0
            rw [if_neg (by omega)]; grind
          have ne : (X - C (Zp.mk p (x : Int)) : Poly (Zp p)) ≠ 0 := fun z => by
            have t : (X - C (Zp.mk p (x : Int)) : Poly (Zp p)).c 1 = 0 := by rw [z, c_zero]
            rw [c_sub, c_C, if_neg (by omega)] at t
            have t2 : (if 1 = 1 then (1 : Zp p) else 0) - 0 = 0 := t
            rw [if_pos rfl] at t2
            exact h.fld.ne (by rw [← t2]; grind)
          rcases G.prime g (X - C (Zp.mk p (x : Int))) (by rw [← eg]; exact Dv.refl _) with z | z
          · -- the cofactor is too small
            have lg : Lt g (one.length - 1) := by
              have top : ∀ d, Lt g d → Lt g (one.length - 1) := by
                intro d
                induction d with
                | zero => exact fun q => q.mono (Nat.zero_le _)
                | succ d ih =>
                  intro hg
                  by_cases hd : d + 1 ≤ one.length - 1
                  · exact hg.mono hd
                  · apply ih
                    intro i hi
                    by_cases hi2 : i = d
                    · subst hi2
                      have t := top_mul hg hl
                      rw [← eg, tp_lt one (i + 1) (by omega)] at t
                      have t1 : (X - C (Zp.mk p (x : Int)) : Poly (Zp p)).c 1 = 1 := by
                        rw [c_sub, c_C, if_neg (by omega)]
                        show (if 1 = 1 then (1 : Zp p) else 0) - 0 = 1
                        rw [if_pos rfl]; grind
                      rw [t1] at t
                      rw [show g.c i = g.c i * 1 by grind, ← t]
                    · exact hg i (by omega)
              obtain ⟨d, hd⟩ := g.ex_lt
              exact top d hd
            have g0 := G.m.dv_lt h.fld.ne z lg
            rw [g0] at eg
            exact m.ne (cn_zero h m.cn (by rw [eg]; grind))
          · exact ne (G.m.dv_lt h.fld.ne z (hl.mono (by omega)))
        · rw [if_neg r, if_neg (fun z => z d4), q] at s
          simp at s
      have hh := halved_ex h m h2 hs
      obtain ⟨a, b⟩ := pieces_less h m (by omega) hh
      obtain ⟨x, y⟩ := bfold_ok (P := PcOk p one (one.length - 1)) 1 (piecesOf one p) [] a (fun e he => (by simp at he))
      exact apL_ok h k _ _ (by simp only [mw, List.map_nil, List.sum_nil]; omega) (fun e he => (by simp at he)) ⟨x⟩ (.inl (y (.inr b)))
    · simp only [if_neg d4]
      obtain ⟨a, b, l1, l2, l3⟩ := N.tw (by omega) d3 d4
      refine apL_ok h k _ _ (by simp only [mw, List.map_cons, List.sum_cons, wt, List.map_nil, List.sum_nil]; omega) (fun x hx => ?_) ⟨fun e he => (by simp at he)⟩ (.inr ⟨_, List.mem_cons_self, l2⟩)
      rcases List.mem_cons.mp hx with q | q
      · rw [q]; exact b
      · rw [List.mem_singleton.mp q]; exact a
theorem insR_perm (a : List Int × Int) : ∀ t : Bag, (insR a t).Perm (a :: t)
  | [] => List.Perm.refl _
  | b :: t => by
    rw [insR]
    split
    · exact List.Perm.refl _
    · exact ((insR_perm a t).cons b).trans (List.Perm.swap a b t)
theorem inRank_perm : ∀ t : Bag, (inRank t).Perm t
  | [] => List.Perm.refl _
  | a :: t => (insR_perm a _).trans ((inRank_perm t).cons a)
theorem head_part (h : PR p) {one : List Int} (m : Mo p one) (h2 : 2 ≤ one.length) (s : standsWhole one p = false) : PcOk p one (one.length - 1) ((inRank (allParts one p)).headD ([], 0)).1 := by
  obtain ⟨a, b⟩ := parts_less h m h2 s
  have P := inRank_perm (allParts one p)
  match e : inRank (allParts one p) with
  | [] => rw [e] at P; exact (b P.symm.eq_nil).elim
  | x :: r => exact a.all x (P.mem_iff.mp (by rw [e]; exact List.mem_cons_self))
end
end Rf
end
section
set_option maxRecDepth 100000
namespace Rf
open Lean.Grind
open Poly
local instance (priority := low) instNC9 {R : Type} [CommRing R] : NatCast R := Semiring.natCast
section
variable {p : Int}
/-! ### the law's own functions are the program's -/
theorem k_back : PRIMES.all (fun p => (List.range p.toNat).all fun a => decide (a = 0) || decide (lBack a p = turnedOver a p)) = true := by decide +kernel
theorem PR.back (h : PR p) {a : Int} (h0 : 0 < a) (h1 : a < p) : lBack a p = turnedOver a p := by
  have := List.all_eq_true.mp (List.all_eq_true.mp k_back p h) a.toNat (List.mem_range.mpr (by omega))
  rw [Int.toNat_of_nonneg (by omega)] at this
  simp only [Bool.or_eq_true, decide_eq_true_eq] at this
  rcases this with e | e
  · omega
  · exact e
theorem set_getD {l : List Int} {i : Nat} : l.set i (l.getD i 0) = l := by
  apply List.ext_getElem?
  intro j
  by_cases e : i = j
  · subst e
    by_cases hi : i < l.length
    · rw [List.getElem?_set_self hi, List.getD_eq_getElem?_getD, List.getElem?_eq_getElem hi]; rfl
    · rw [List.getElem?_eq_none_iff.mpr (by rw [List.length_set]; omega), List.getElem?_eq_none_iff.mpr (by omega)]
  · rw [List.getElem?_set_ne e]
theorem rg_getD (h : 0 < p) {l : List Int} (r : Rg p l) (i : Nat) : 0 ≤ l.getD i 0 ∧ l.getD i 0 < p := Row.at h ⟨rfl, r⟩ i
theorem innM_zero (h : 0 < p) {l : List Int} (r : Rg p l) : ∀ (b : List Int) (i : Nat), innM 0 p i l b = l
  | [], i => rfl
  | m :: b, i => by
    have g := rg_getD h r i
    rw [innM, Int.zero_mul, Int.sub_zero, Int.emod_eq_of_lt g.1 g.2, set_getD]
    exact innM_zero h r b (i + 1)
theorem lcL_eq (h : 0 < p) (other : List Int) (back : Int) : ∀ (k : Nat) (left quo : List Int), Rg p left → lcL other back p k left quo = dvL other back p k left quo
  | 0, _, _, _ => rfl
  | k + 1, left, quo, r => by
    have e : (if left.getD (k + other.length - 1) 0 * back % p ≠ 0 then innM (left.getD (k + other.length - 1) 0 * back % p) p k left other else left) = innM (left.getD (k + other.length - 1) 0 * back % p) p k left other := by
      split
      · rfl
      · rename_i z
        rw [show left.getD (k + other.length - 1) 0 * back % p = 0 by omega, innM_zero h r]
    rw [lcL, dvL]
    simp only [e]
    exact lcL_eq h other back k _ _ (rg_innM h _ _ _ _ r)
theorem lCutBy_eq (h : PR p) {one other : List Int} (c : Cn p other) (ne : other ≠ []) (r : Rg p one) : lCutBy one other p = divided one other p := by
  have li := last_inv h c ne
  rw [lCutBy, divided, h.back li.2.2.1 li.2.2.2, lcL_eq h.pos _ _ _ _ _ r]
theorem lRem_eq (h : PR p) {one other : List Int} (c : Cn p other) (ne : other ≠ []) (r : Rg p one) : lRem one other p = leftBy one other p := by
  rw [lRem, leftBy, lCutBy_eq h c ne r]
theorem inC_len (x : Int) : ∀ (b : List Int) (i : Nat) (f : List Int), (inC x p i f b).length = f.length
  | [], i, f => rfl
  | m :: b, i, f => by rw [inC, inC_len x b, List.length_set]
theorem rg_inC (h : 0 < p) (x : Int) : ∀ (b : List Int) (i : Nat) (f : List Int), Rg p f → Rg p (inC x p i f b)
  | [], i, f, hf => hf
  | m :: b, i, f, hf => by rw [inC]; exact rg_inC h x b (i + 1) _ (rg_set h hf _ _)
theorem tp_inC (x : Int) : ∀ (b : List Int) (i : Nat) (f : List Int), i + b.length ≤ f.length → tp p (inC x p i f b) = tp p f + C (Zp.mk p x) * X ^ i * tp p b
  | [], i, f, h => by rw [inC, tp_nil]; grind
  | m :: b, i, f, h => by
    rw [List.length_cons] at h
    rw [inC, tp_inC x b (i + 1) _ (by rw [List.length_set]; omega), tp_set _ (by omega), tp_cons, Zp.mk_mod, Zp.mk_add, Zp.mk_mul, C_sub, C_add, C_mul, Semiring.pow_succ]; grind
theorem outC_len (o : List Int) : ∀ (a : List Int) (i : Nat) (f : List Int), (outC o p i f a).length = f.length
  | [], i, f => rfl
  | x :: a, i, f => by rw [outC, outC_len o a, inC_len]
theorem rg_outC (h : 0 < p) (o : List Int) : ∀ (a : List Int) (i : Nat) (f : List Int), Rg p f → Rg p (outC o p i f a)
  | [], i, f, hf => hf
  | m :: b, i, f, hf => by rw [outC]; exact rg_outC h o b (i + 1) _ (rg_inC h _ _ _ _ hf)
theorem tp_outC (o : List Int) : ∀ (a : List Int) (i : Nat) (f : List Int), i + a.length + o.length ≤ f.length + 1 → tp p (outC o p i f a) = tp p f + X ^ i * tp p a * tp p o
  | [], i, f, h => by rw [outC, tp_nil]; grind
  | x :: a, i, f, h => by
    rw [List.length_cons] at h
    rw [outC, tp_outC o a (i + 1) _ (by rw [inC_len]; omega), tp_cons, Semiring.pow_succ, tp_inC x o i f (by omega)]; grind
theorem lMul_eq (h : PR p) (a b : List Int) : lMul a b p = multiplied a b p := by
  refine cn_inj h (cn_cut (rg_outC h.pos _ _ _ _ (rg_rep h.pos _))) (cn_multiplied h.pos a b) ?_
  rw [lMul, tp_cut, lConv, tp_outC b a 0 _ (by rw [List.length_replicate]; omega), tp_rep, tp_multiplied, Semiring.pow_zero]; grind
variable {rule : List Int}
theorem lRem_ok (u : Ru p rule) {one : List Int} (r : Rg p one) : Rm p rule (lRem one rule p) (tp p one) := by
  rw [lRem_eq u.pr u.cn u.ne r]; exact leftBy_ok u r
theorem lRem_mul (u : Ru p rule) {f g : List Int} {a b : Poly (Zp p)} (hf : Rm p rule f a) (hg : Rm p rule g b) : Rm p rule (lRem (lMul f g p) rule p) (a * b) := by
  rw [lMul_eq u.pr, lRem_eq u.pr u.cn u.ne (cn_multiplied u.pr.pos f g).rg]; exact hf.mul u hg
theorem lLiftL_ok (u : Ru p rule) : ∀ (k : Nat) (found base : List Int) (e : Int) (a b : Poly (Zp p)), 0 ≤ e → e.toNat < 2 ^ k → Rm p rule found a → Rm p rule base b → Rm p rule (lLiftL rule p k found base e) (a * b ^ e.toNat)
  | 0, found, base, e, a, b, h0, hk, hf, hb => by
    rw [lLiftL, show e.toNat = 0 by omega, Semiring.pow_zero]
    exact hf.to ⟨0, by grind⟩
  | k + 1, found, base, e, a, b, h0, hk, hf, hb => by
    rw [lLiftL]
    have e2 : (e / 2).toNat = e.toNat / 2 := by omega
    have hf2 : Rm p rule (if e % 2 = 1 then lRem (lMul found base p) rule p else found) (if e.toNat % 2 = 1 then a * b else a) := by
      by_cases h1 : e % 2 = 1
      · rw [if_pos h1, if_pos (by omega)]; exact lRem_mul u hf hb
      · rw [if_neg h1, if_neg (by omega)]; exact hf
    rw [Nat.pow_succ] at hk
    by_cases h2 : 0 < e / 2
    · rw [if_pos h2]
      have := lLiftL_ok u k _ _ (e / 2) _ (b * b) (by omega) (by omega) hf2 (lRem_mul u hb hb)
      rw [e2] at this
      refine this.to ⟨0, ?_⟩
      rw [pw_half b e.toNat]
      split <;> grind
    · rw [if_neg h2]
      have := lLiftL_ok u k _ base (e / 2) _ b (by omega) (by omega) hf2 hb
      rw [e2, show e.toNat / 2 = 0 by omega, Semiring.pow_zero] at this
      refine this.to ⟨0, ?_⟩
      rw [pw_half b e.toNat, show e.toNat / 2 = 0 by omega, Semiring.pow_zero]
      split <;> grind
theorem lLift_ok (u : Ru p rule) {one : List Int} (r : Rg p one) {e : Int} (he : 0 ≤ e) (he2 : e < 2 ^ 140) : Rm p rule (lLift one e rule p) (tp p one ^ e.toNat) := by
  have h1 := lRem_ok u (Cn.one u.pr).rg
  rw [tp_cons, tp_nil, Zp.mk_one, C_one] at h1
  exact (lLiftL_ok u 140 _ _ e 1 _ he (by omega) (h1.to ⟨0, by grind⟩) (lRem_ok u r)).to ⟨0, by grind⟩
/-! ### the rule and its level one -/
structure Val (p : Int) (one : List Int) : Prop where
  pr : PR p
  cn : Cn p one
  lo : 2 ≤ one.length
  hi : one.length ≤ 15
theorem Val.ne {one : List Int} (v : Val p one) : one ≠ [] := fun e => by have := v.lo; rw [e] at this; simp at this
theorem Val.ru {one : List Int} (v : Val p one) : Ru p one := ⟨v.pr, v.cn, v.ne⟩
theorem Val.mo {one : List Int} (v : Val p one) : Mo p (levelled one p) ∧ (levelled one p).length = one.length := by
  have s := scaled_last v.pr v.cn v.ne
  exact ⟨⟨cn_scaled v.pr.pos _ _, s.2⟩, s.1⟩
theorem Val.dv {one : List Int} (v : Val p one) (a : Poly (Zp p)) : Dv (tp p (levelled one p)) a ↔ Dv (tp p one) a := by
  have li := last_inv v.pr v.cn v.ne
  have e1 : tp p (levelled one p) = C (Zp.mk p (turnedOver (one.getLastD 0) p)) * tp p one := tp_scaled _ _
  have e2 : C (Zp.mk p (one.getLastD 0)) * C (Zp.mk p (turnedOver (one.getLastD 0) p)) = 1 := by
    rw [← C_mul, CommSemiring.mul_comm, ← Zp.mk_mul, ← Zp.mk_mod, li.2.1, Zp.mk_one, C_one]
  constructor
  · rintro ⟨k, ek⟩
    exact ⟨k * C (Zp.mk p (turnedOver (one.getLastD 0) p)), by rw [ek, e1]; grind⟩
  · rintro ⟨k, ek⟩
    refine ⟨k * C (Zp.mk p (one.getLastD 0)), ?_⟩
    rw [ek, e1]
    have : k * C (Zp.mk p (one.getLastD 0)) * (C (Zp.mk p (turnedOver (one.getLastD 0) p)) * tp p one) = k * (C (Zp.mk p (one.getLastD 0)) * C (Zp.mk p (turnedOver (one.getLastD 0) p))) * tp p one := by grind
    rw [this, e2]; grind
/-! ### papers of parts -/
theorem isPoly_of {l : List Int} (c : Cn p l) (h : l.length ≤ 25) : isPoly l p = true := by
  rw [isPoly, if_neg]
  · by_cases e : l = []
    · rw [e]; rfl
    · have e3 : l.getLastD 0 ≠ 0 := fun q => by
        rw [List.getLastD_eq_getLast?] at q
        cases z : l.getLast? with
        | none => exact e (List.getLast?_eq_none_iff.mp z)
        | some a => rw [z] at q; exact c.nz (by rw [z, show a = 0 from q])
      rw [_root_.decide_eq_false e, _root_.decide_eq_true e3]; rfl
  · intro q
    rcases q with q | q
    · omega
    · apply q
      rw [List.all_eq_true]
      intro a ha
      exact _root_.decide_eq_true (c.rg a ha)
theorem paper_parts {one : List Int} (v : Val p one) (s : standsWhole (levelled one p) p = false) :
    lWalked one (paper one p) p = true ∧ paperHolds one (paper one p) p = true ∧ ∃ b, paper one p = .parts ((partsOf one p).headD ([], 0)).1 b := by
  obtain ⟨m, ml⟩ := v.mo
  have O := head_part v.pr m (by rw [ml]; exact v.lo) s
  have lo := v.lo
  have hi := v.hi
  have e : paper one p = .parts ((partsOf one p).headD ([], 0)).1 (divided one ((partsOf one p).headD ([], 0)).1 p).1 := by
    rw [paper, if_neg (by rw [s]; decide)]; rfl
  rw [show ((inRank (allParts (levelled one p) p)).headD ([], 0)).1 = ((partsOf one p).headD ([], 0)).1 from rfl] at O
  generalize ((partsOf one p).headD ([], 0)).1 = part at *
  have o1 := O.lo
  have o2 := O.hi
  have d : Dv (tp p part) (tp p one) := O.dv.trans ((v.dv _).mpr (Dv.refl _))
  have E := exact_div v.pr v.cn v.ne O.mo d
  have el := E.len
  have prod : multiplied part (divided one part p).1 p = one := cn_inj v.pr (cn_multiplied v.pr.pos _ _) v.cn (by rw [tp_multiplied, E.eq]; grind)
  rw [ml] at o2
  rw [e]
  refine ⟨?_, ?_, _, rfl⟩
  · rw [lWalked]
    have g1 : part.getLastD 0 = 1 := by rw [List.getLastD_eq_getLast?, O.mo.one]; rfl
    rw [lMul_eq v.pr, prod]
    simp only [Bool.and_eq_true, decide_eq_true_eq]
    exact ⟨⟨⟨by omega, by omega⟩, g1⟩, trivial⟩
  · rw [paperHolds, isPoly_of O.mo.cn (by omega), isPoly_of E.cn (by omega), prod]
    simp only [Bool.and_eq_true, decide_eq_true_eq]
    exact ⟨⟨⟨⟨trivial, trivial⟩, by omega⟩, by omega⟩, trivial⟩
/-! ### papers of wholeness -/
theorem toL_len (first : List Int) : ∀ (k : Nat) (cur : List Int), (toL rule first p k cur).length = k + 1
  | 0, _ => rfl
  | k + 1, cur => by rw [toL, List.length_cons, toL_len first k]
theorem toL_get (u : Ru p rule) (hl : 1 < rule.length) {first : List Int} (hf : Rm p rule first (X ^ p.toNat)) : ∀ (k : Nat) (cur : List Int) (j : Nat), Rm p rule cur (X ^ (p.toNat ^ j)) → ∀ i l, (toL rule first p k cur)[i]? = some l → Rm p rule l (X ^ (p.toNat ^ (j + i)))
  | 0, cur, j, hc, i, l, h => by
    cases i with
    | zero => rw [toL] at h; have e : cur = l := Option.some.inj h; rw [← e]; exact hc
    | succ i => rw [toL] at h; simp at h
  | k + 1, cur, j, hc, i, l, h => by
    rw [toL] at h
    cases i with
    | zero => have e : cur = l := Option.some.inj h; rw [← e]; exact hc
    | succ i =>
      rw [List.getElem?_cons_succ] at h
      have := toL_get u hl hf k _ (j + 1) (turn_next u hl hc hf) i l h
      rw [show j + (i + 1) = j + 1 + i by omega]; exact this
theorem turns_ok (u : Ru p rule) (hl : 1 < rule.length) : (turnsOf rule p).length = rule.length - 1 ∧ ∀ i l, (turnsOf rule p)[i]? = some l → Rm p rule l (X ^ (p.toNat ^ (i + 1))) := by
  have hf := leftRaised_ok u (Cn.X u.pr).rg (show 0 ≤ p by have := u.pr.gt; omega)
  rw [tp_X] at hf
  refine ⟨by rw [turnsOf, toL_len]; omega, fun i l h => ?_⟩
  have := toL_get u hl hf _ _ 1 (by rw [Nat.pow_one]; exact hf) i l h
  rw [Nat.add_comm 1 i] at this; exact this
theorem lwL_ok (u : Ru p rule) (hl : 1 < rule.length) {first : List Int} (hf : Rm p rule first (X ^ p.toNat)) : ∀ (k : Nat) (cur here : List Int) (j : Nat), Rm p rule cur (X ^ (p.toNat ^ (j + 1))) → Rg p here → Dv (tp p rule) (tp p here - X ^ (p.toNat ^ j)) →
    ∃ r, lwL rule p here (toL rule first p k cur) = some r ∧ Rm p rule r (X ^ (p.toNat ^ (j + k + 1)))
  | k, cur, here, j, hc, rg, hd => by
    have gt := u.pr.gt
    have bd := u.pr.bd
    have le : cur = lLift here p rule p := by
      have h1 := lLift_ok u rg (e := p) (by omega) (by omega)
      refine hc.uniq u h1 ?_
      have := hd.pow p.toNat
      rw [pw_pw, ← Nat.pow_succ] at this
      exact this.sub_swap
    cases k with
    | zero =>
      refine ⟨cur, ?_, by rw [Nat.add_zero]; exact hc⟩
      rw [toL, lwL, if_pos le, lwL, ← le]
    | succ k =>
      obtain ⟨r, h1, h2⟩ := lwL_ok u hl hf k (putThrough cur first rule p) cur (j + 1) (turn_next u hl hc hf) hc.cn.rg hc.dv
      refine ⟨r, ?_, by rw [show j + (k + 1) + 1 = j + 1 + k + 1 by omega]; exact h2⟩
      rw [toL, lwL, if_pos le, ← le]; exact h1
theorem k_small : (List.range 15).all (fun n => (PRIMES.filter fun k => decide ((n : Int) % k = 0)) == (List.map (fun q : Nat => (q : Int)) (SMALL.filter fun q => decide (n % q = 0))) || n == 0) = true := by decide +kernel
theorem k_smallq : SMALL.all (fun q => decide (2 ≤ q)) = true := by decide
theorem show_ok (v : Val p rule) (G : Good (tp p (levelled rule p)) (rule.length - 1) p.toNat) {q : Nat} (hq : q ∈ SMALL) (hm : (rule.length - 1) % q = 0) :
    tp p (showOf rule (turnsOf rule p) p q).1 * (tp p ((turnsOf rule p).getD ((rule.length - 1) / q - 1) []) - X) + tp p (showOf rule (turnsOf rule p) p q).2 * tp p rule = 1 ∧
    Cn p (showOf rule (turnsOf rule p) p q).1 ∧ Cn p (showOf rule (turnsOf rule p) p q).2 ∧ (showOf rule (turnsOf rule p) p q).1.length ≤ 16 ∧ (showOf rule (turnsOf rule p) p q).2.length ≤ 16 := by
  have lo := v.lo
  have hi := v.hi
  obtain ⟨tl, tg⟩ := turns_ok v.ru (by omega)
  have q2 : 2 ≤ q := _root_.of_decide_eq_true (List.all_eq_true.mp k_smallq q hq)
  obtain ⟨m, em⟩ := Nat.dvd_of_mod_eq_zero hm
  have em2 : (rule.length - 1) / q = m := by rw [em]; exact Nat.mul_div_cancel_left m (by omega)
  have m0 : 0 < m := by
    apply Nat.pos_of_ne_zero
    intro z; rw [z] at em; omega
  have mlt : m < rule.length - 1 := by
    rw [em]
    have : 2 * m ≤ q * m := Nat.mul_le_mul_right m q2
    omega
  have get : (turnsOf rule p)[m - 1]? = some ((turnsOf rule p).getD (m - 1) []) := by
    rw [List.getD_eq_getElem?_getD, List.getElem?_eq_getElem (by omega)]; rfl
  have R := tg _ _ get
  rw [show m - 1 + 1 = m by omega] at R
  rw [showOf, em2]
  generalize (turnsOf rule p).getD (m - 1) [] = t at *
  have cl := cn_less (p := p) v.pr.pos t [0, 1]
  have tle : tp p (less t [0, 1] p) = tp p t - X := by rw [tp_less, tp_X]
  have GO := gcd_ok v.pr cl v.cn
  have mg := mo_gcd v.pr cl v.cn (.inr v.ne)
  have ll := len_blended (p := p) t [0, 1] (p - 1)
  have rl := R.lt
  have d1 : Dv (tp p (shared (less t [0, 1] p) rule p).1) 1 := by
    refine G.div (a := tp p t - X) (GO.dB.trans ((v.dv _).mp (Dv.refl _))) (by rw [← tle]; exact GO.dA) fun hd => G.less_dv m0 mlt ?_
    have := (v.dv _).mpr R.dv
    exact this.sub_swap.chain hd
  have g1 : (shared (less t [0, 1] p) rule p).1 = [1] := by
    apply mg.len1
    have := dv_len v.pr mg (Cn.one v.pr) (by simp) (by
      rw [tp_cons, tp_nil, Zp.mk_one, C_one]
      have z1 : (1 : Poly (Zp p)) + X * 0 = 1 := by grind
      rw [z1]; exact d1)
    have := mg.pos
    simp only [List.length_cons, List.length_nil] at *
    omega
  have eq := GO.eq
  rw [g1, tp_cons, tp_nil, Zp.mk_one, C_one, tle] at eq
  have n2 := GO.n2
  have n3 := GO.n3
  have ll2 : (less t [0, 1] p).length ≤ max t.length 2 := ll
  exact ⟨by rw [← eq]; grind, GO.c2, GO.c3, by omega, by omega⟩
theorem zip_map_all {α β γ : Type} (f : α → β) (P : α → γ → Bool) : ∀ (l : List α) (g : α → γ), (∀ a ∈ l, P a (g a) = true) → (l.zip (l.map g)).all (fun x => P x.1 x.2) = true
  | [], g, _ => rfl
  | a :: l, g, h => by
    rw [List.map_cons, List.zip_cons_cons, List.all_cons, h a List.mem_cons_self, zip_map_all f P l g fun b hb => h b (List.mem_cons_of_mem _ hb)]; rfl
theorem zip_map_all2 {α β γ : Type} (f : α → β) (P : β → γ → Bool) : ∀ (l : List α) (g : α → γ), (∀ a ∈ l, P (f a) (g a) = true) → ((l.map f).zip (l.map g)).all (fun x => P x.1 x.2) = true
  | [], g, _ => rfl
  | a :: l, g, h => by
    rw [List.map_cons, List.map_cons, List.zip_cons_cons, List.all_cons, h a List.mem_cons_self, zip_map_all2 f P l g fun b hb => h b (List.mem_cons_of_mem _ hb)]; rfl
theorem thL_ok (first : List Int) : ∀ (k : Nat) (cur : List Int), thL rule first p (toL rule first p k cur) = true
  | 0, cur => rfl
  | 1, cur => by rw [toL, toL, thL, if_neg (by simp)]; rfl
  | k + 2, cur => by
    have := thL_ok first (k + 1) (putThrough cur first rule p)
    rw [show toL rule first p (k + 2) cur = cur :: putThrough cur first rule p :: toL rule first p k (putThrough (putThrough cur first rule p) first rule p) from rfl, thL, if_neg (by simp)]
    exact this
theorem paper_whole {one : List Int} (v : Val p one) (s : standsWhole (levelled one p) p = true) :
    paper one p = .whole (turnsOf one p) (showsOf one (turnsOf one p) p) ∧ lWalked one (paper one p) p = true ∧ paperHolds one (paper one p) p = true := by
  obtain ⟨m, ml⟩ := v.mo
  have lo := v.lo
  have hi := v.hi
  have gt := v.pr.gt
  have u := v.ru
  have G := stands_good v.pr m (by rw [ml]; exact lo) s
  rw [ml] at G
  have e : paper one p = .whole (turnsOf one p) (showsOf one (turnsOf one p) p) := by rw [paper, if_pos s]
  obtain ⟨tl, tg⟩ := turns_ok u (by omega)
  have hf := leftRaised_ok u (Cn.X u.pr).rg (show 0 ≤ p by omega)
  rw [tp_X] at hf
  -- the last turn comes home
  have last : ∀ r, Rm p one r (X ^ (p.toNat ^ (one.length - 1))) → r = leftBy [0, 1] one p := fun r hr => by
    have h1 := leftBy_ok u (Cn.X u.pr).rg
    rw [tp_X] at h1
    exact hr.uniq u h1 ((v.dv _).mp G.home_dv)
  refine ⟨e, ?_, ?_⟩
  · rw [e, lWalked]
    rw [if_neg (by rw [tl]; omega)]
    obtain ⟨r, h1, h2⟩ := lwL_ok u (by omega) hf (one.length - 2) (leftRaised [0, 1] p one p) [0, 1] 0 (by rw [Nat.zero_add, Nat.pow_one]; exact hf) (Cn.X u.pr).rg (by rw [Nat.pow_zero, pw_one, tp_X]; exact ⟨0, by grind⟩)
    rw [show 0 + (one.length - 2) + 1 = one.length - 1 by omega] at h2
    rw [turnsOf, h1]
    rw [← turnsOf]
    have ks : (PRIMES.filter fun k => decide (((one.length - 1 : Nat) : Int) % k = 0)) = List.map (fun q : Nat => (q : Int)) (SMALL.filter fun q => decide ((one.length - 1) % q = 0)) := by
      have := List.all_eq_true.mp k_small (one.length - 1) (List.mem_range.mpr (by omega))
      simp only [Bool.or_eq_true, beq_iff_eq] at this
      rcases this with z | z
      · exact z
      · omega
    simp only []
    rw [if_neg]
    · rw [ks, showsOf]
      refine zip_map_all2 (fun q : Nat => (q : Int)) (fun k pair => lShow one (turnsOf one p) p k pair) _ _ fun q hq => ?_
      obtain ⟨hq1, hq2⟩ := List.mem_filter.mp hq
      obtain ⟨S, c1, c2, -, -⟩ := show_ok v G hq1 (_root_.of_decide_eq_true hq2)
      rw [lShow]
      apply _root_.decide_eq_true
      refine cn_inj v.pr (cn_blended v.pr.pos _ _ _) (Cn.one v.pr) ?_
      rw [lMul_eq v.pr, lMul_eq v.pr, lBlend, tp_blended, tp_multiplied, tp_multiplied, lBlend, tp_blended, mk_pm, tp_X, tp_cons, tp_nil, Zp.mk_one, C_neg, C_one, show ((q : Int)).toNat = q from rfl]
      rw [show tp p (showOf one (turnsOf one p) p q).1 * (tp p ((turnsOf one p).getD ((one.length - 1) / q - 1) []) + -1 * X) + 1 * (tp p (showOf one (turnsOf one p) p q).2 * tp p one) = 1 by rw [← S]; grind]
      grind
    · intro z
      rcases z with z | z
      · rw [lRem_eq v.pr v.cn v.ne (Cn.X u.pr).rg] at z
        exact z (last r h2)
      · apply z
        rw [ks, showsOf, List.length_map, List.length_map]
  · rw [e, paperHolds, Bool.and_eq_true]
    refine ⟨List.all_eq_true.mpr fun l hl => ?_, ?_⟩
    · rcases List.mem_append.mp hl with q | q
      · obtain ⟨i, hi2⟩ := List.getElem?_of_mem q
        have R := tg i l hi2
        exact isPoly_of R.cn (by have := R.lt; omega)
      · obtain ⟨sh, hs, hl2⟩ := List.mem_flatMap.mp q
        obtain ⟨k, hk, ek⟩ := List.mem_map.mp hs
        obtain ⟨hq1, hq2⟩ := List.mem_filter.mp hk
        obtain ⟨S, c1, c2, l1, l2⟩ := show_ok v G hq1 (_root_.of_decide_eq_true hq2)
        rw [ek] at c1 c2 l1 l2
        rcases List.mem_cons.mp hl2 with z | z
        · rw [z]; exact isPoly_of c1 (by omega)
        · rw [List.mem_singleton.mp z]; exact isPoly_of c2 (by omega)
    · rw [wholeHolds]
      have th : turnsHold one (turnsOf one p) p = true := by
        have hd : (turnsOf one p).headD [] = leftRaised [0, 1] p one p := by
          rw [turnsOf]; cases one.length - 2 <;> rfl
        rw [turnsHold, if_neg, if_neg]
        · apply _root_.decide_eq_true
          have hlt : one.length - 2 < (turnsOf one p).length := by omega
          have e1 : (turnsOf one p).getLastD [] = (turnsOf one p)[one.length - 2] := by
            rw [List.getLastD_eq_getLast?, List.getLast?_eq_getElem?, tl, show one.length - 1 - 1 = one.length - 2 by omega, List.getElem?_eq_getElem hlt]; rfl
          rw [e1]
          have R := tg (one.length - 2) _ (List.getElem?_eq_getElem hlt)
          rw [show one.length - 2 + 1 = one.length - 1 by omega] at R
          exact last _ R
        · rw [hd, turnsOf, thL_ok]; decide
        · intro z
          rcases z with z | z
          · exact z tl
          · exact z hd
      rw [if_neg]
      · refine zip_map_all (fun q : Nat => q) (fun q pair => showHolds one (turnsOf one p) p q pair) _ _ fun q hq => ?_
        obtain ⟨hq1, hq2⟩ := List.mem_filter.mp hq
        obtain ⟨S, c1, c2, -, -⟩ := show_ok v G hq1 (_root_.of_decide_eq_true hq2)
        rw [showHolds]
        apply _root_.decide_eq_true
        refine cn_inj v.pr (cn_blended v.pr.pos _ _ _) (Cn.one v.pr) ?_
        rw [tp_blended, tp_multiplied, tp_multiplied, tp_less, tp_X, tp_cons, tp_nil, Zp.mk_one, C_one]
        rw [show tp p (showOf one (turnsOf one p) p q).1 * (tp p ((turnsOf one p).getD ((one.length - 1) / q - 1) []) - X) + 1 * (tp p (showOf one (turnsOf one p) p q).2 * tp p one) = 1 by rw [← S]; grind]
        grind
      · intro z
        rcases z with z | z
        · rw [th] at z; cases z
        · apply z; rw [showsOf, List.length_map]
/-! ### digits -/
def vd (p : Int) : List Int → Int
  | [] => 0
  | x :: l => x * p ^ l.length + vd p l
theorem pw_pos (h : 0 < p) (n : Nat) : 0 < p ^ n := Int.pow_pos h
theorem vd_bd (h : 1 < p) : ∀ {l : List Int}, Rg p l → 0 ≤ vd p l ∧ vd p l < p ^ l.length
  | [], _ => by simp [vd]
  | x :: l, r => by
    have b := r x List.mem_cons_self
    have ih := vd_bd h fun a ha => r a (List.mem_cons_of_mem _ ha)
    have pp := pw_pos (show 0 < p by omega) l.length
    rw [vd, List.length_cons, Int.pow_succ]
    have h1 : 0 ≤ x * p ^ l.length := Int.mul_nonneg b.1 (by omega)
    have h2 : x * p ^ l.length ≤ (p - 1) * p ^ l.length := Int.mul_le_mul_of_nonneg_right (by omega) (by omega)
    have h3 : (p - 1) * p ^ l.length = p ^ l.length * p - p ^ l.length := by grind
    omega
theorem vd_inj (h : 1 < p) : ∀ {a b : List Int}, a.length = b.length → Rg p a → Rg p b → vd p a = vd p b → a = b
  | [], [], _, _, _, _ => rfl
  | x :: a, y :: b, hl, ra, rb, e => by
    have hl' : a.length = b.length := by simpa using hl
    have ba := vd_bd h fun z hz => ra z (List.mem_cons_of_mem x hz)
    have bb := vd_bd h fun z hz => rb z (List.mem_cons_of_mem y hz)
    have pp := pw_pos (show 0 < p by omega) b.length
    rw [vd, vd, hl'] at e
    rw [hl'] at ba
    have xy : x = y := by
      rcases Int.lt_trichotomy x y with q | q | q
      · have := Int.mul_le_mul_of_nonneg_right (show x + 1 ≤ y by omega) (show 0 ≤ p ^ b.length by omega)
        have e2 : (x + 1) * p ^ b.length = x * p ^ b.length + p ^ b.length := by grind
        omega
      · exact q
      · have := Int.mul_le_mul_of_nonneg_right (show y + 1 ≤ x by omega) (show 0 ≤ p ^ b.length by omega)
        have e2 : (y + 1) * p ^ b.length = y * p ^ b.length + p ^ b.length := by grind
        omega
    rw [xy] at e ⊢
    rw [vd_inj h hl' (fun z hz => ra z (List.mem_cons_of_mem x hz)) (fun z hz => rb z (List.mem_cons_of_mem y hz)) (by omega)]
theorem vd_set (v : Int) : ∀ {l : List Int} {i : Nat}, i < l.length → vd p (l.set i v) = vd p l + (v - l.getD i 0) * p ^ (l.length - 1 - i)
  | [], i, h => by simp at h
  | x :: l, 0, h => by
    rw [List.set_cons_zero, vd, vd, List.getD_cons_zero, List.length_cons, show l.length + 1 - 1 - 0 = l.length by omega]; grind
  | x :: l, i + 1, h => by
    rw [List.set_cons_succ, vd, vd, List.length_set, vd_set v (by simpa using h), List.getD_cons_succ, List.length_cons, show l.length + 1 - 1 - (i + 1) = l.length - 1 - i by omega]; grind
theorem ndL_ok (h : 1 < p) : ∀ (k : Nat) (d : List Int), k < d.length → Rg p d → vd p d + p ^ (d.length - 1 - k) < p ^ d.length → Rg p (ndL p k d) ∧ (ndL p k d).length = d.length ∧ vd p (ndL p k d) = vd p d + p ^ (d.length - 1 - k) ∧ (k = 0 → d.getD 0 0 ≠ p - 1)
  | 0, d, hk, r, hv => by
    have g := rg_getD (show 0 < p by omega) r 0
    have ne : d.getD 0 0 ≠ p - 1 := fun q => by
      match d, hk with
      | x :: l, _ =>
        rw [List.getD_cons_zero] at q
        have b := vd_bd h fun z hz => r z (List.mem_cons_of_mem x hz)
        rw [vd, List.length_cons, show l.length + 1 - 1 - 0 = l.length by omega, Int.pow_succ, q] at hv
        have e2 : (p - 1) * p ^ l.length = p ^ l.length * p - p ^ l.length := by grind
        omega
    rw [ndL]
    refine ⟨fun a ha => ?_, List.length_set .., ?_, fun _ => ne⟩
    · rcases List.mem_or_eq_of_mem_set ha with q | q
      · exact r a q
      · omega
    · rw [vd_set _ hk, show d.getD 0 0 + 1 - d.getD 0 0 = 1 by omega, Int.one_mul]
  | k + 1, d, hk, r, hv => by
    have g := rg_getD (show 0 < p by omega) r (k + 1)
    have pw : p ^ (d.length - 1 - k) = p ^ (d.length - 1 - (k + 1)) * p := by rw [show d.length - 1 - k = d.length - 1 - (k + 1) + 1 by omega, Int.pow_succ]
    rw [ndL]
    by_cases e : d.getD (k + 1) 0 = p - 1
    · rw [if_pos e]
      have vs := vd_set (p := p) 0 hk
      rw [e] at vs
      have e3 : (0 - (p - 1)) * p ^ (d.length - 1 - (k + 1)) = p ^ (d.length - 1 - (k + 1)) - p ^ (d.length - 1 - k) := by rw [pw]; grind
      obtain ⟨a, b, c, _⟩ := ndL_ok h k (d.set (k + 1) 0) (by rw [List.length_set]; omega) (fun a ha => by
        rcases List.mem_or_eq_of_mem_set ha with q | q
        · exact r a q
        · omega) (by rw [List.length_set, vs, e3]; omega)
      rw [List.length_set] at b c
      exact ⟨a, b, by rw [c, vs, e3]; omega, fun q => by omega⟩
    · rw [if_neg e]
      refine ⟨fun a ha => ?_, List.length_set .., ?_, fun q => by omega⟩
      · rcases List.mem_or_eq_of_mem_set ha with q | q
        · exact r a q
        · omega
      · rw [vd_set _ hk, show d.getD (k + 1) 0 + 1 - d.getD (k + 1) 0 = 1 by omega, Int.one_mul]
theorem next_ok (h : 1 < p) {d w : List Int} (h0 : 0 < d.length) (r : Rg p d) (hl : d.length = w.length) (rw' : Rg p w) (lt : vd p d < vd p w) : Rg p (nextDigits d p) ∧ (nextDigits d p).length = d.length ∧ vd p (nextDigits d p) = vd p d + 1 := by
  have b := vd_bd h rw'
  rw [← hl] at b
  obtain ⟨x, y, z, _⟩ := ndL_ok h (d.length - 1) d (by omega) r (by rw [show d.length - 1 - (d.length - 1) = 0 by omega, Int.pow_zero]; omega)
  rw [show d.length - 1 - (d.length - 1) = 0 by omega, Int.pow_zero] at z
  exact ⟨x, y, z⟩
/-! ### the law's rules -/
theorem mo_snoc (h : PR p) {d : List Int} (r : Rg p d) : Mo p (d ++ [1]) := by
  have gt := h.gt
  refine ⟨⟨fun a ha => ?_, by simp⟩, by simp⟩
  rcases List.mem_append.mp ha with q | q
  · exact r a q
  · rw [List.mem_singleton.mp q]; omega
theorem shift_step (h : PR p) {t : List Int} (m : Mo p t) (b n : Int) : Mo p (lBlend (lMul t [b, 1] p) [1] n p) ∧ (lBlend (lMul t [b, 1] p) [1] n p).length = t.length + 1 := by
  have mp := m.pos
  rw [lMul_eq h, lBlend]
  have cb := cn_blended (p := p) h.pos (multiplied t [b, 1] p) [1] n
  have e : tp p (blended (multiplied t [b, 1] p) [1] n p) = tp p t * (C (Zp.mk p b) + X) + C (Zp.mk p n) := by
    rw [tp_blended, tp_multiplied, tp_cons, tp_cons, tp_nil, Zp.mk_one, C_one]; grind
  have lX : Lt (C (Zp.mk p b) + X : Poly (Zp p)) 2 := fun i hi => by
    rw [c_add, c_C, if_neg (by omega)]
    show 0 + (if i = 1 then (1 : Zp p) else 0) = 0
    rw [if_neg (by omega)]; grind
  have l1 : (blended (multiplied t [b, 1] p) [1] n p).length ≤ t.length + 1 := cn_len h cb (by
    rw [e]
    refine Lt.add (Lt.mul (tp_lt t) lX (by omega)) fun i hi => ?_
    rw [c_C, if_neg (by omega)])
  have top : (tp p (blended (multiplied t [b, 1] p) [1] n p)).c t.length = 1 := by
    have t1 := top_mul (f := tp p t) (g := C (Zp.mk p b) + X) (a := t.length - 1) (b := 1) ((tp_lt t).mono (by omega)) lX
    rw [show t.length - 1 + 1 = t.length by omega, m.top, c_add, c_C, if_neg (by omega)] at t1
    have t2 : (X : Poly (Zp p)).c 1 = 1 := by show (if 1 = 1 then (1 : Zp p) else 0) = 1; rw [if_pos rfl]
    rw [t2] at t1
    rw [e, c_add, t1, c_C, if_neg (by omega)]; grind
  have l2 : (blended (multiplied t [b, 1] p) [1] n p).length = t.length + 1 := by
    refine Nat.le_antisymm l1 (Nat.lt_of_not_le fun hle => ?_)
    have := tp_lt (p := p) (blended (multiplied t [b, 1] p) [1] n p) t.length hle
    rw [top] at this
    exact h.fld.ne this
  exact ⟨Mo.of_top h cb (by rw [l2, show t.length + 1 - 1 = t.length by omega]; exact top), l2⟩
theorem shifted_ok (h : PR p) {poly : List Int} (m : poly.getLast? = some 1) (b : Int) : Mo p (lShifted poly b p) ∧ (lShifted poly b p).length = poly.length := by
  rw [lShifted, List.foldl_reverse]
  induction poly with
  | nil => simp at m
  | cons a l ih =>
    rw [List.foldr_cons]
    match l, m, ih with
    | [], m, ih =>
      have e : a = 1 := by simpa using m
      rw [e, List.foldr_nil]
      have gt := h.gt
      have e1 : lBlend (lMul [] [b, 1] p) [1] 1 p = [1] := by
        rw [lMul_eq h]
        have : multiplied [] [b, 1] p = [] := by rw [multiplied, if_pos (.inl rfl)]
        rw [this]
        show cut [(0 + 1 * 1) % p] = [1]
        rw [show (0 + 1 * 1 : Int) = 1 by omega, Int.emod_eq_of_lt (by omega) gt]
        rfl
      rw [e1]
      exact ⟨⟨Cn.one h, rfl⟩, rfl⟩
    | c :: l, m, ih =>
      obtain ⟨x, y⟩ := ih (by rw [List.getLast?_cons_cons] at m; exact m)
      obtain ⟨z, w⟩ := shift_step h x b a
      exact ⟨z, by rw [w, y]; rfl⟩
theorem drawn_ok (h : PR p) {one : List Int} (m : Mo p one) (lo : 2 ≤ one.length) (hi : one.length ≤ 15) {c : Int} (c0 : 0 < c) (c1 : c < p) : Val p (lMul one [c] p) ∧ (lMul one [c] p).length = one.length := by
  have mp := m.pos
  rw [lMul_eq h]
  have cm := cn_multiplied (p := p) h.pos one [c]
  have e : tp p (multiplied one [c] p) = C (Zp.mk p c) * tp p one := by rw [tp_multiplied, tp_cons, tp_nil]; grind
  have l1 : (multiplied one [c] p).length ≤ one.length := cn_len h cm (by
    rw [e]; intro i hi; rw [c_Cmul, tp_lt one i hi]; grind)
  have l2 : (multiplied one [c] p).length = one.length := by
    refine Nat.le_antisymm l1 (Nat.le_of_not_lt fun hlt => ?_)
    have := tp_lt (p := p) (multiplied one [c] p) (one.length - 1) (by omega)
    rw [e, c_Cmul, m.top] at this
    have z : Zp.mk p c = Zp.mk p 0 := by rw [Zp.mk_zero, ← this]; grind
    have := Zp.mk_inj (by omega) c1 (Int.le_refl 0) h.pos z
    omega
  exact ⟨⟨h, cm, by omega, by omega⟩, l2⟩
/-! ### what the law asks of one -/
theorem one_ok {one : List Int} (v : Val p one) : lWalked one (paper one p) p = true ∧ paperHolds one (paper one p) p = true ∧
    ((∃ t s, paper one p = .whole t s ∧ isWhole one p = true) ∨ (∃ b, paper one p = .parts ((partsOf one p).headD ([], 0)).1 b ∧ isWhole one p = false)) := by
  have lo := v.lo
  cases s : standsWhole (levelled one p) p with
  | true =>
    obtain ⟨a, b, c⟩ := paper_whole v s
    exact ⟨b, c, .inl ⟨_, _, a, by rw [isWhole, s]; simp; omega⟩⟩
  | false =>
    obtain ⟨a, b, c⟩ := paper_parts v s
    obtain ⟨y, hy⟩ := c
    exact ⟨a, b, .inr ⟨y, hy, by rw [isWhole, s]; simp⟩⟩
end
end Rf
end
section
set_option maxRecDepth 100000
set_option maxHeartbeats 4000000
namespace Rw
open PySem PySem.Spec PyProof.Rows L2 Rf
def topS (i : Nat) : Stmt := PySem.Challenge.pw_rungfields_k12_papers_of_wholeness.main.body.getD i (.Pass ⟨0, 0, 0, 0⟩)

/-! ### descriptions of values -/
abbrev PV := V → Hp → Prop
def Md (P : PV) : Prop := ∀ v H H', Same H H' → P v H → P v H'
theorem Same.rd {H H' : Hp} {a : Addr} {u : HO} (e : Same H H') (h : Rd H a u) : Rd H' a u := by
  rcases h with h | ⟨o, h⟩
  · exact .inl (e _ _ h)
  · exact .inr ⟨o, e _ _ h⟩
theorem Same.sqt {K : PySem.W.Frag} {H H' : Hp} {a : Addr} {xs : List V} (e : Same H H') (h : SqT K H a xs) : SqT K H' a xs := by
  rcases h with h | h
  · exact .inl (Same.rd e h)
  · exact .inr h
theorem Same.new {H : Hp} {p : Addr} {o : HO} (h : H p = none) : Same H (upd H p o) := fun a u e => by
  rw [upd_ne (ne_of_none e h)]
  exact e
/-- an object that H does not know may change -/
theorem Same.mut {H H' : Hp} {p : Addr} {o : HO} (e : Same H H') (h : H p = none) : Same H (upd H' p o) := fun a u ha => by
  rw [upd_ne (ne_of_none ha h)]
  exact e a u ha
def isV (x : V) : PV := fun v _ => v = x
theorem md_isV {x : V} : Md (isV x) := fun _ _ _ _ h => h
/-- a tuple of ints | a list of ints -/
def Ti (K : PySem.W.Frag) (xs : List Int) : PV := fun v H => ∃ a, v = .ref a ∧ SqT K H a (xs.map V.int)
def Li (K : PySem.W.Frag) (xs : List Int) : PV := fun v H => ∃ a, v = .ref a ∧ SqL K H a (xs.map V.int)
/-- values that are as described -/
def All2 : List PV → List V → Hp → Prop
  | [], [], _ => True
  | d :: ds, v :: vs, H => d v H ∧ All2 ds vs H
  | _, _, _ => False
def Td (K : PySem.W.Frag) (ds : List PV) : PV := fun v H => ∃ a vs, v = .ref a ∧ SqT K H a vs ∧ All2 ds vs H
def Ld (K : PySem.W.Frag) (ds : List PV) : PV := fun v H => ∃ a vs, v = .ref a ∧ SqL K H a vs ∧ All2 ds vs H
variable {K : PySem.W.Frag}
theorem Ti.mono {xs : List Int} : Md (Ti K xs) := fun _ _ _ e ⟨a, h, q⟩ => ⟨a, h, Same.sqt e q⟩
theorem Li.mono {xs : List Int} : Md (Li K xs) := fun _ _ _ e ⟨a, h, q⟩ => ⟨a, h, e.seq q⟩
theorem All2.mono {H H' : Hp} (e : Same H H') : ∀ {ds : List PV} {vs : List V}, (∀ d ∈ ds, Md d) → All2 ds vs H → All2 ds vs H'
  | [], [], _, _ => trivial
  | d :: ds, v :: vs, m, h => ⟨m d List.mem_cons_self v _ _ e h.1, All2.mono e (fun x hx => m x (List.mem_cons_of_mem _ hx)) h.2⟩
  | [], _ :: _, _, h => h.elim
  | _ :: _, [], _, h => h.elim
theorem All2.len {H : Hp} : ∀ {ds : List PV} {vs : List V}, All2 ds vs H → vs.length = ds.length
  | [], [], _ => rfl
  | d :: ds, v :: vs, h => by rw [List.length_cons, List.length_cons, All2.len h.2]
  | [], _ :: _, h => h.elim
  | _ :: _, [], h => h.elim
theorem All2.get {H : Hp} : ∀ {ds : List PV} {vs : List V}, All2 ds vs H → ∀ {i : Nat} {d : PV}, ds[i]? = some d → ∃ v, vs[i]? = some v ∧ d v H
  | [], [], _, i, d, h => by simp at h
  | e :: ds, v :: vs, h, 0, d, q => by
    have : e = d := Option.some.inj q
    exact ⟨v, rfl, this ▸ h.1⟩
  | e :: ds, v :: vs, h, i + 1, d, q => All2.get h.2 q
  | [], _ :: _, h, _, _, _ => h.elim
  | _ :: _, [], h, _, _, _ => h.elim
theorem All2.get' {H : Hp} {ds : List PV} {vs : List V} (h : All2 ds vs H) {i : Nat} {v : V} (q : vs[i]? = some v) : ∃ d, ds[i]? = some d ∧ d v H := by
  have hl := h.len
  have hi := (List.getElem?_eq_some_iff.mp q).1
  obtain ⟨v', h1, h2⟩ := h.get (List.getElem?_eq_getElem (show i < ds.length by omega))
  rw [q] at h1
  have : v = v' := Option.some.inj h1
  exact ⟨_, List.getElem?_eq_getElem (by omega), this ▸ h2⟩
theorem All2.app {H : Hp} : ∀ {ds es : List PV} {vs us : List V}, All2 ds vs H → All2 es us H → All2 (ds ++ es) (vs ++ us) H
  | [], _, [], _, _, h => h
  | _ :: _, _, _ :: _, _, h, g => ⟨h.1, All2.app h.2 g⟩
  | [], _, _ :: _, _, h, _ => h.elim
  | _ :: _, _, [], _, h, _ => h.elim
theorem all2_0 {vs : List V} {H : Hp} (h : All2 [] vs H) : vs = [] := by cases vs with
  | nil => rfl
  | cons _ _ => exact h.elim
theorem all2_1 {d : PV} {vs : List V} {H : Hp} (h : All2 [d] vs H) : ∃ v, vs = [v] ∧ d v H := by cases vs with
  | nil => exact h.elim
  | cons v r => exact ⟨v, by rw [all2_0 h.2], h.1⟩
theorem all2_2 {d e : PV} {vs : List V} {H : Hp} (h : All2 [d, e] vs H) : ∃ v u, vs = [v, u] ∧ d v H ∧ e u H := by cases vs with
  | nil => exact h.elim
  | cons v r =>
    obtain ⟨u, e1, e2⟩ := all2_1 h.2
    exact ⟨v, u, by rw [e1], h.1, e2⟩
theorem all2_3 {d e f : PV} {vs : List V} {H : Hp} (h : All2 [d, e, f] vs H) : ∃ v u x, vs = [v, u, x] ∧ d v H ∧ e u H ∧ f x H := by cases vs with
  | nil => exact h.elim
  | cons v r =>
    obtain ⟨u, x, e1, e2⟩ := all2_2 h.2
    exact ⟨v, u, x, by rw [e1], h.1, e2⟩
theorem all2_4 {d e f g : PV} {vs : List V} {H : Hp} (h : All2 [d, e, f, g] vs H) : ∃ v u x y, vs = [v, u, x, y] ∧ d v H ∧ e u H ∧ f x H ∧ g y H := by cases vs with
  | nil => exact h.elim
  | cons v r =>
    obtain ⟨u, x, y, e1, e2⟩ := all2_3 h.2
    exact ⟨v, u, x, y, by rw [e1], h.1, e2⟩
theorem all2_ints {H : Hp} : ∀ {xs : List Int} {vs : List V}, All2 (xs.map fun x => isV (.int x)) vs H ↔ vs = xs.map V.int
  | [], [] => ⟨fun _ => rfl, fun _ => trivial⟩
  | [], _ :: _ => ⟨fun h => h.elim, fun h => (by cases h)⟩
  | _ :: _, [] => ⟨fun h => h.elim, fun h => (by cases h)⟩
  | x :: xs, v :: vs => ⟨fun h => by
      have := all2_ints.mp h.2
      rw [List.map_cons, ← this, show v = .int x from h.1], fun h => by
      rw [List.map_cons, List.cons.injEq] at h
      exact ⟨h.1, all2_ints.mpr h.2⟩⟩
theorem Td.mono {ds : List PV} (m : ∀ d ∈ ds, Md d) : Md (Td K ds) := fun _ _ _ e ⟨a, vs, h, q, r⟩ => ⟨a, vs, h, Same.sqt e q, r.mono e m⟩
theorem Ld.mono {ds : List PV} (m : ∀ d ∈ ds, Md d) : Md (Ld K ds) := fun _ _ _ e ⟨a, vs, h, q, r⟩ => ⟨a, vs, h, e.seq q, r.mono e m⟩
theorem Li.ld {xs : List Int} {v : V} {H : Hp} (h : Li K xs v H) : Ld K (xs.map fun x => isV (.int x)) v H := by
  obtain ⟨a, e, q⟩ := h
  exact ⟨a, _, e, q, all2_ints.mpr rfl⟩
theorem Ti.td {xs : List Int} {v : V} {H : Hp} (h : Ti K xs v H) : Td K (xs.map fun x => isV (.int x)) v H := by
  obtain ⟨a, e, q⟩ := h
  exact ⟨a, _, e, q, all2_ints.mpr rfl⟩
theorem Td.ti {xs : List Int} {v : V} {H : Hp} (h : Td K (xs.map fun x => isV (.int x)) v H) : Ti K xs v H := by
  obtain ⟨a, vs, e, q, r⟩ := h
  exact ⟨a, e, by rw [← all2_ints.mp r]; exact q⟩
theorem Ld.li {xs : List Int} {v : V} {H : Hp} (h : Ld K (xs.map fun x => isV (.int x)) v H) : Li K xs v H := by
  obtain ⟨a, vs, e, q, r⟩ := h
  exact ⟨a, e, by rw [← all2_ints.mp r]; exact q⟩

/-! ### what evaluates to what -/
structure Ev (te : TE) (σ : L2.St) (H : Hp) (P : PV) : Prop where
  md : Md P
  run : ∀ H1, Same H H1 → ∀ Q : VK, (∀ v H2, Same H1 H2 → P v H2 → Q v H2) → te σ H1 Q
/-- a new list -/
def EvL (te : TE) (σ : L2.St) (H : Hp) (xs : List V) : Prop := ∀ H1, Same H H1 → ∀ Q : VK, (∀ p H2, H1 p = none → Same H1 H2 → H2 p = some (.lst xs) → Q (.ref p) H2) → te σ H1 Q
def EvT (tt : TT) (σ : L2.St) (H : Hp) (b : Bool) : Prop := ∀ H1, Same H H1 → ∀ Q : Bool → Hp → Prop, (∀ H2, Same H1 H2 → Q b H2) → tt σ H1 Q
structure EvA (ta : TA) (σ : L2.St) (H : Hp) (ds : List PV) : Prop where
  md : ∀ d ∈ ds, Md d
  run : ∀ H1, Same H H1 → ∀ Q : List V → Hp → Prop, (∀ vs H2, Same H1 H2 → All2 ds vs H2 → Q vs H2) → ta σ H1 Q
section
variable {σ : L2.St} {H H' : Hp} {ta tb tc te : TE} {t u : TT} {P P' P1 P2 P3 : PV} {i j : Int} {r : R2}
theorem Ev.mono (e : Same H H') (h : Ev te σ H P) : Ev te σ H' P := ⟨h.md, fun H1 a Q q => h.run H1 (e.trans a) Q q⟩
theorem EvT.mono {b : Bool} (e : Same H H') (h : EvT t σ H b) : EvT t σ H' b := fun H1 a Q q => h H1 (e.trans a) Q q
theorem EvA.mono {ta : TA} {ds : List PV} (e : Same H H') (h : EvA ta σ H ds) : EvA ta σ H' ds := ⟨h.md, fun H1 a Q q => h.run H1 (e.trans a) Q q⟩
theorem EvL.mono {xs : List V} (e : Same H H') (h : EvL te σ H xs) : EvL te σ H' xs := fun H1 a Q q => h H1 (e.trans a) Q q
theorem Ev.to (h : Ev te σ H P) (m : Md P') (k : ∀ v H', P v H' → P' v H') : Ev te σ H P' := ⟨m, fun H1 e Q q => h.run H1 e Q fun v H2 e2 p => q v H2 e2 (k v H2 p)⟩
theorem Ev.is {x y : V} (h : Ev te σ H (isV x)) (e : x = y) : Ev te σ H (isV y) := e ▸ h
theorem ev_v (n : Nat) {v : V} (m : Md P) (h : σ[n]? = some (some v)) (p : P v H) : Ev (tVar n) σ H P := ⟨m, fun H1 e Q q => ⟨v, h, q v H1 (Same.refl _) (m v _ _ e p)⟩⟩
theorem ev_i (n : Nat) {v : V} (h : σ[n]? = some (some v)) : Ev (tVar n) σ H (isV v) := ev_v n md_isV h rfl
theorem ev_c {v : V} : Ev (tC v) σ H (isV v) := ⟨md_isV, fun H1 _ Q q => q v H1 (Same.refl _) rfl⟩
theorem ev_cP {v : V} (m : Md P) (p : P v H) : Ev (tC v) σ H P := ⟨m, fun H1 e Q q => q v H1 (Same.refl _) (m v _ _ e p)⟩
/-- a two-place operation -/
theorem ev_op (m : Md P3) (ha : Ev ta σ H P1) (hb : Ev tb σ H P2) (hr : ∀ x y H1, Same H H1 → P1 x H1 → P2 y H1 → ∀ Q : VK, (∀ v H2, Same H1 H2 → P3 v H2 → Q v H2) → r x y H1 Q) : Ev (tOp r ta tb) σ H P3 :=
  ⟨m, fun H1 e Q q => ha.run H1 e _ fun x H2 e2 p1 => hb.run H2 (e.trans e2) _ fun y H3 e3 p2 => hr x y H3 ((e.trans e2).trans e3) (ha.md x _ _ e3 p1) p2 Q fun v H4 e4 p3 => q v H4 ((e2.trans e3).trans e4) p3⟩
theorem ev_I0 {g : Int → Int → V} (ha : Ev ta σ H (isV (.int i))) (hb : Ev tb σ H (isV (.int j))) : Ev (tOp (rI0 g) ta tb) σ H (isV (g i j)) :=
  ev_op md_isV ha hb fun x y H1 _ p1 p2 Q q => ⟨i, j, p1, p2, q _ H1 (Same.refl _) rfl⟩
theorem ev_I {C : Int → Int → Prop} {g : Int → Int → V} (hc : C i j) (ha : Ev ta σ H (isV (.int i))) (hb : Ev tb σ H (isV (.int j))) : Ev (tOp (rI C g) ta tb) σ H (isV (g i j)) :=
  ev_op md_isV ha hb fun x y H1 _ p1 p2 Q q => ⟨i, j, p1, p2, hc, q _ H1 (Same.refl _) rfl⟩
theorem ev_neg (ha : Ev ta σ H (isV (.int i))) : Ev (tUn (rU fun i => .int (-i)) ta) σ H (isV (.int (-i))) :=
  ⟨md_isV, fun H1 e Q q => ha.run H1 e _ fun x H2 e2 p => ⟨i, p, q _ H2 e2 rfl⟩⟩
theorem ev_eq {x y : V} (hs : scal x y = true) (ha : Ev ta σ H (isV x)) (hb : Ev tb σ H (isV y)) : Ev (tOp rEq ta tb) σ H (isV (.bl (decide (x = y)))) :=
  ev_op md_isV ha hb fun x' y' H1 _ p1 p2 Q q => by
    rw [show x' = x from p1, show y' = y from p2]
    exact ⟨hs, q _ H1 (Same.refl _) rfl⟩
theorem ev_ne {x y : V} (hs : scal x y = true) (ha : Ev ta σ H (isV x)) (hb : Ev tb σ H (isV y)) : Ev (tOp rNe ta tb) σ H (isV (.bl (!decide (x = y)))) :=
  ev_op md_isV ha hb fun x' y' H1 _ p1 p2 Q q => by
    rw [show x' = x from p1, show y' = y from p2]
    exact ⟨hs, q _ H1 (Same.refl _) rfl⟩
/-- items -/
theorem ev_ixT {ds : List PV} {d : PV} {n : Nat} (ha : Ev ta σ H (Td K ds)) (hb : Ev tb σ H (isV (.int n))) (hd : ds[n]? = some d) (m : Md d) : Ev (tOp (rIxT K) ta tb) σ H d :=
  ev_op m ha hb fun x y H1 _ ⟨a, vs, e, q1, q2⟩ p2 Q q => by
    obtain ⟨v, h1, h2⟩ := q2.get hd
    exact ⟨a, vs, n, v, e, p2, q1, atI_nat h1, q v H1 (Same.refl _) h2⟩
theorem ev_ixL {ds : List PV} {d : PV} {n : Nat} (ha : Ev ta σ H (Ld K ds)) (hb : Ev tb σ H (isV (.int n))) (hd : ds[n]? = some d) (m : Md d) : Ev (tOp (rIxL K) ta tb) σ H d :=
  ev_op m ha hb fun x y H1 _ ⟨a, vs, e, q1, q2⟩ p2 Q q => by
    obtain ⟨v, h1, h2⟩ := q2.get hd
    exact ⟨a, vs, n, v, e, p2, q1, atI_nat h1, q v H1 (Same.refl _) h2⟩
theorem atI_neg1 {α : Type} {xs : List α} {v : α} (h : xs.getLast? = some v) : atI xs (-1) = some v := by
  obtain ⟨ys, rfl⟩ := List.getLast?_eq_some_iff.mp h
  exact atI_last ys v
theorem All2.last {H : Hp} {ds : List PV} {vs : List V} (h : All2 ds vs H) {d : PV} (hd : ds.getLast? = some d) : ∃ v, vs.getLast? = some v ∧ d v H := by
  rw [List.getLast?_eq_getElem?] at hd
  obtain ⟨v, h1, h2⟩ := h.get hd
  refine ⟨v, ?_, h2⟩
  rw [List.getLast?_eq_getElem?, h.len]; exact h1
theorem ev_lastT {ds : List PV} {d : PV} (ha : Ev ta σ H (Td K ds)) (hb : Ev tb σ H (isV (.int (-1)))) (hd : ds.getLast? = some d) (m : Md d) : Ev (tOp (rIxT K) ta tb) σ H d :=
  ev_op m ha hb fun x y H1 _ ⟨a, vs, e, q1, q2⟩ p2 Q q => by
    obtain ⟨v, h1, h2⟩ := q2.last hd
    exact ⟨a, vs, -1, v, e, p2, q1, atI_neg1 h1, q v H1 (Same.refl _) h2⟩
theorem ev_lastL {ds : List PV} {d : PV} (ha : Ev ta σ H (Ld K ds)) (hb : Ev tb σ H (isV (.int (-1)))) (hd : ds.getLast? = some d) (m : Md d) : Ev (tOp (rIxL K) ta tb) σ H d :=
  ev_op m ha hb fun x y H1 _ ⟨a, vs, e, q1, q2⟩ p2 Q q => by
    obtain ⟨v, h1, h2⟩ := q2.last hd
    exact ⟨a, vs, -1, v, e, p2, q1, atI_neg1 h1, q v H1 (Same.refl _) h2⟩
theorem Ev.td {xs : List Int} (h : Ev te σ H (Ti K xs)) : Ev te σ H (Td K (xs.map fun x => isV (.int x))) := h.to (Td.mono fun d hd => by
  obtain ⟨x, _, e⟩ := List.mem_map.mp hd
  rw [← e]; exact md_isV) fun _ _ q => q.td
theorem Ev.ld {xs : List Int} (h : Ev te σ H (Li K xs)) : Ev te σ H (Ld K (xs.map fun x => isV (.int x))) := h.to (Ld.mono fun d hd => by
  obtain ⟨x, _, e⟩ := List.mem_map.mp hd
  rw [← e]; exact md_isV) fun _ _ q => q.ld
theorem ev_ixTI {xs : List Int} {z : Int} {n : Nat} (ha : Ev ta σ H (Ti K xs)) (hb : Ev tb σ H (isV (.int n))) (hd : xs[n]? = some z) : Ev (tOp (rIxT K) ta tb) σ H (isV (.int z)) :=
  ev_ixT ha.td hb (by rw [List.getElem?_map, hd]; rfl) md_isV
theorem ev_ixLI {xs : List Int} {z : Int} {n : Nat} (ha : Ev ta σ H (Li K xs)) (hb : Ev tb σ H (isV (.int n))) (hd : xs[n]? = some z) : Ev (tOp (rIxL K) ta tb) σ H (isV (.int z)) :=
  ev_ixL ha.ld hb (by rw [List.getElem?_map, hd]; rfl) md_isV
theorem ev_lastTI {xs : List Int} {z : Int} (ha : Ev ta σ H (Ti K xs)) (hb : Ev tb σ H (isV (.int (-1)))) (hd : xs.getLast? = some z) : Ev (tOp (rIxT K) ta tb) σ H (isV (.int z)) :=
  ev_lastT ha.td hb (by rw [List.getLast?_map, hd]; rfl) md_isV
/-- arguments, displays, calls -/
theorem ea_nil : EvA tNil σ H [] := ⟨fun _ h => (by cases h), fun H1 _ Q q => q [] H1 (Same.refl _) trivial⟩
theorem ea_cons {tr : TA} {ds : List PV} (h : Ev ta σ H P) (hr : EvA tr σ H ds) : EvA (tCons ta tr) σ H (P :: ds) :=
  ⟨fun d hd => (List.mem_cons.mp hd).elim (fun e => e ▸ h.md) (hr.md d), fun H1 e Q q => h.run H1 e _ fun x H2 e2 p => hr.run H2 (e.trans e2) _ fun vs H3 e3 a => q (x :: vs) H3 (e2.trans e3) ⟨h.md x _ _ e3 p, a⟩⟩
theorem sz_of {n : Nat} (h : n ≤ 100000) : n ≤ sizeLine := Nat.le_trans h (by decide)
theorem sz_lt {n : Nat} (h : n < 100000) : n < sizeLine := Nat.lt_of_lt_of_le h (by decide)
theorem ev_tup {ta : TA} {ds : List PV} (h : EvA ta σ H ds) (hl : ds.length ≤ 100000 := by simp) : Ev (tTup ta) σ H (Td K ds) :=
  ⟨Td.mono h.md, fun H1 e Q q => h.run H1 e _ fun vs H2 e2 a => ⟨by rw [a.len]; exact sz_of hl, fun p hp => q (.ref p) _ (e2.trans (Same.new hp)) ⟨p, vs, rfl, SqT.of upd_same, a.mono (Same.new hp) h.md⟩⟩⟩
theorem ev_nilT : Ev (tTup tNil) σ H (Ti K []) := (ev_tup (K := K) ea_nil).to Ti.mono fun _ _ q => q.ti (xs := [])
theorem ev_oneT {z : Int} (h : Ev ta σ H (isV (.int z))) : Ev (tTup (tCons ta tNil)) σ H (Ti K [z]) := (ev_tup (K := K) (ea_cons h ea_nil)).to Ti.mono fun _ _ q => Td.ti (xs := [z]) q
theorem ev_twoT {z y : Int} (h : Ev ta σ H (isV (.int z))) (g : Ev tb σ H (isV (.int y))) : Ev (tTup (tCons ta (tCons tb tNil))) σ H (Ti K [z, y]) := (ev_tup (K := K) (ea_cons h (ea_cons g ea_nil))).to Ti.mono fun _ _ q => Td.ti (xs := [z, y]) q
theorem el_lst {ta : TA} {ds : List PV} (h : EvA ta σ H ds) (hl : ds.length ≤ 100000 := by simp) : ∀ H1, Same H H1 → ∀ Q : VK, (∀ p vs H2, H1 p = none → Same H1 H2 → H2 p = some (.lst vs) → All2 ds vs H2 → Q (.ref p) H2) → tLst ta σ H1 Q :=
  fun H1 e Q q => h.run H1 e _ fun vs H2 e2 a => ⟨by rw [a.len]; exact sz_of hl, fun p hp => q p vs _ (e2.free hp) (e2.trans (Same.new hp)) upd_same (a.mono (Same.new hp) h.md)⟩
theorem el_nil : EvL (tLst tNil) σ H [] := fun H1 e Q q => el_lst ea_nil (by simp) H1 e Q fun p vs H2 a b c d => by
  rw [all2_0 d] at c
  exact q p H2 a b c
theorem el_one {x : V} (h : Ev ta σ H (isV x)) : EvL (tLst (tCons ta tNil)) σ H [x] := fun H1 e Q q => el_lst (ea_cons h ea_nil) (by simp) H1 e Q fun p vs H2 a b c d => by
  obtain ⟨v, e1, e2⟩ := all2_1 d
  rw [e1, show v = x from e2] at c
  exact q p H2 a b c
theorem EvL.li {xs : List Int} (h : EvL te σ H (xs.map V.int)) : Ev te σ H (Li K xs) := ⟨Li.mono, fun H1 e Q q => h H1 e Q fun p H2 _ e2 hp => q _ H2 e2 ⟨p, rfl, SqL.of hp⟩⟩
theorem EvL.ld {xs : List V} {ds : List PV} (h : EvL te σ H xs) (m : ∀ d ∈ ds, Md d) (a : All2 ds xs H) : Ev te σ H (Ld K ds) := ⟨Ld.mono m, fun H1 e Q q => h H1 e Q fun p H2 _ e2 hp => q _ H2 e2 ⟨p, xs, rfl, SqL.of hp, a.mono (e.trans e2) m⟩⟩
/-- the promise of a def: of the arguments as described, the answer as described; all that was tracked stands -/
def Pf {α : Type} (ds : α → List PV) (ok : α → Prop) (res : α → PV) : Sp := fun vs H Q _ => ∃ a, ok a ∧ All2 (ds a) vs H ∧ ∀ v H', Same H H' → res a v H' → Q v H'
theorem ev_call {α : Type} {ds : α → List PV} {ok : α → Prop} {res : α → PV} {E : XK} {ta : TA} (a : α) (h : EvA ta σ H (ds a)) (hok : ok a) (m : Md (res a)) : Ev (tCall (Pf ds ok res) [] E ta) σ H (res a) :=
  ⟨m, fun H1 e Q q => h.run H1 e _ fun vs H2 e2 a2 => ⟨a, hok, by rw [List.append_nil]; exact a2, fun v H' e3 r => q v H' (e2.trans e3) r⟩⟩
/-- built-ins -/
theorem ev_lenT {xs : List Int} (ha : Ev ta σ H (Ti K xs)) : Ev (tCB (Evl.rLenS K) (tCons ta tNil)) σ H (isV (.int xs.length)) :=
  ⟨md_isV, fun H1 e Q q => ha.run H1 e _ fun x H2 e2 ⟨a, e3, h⟩ => ⟨a, _, by rw [e3], .inr h, by rw [List.length_map]; exact q _ H2 e2 rfl⟩⟩
theorem ev_lenL {xs : List Int} (ha : Ev ta σ H (Li K xs)) : Ev (tCB (Evl.rLenS K) (tCons ta tNil)) σ H (isV (.int xs.length)) :=
  ⟨md_isV, fun H1 e Q q => ha.run H1 e _ fun x H2 e2 ⟨a, e3, h⟩ => ⟨a, _, by rw [e3], .inl h, by rw [List.length_map]; exact q _ H2 e2 rfl⟩⟩
theorem ev_lenTD {ds : List PV} (ha : Ev ta σ H (Td K ds)) : Ev (tCB (Evl.rLenS K) (tCons ta tNil)) σ H (isV (.int ds.length)) :=
  ⟨md_isV, fun H1 e Q q => ha.run H1 e _ fun x H2 e2 ⟨a, vs, e3, h, r⟩ => ⟨a, vs, by rw [e3], .inr h, by rw [r.len]; exact q _ H2 e2 rfl⟩⟩
theorem ev_lenLD {ds : List PV} (ha : Ev ta σ H (Ld K ds)) : Ev (tCB (Evl.rLenS K) (tCons ta tNil)) σ H (isV (.int ds.length)) :=
  ⟨md_isV, fun H1 e Q q => ha.run H1 e _ fun x H2 e2 ⟨a, vs, e3, h, r⟩ => ⟨a, vs, by rw [e3], .inl h, by rw [r.len]; exact q _ H2 e2 rfl⟩⟩
theorem ev_max {a b : Nat} (ha : Ev ta σ H (isV (.int a))) (hb : Ev tb σ H (isV (.int b))) : Ev (tCB Evl.rMax2 (tCons ta (tCons tb tNil))) σ H (isV (.int (max a b : Nat))) :=
  ⟨md_isV, fun H1 e Q q => ha.run H1 e _ fun x H2 e2 p => hb.run H2 (e.trans e2) _ fun y H3 e3 p' => ⟨a, b, by rw [show x = _ from p, show y = _ from p'], by
    have : (if (b : Int) > (a : Int) then (b : Int) else (a : Int)) = ((max a b : Nat) : Int) := by
      split <;> omega
    rw [this]; exact q _ H3 (e2.trans e3) rfl⟩⟩
theorem el_list {xs : List V} (ha : ∀ H1, Same H H1 → ∀ Q : VK, (∀ v H2, Same H1 H2 → (∃ a, v = .ref a ∧ (SqL K H2 a xs ∨ SqT K H2 a xs)) → Q v H2) → ta σ H1 Q) : EvL (tCB (Evl.rListS K) (tCons ta tNil)) σ H xs := fun H1 e Q q =>
  ha H1 e _ fun v H2 e2 ⟨a, e3, h⟩ => ⟨a, xs, by rw [e3], h, fun l hl => q l _ (e2.free hl) (e2.trans (Same.new hl)) upd_same⟩
theorem el_listT {xs : List Int} (ha : Ev ta σ H (Ti K xs)) : EvL (tCB (Evl.rListS K) (tCons ta tNil)) σ H (xs.map V.int) := el_list fun H1 e Q q => ha.run H1 e Q fun v H2 e2 ⟨a, h1, h2⟩ => q v H2 e2 ⟨a, h1, .inr h2⟩
theorem el_listL {xs : List Int} (ha : Ev ta σ H (Li K xs)) : EvL (tCB (Evl.rListS K) (tCons ta tNil)) σ H (xs.map V.int) := el_list fun H1 e Q q => ha.run H1 e Q fun v H2 e2 ⟨a, h1, h2⟩ => q v H2 e2 ⟨a, h1, .inl h2⟩
/-- tuple(..) of a list -/
def rTupS (K : PySem.W.Frag) : List V → Hp → VK → Prop := fun xs H Q => ∃ p ys, xs = [.ref p] ∧ ((SqL K H p ys ∧ ∀ l, H l = none → Q (.ref l) (upd H l (.tup ys))) ∨ (SqT K H p ys ∧ Q (.ref p) H))
theorem ev_tupleL {xs : List Int} (ha : Ev ta σ H (Li K xs)) : Ev (tCB (rTupS K) (tCons ta tNil)) σ H (Ti K xs) :=
  ⟨Ti.mono, fun H1 e Q q => ha.run H1 e _ fun v H2 e2 ⟨a, e3, h⟩ => ⟨a, _, by rw [e3], .inl ⟨h, fun l hl => q _ _ (e2.trans (Same.new hl)) ⟨l, rfl, SqT.of upd_same⟩⟩⟩⟩
theorem ev_tupleLD {ds : List PV} (ha : Ev ta σ H (Ld K ds)) (m : ∀ d ∈ ds, Md d) : Ev (tCB (rTupS K) (tCons ta tNil)) σ H (Td K ds) :=
  ⟨Td.mono m, fun H1 e Q q => ha.run H1 e _ fun v H2 e2 ⟨a, vs, e3, h, r⟩ => ⟨a, vs, by rw [e3], .inl ⟨h, fun l hl => q _ _ (e2.trans (Same.new hl)) ⟨l, vs, rfl, SqT.of upd_same, r.mono (Same.new hl) m⟩⟩⟩⟩
/-- [x] * n, xs + ys -/
theorem el_rep {xs : List V} {n : Nat} (ha : EvL ta σ H xs) (hb : ∀ H1, Same H H1 → Ev tb σ H1 (isV (.int n))) (h1 : xs.length * n ≤ 100000) (h2 : n ≤ 100000) : EvL (tOp rRep ta tb) σ H (List.replicate n xs).flatten := fun H1 e Q q =>
  ha H1 e _ fun p H2 hp e2 h => (hb H2 (e.trans e2)).run H2 (Same.refl _) _ fun y H3 e3 p2 => ⟨p, n, xs, rfl, p2, e3 _ _ h, by omega, by omega, by rw [Int.toNat_natCast]; exact sz_of h1, fun l hl => by
    rw [Int.toNat_natCast]
    exact q l _ (e2.free (e3.free hl)) ((e2.trans e3).trans (Same.new hl)) upd_same⟩
theorem el_cat {xs ys : List V} (ha : EvL ta σ H xs) (hb : EvL tb σ H ys) (hl : xs.length + ys.length ≤ 100000) : EvL (tOp rCat ta tb) σ H (xs ++ ys) := fun H1 e Q q =>
  ha H1 e _ fun p H2 hp e2 h => hb H2 (e.trans e2) _ fun r H3 hr e3 h' => ⟨p, r, xs, ys, rfl, rfl, e3 _ _ h, h', sz_of hl, fun l hl => q l _ (e2.free (e3.free hl)) ((e2.trans e3).trans (Same.new hl)) upd_same⟩
theorem flat_rep (x : V) : ∀ n : Nat, (List.replicate n [x]).flatten = List.replicate n x
  | 0 => rfl
  | n + 1 => by rw [List.replicate_succ, List.flatten_cons, flat_rep x n]; rfl
theorem el_zeros {n : Nat} (hb : ∀ H1, Same H H1 → Ev tb σ H1 (isV (.int n))) (h2 : n ≤ 100000) : EvL (tOp rRep (tLst (tCons (tC (.int 0)) tNil)) tb) σ H ((List.replicate n (0 : Int)).map V.int) := by
  have := el_rep (el_one ev_c (x := .int 0)) hb (by simpa using h2) h2
  rw [flat_rep] at this
  rw [List.map_replicate]; exact this
/-- tuples of ints, == and != -/
theorem dp_ints {xs : List Int} : DpAll K H (xs.map V.int) (xs.map PyData.int) := by
  induction xs with
  | nil => exact .nil
  | cons x xs ih => exact .cons (.int x) ih
end
end Rw
end
section
set_option maxRecDepth 100000
set_option maxHeartbeats 4000000
namespace Rw
open PySem PySem.Spec PyProof.Rows L2 Rf
variable {K : PySem.W.Frag}
/-! ### tuples that are tracked; what keeps tuples -/
def Ts (xs : List Int) : PV := fun v H => ∃ a, v = .ref a ∧ H a = some (.tup (xs.map V.int))
def Tds (ds : List PV) : PV := fun v H => ∃ a vs, v = .ref a ∧ H a = some (.tup vs) ∧ All2 ds vs H
/-- tuples stay -/
structure Tk (H H' : Hp) : Prop where
  rd : ∀ a xs, Rd H a (.tup xs) → Rd H' a (.tup xs)
  at' : ∀ a xs, H a = some (.tup xs) → H' a = some (.tup xs)
theorem Tk.refl (H : Hp) : Tk H H := ⟨fun _ _ h => h, fun _ _ h => h⟩
theorem Tk.trans {H H1 H2 : Hp} (a : Tk H H1) (b : Tk H1 H2) : Tk H H2 := ⟨fun x y h => b.rd x y (a.rd x y h), fun x y h => b.at' x y (a.at' x y h)⟩
theorem Tk.of {H H' : Hp} (e : Same H H') : Tk H H' := ⟨fun _ _ h => Same.rd e h, fun _ _ h => e _ _ h⟩
theorem Tk.upd {H : Hp} {p : Addr} {o o' : HO} (h : H p = some o) (m : Mut (some o)) : Tk H (upd H p o') := by
  have ne : ∀ a xs, H a = some (.tup xs) → a ≠ p := fun a xs e z => by rw [z, h] at e; cases e; exact m
  have ne2 : ∀ a ob xs, H a = some (.frz ob (.tup xs)) → a ≠ p := fun a ob xs e z => by rw [z, h] at e; cases e; exact m
  refine ⟨fun a xs q => ?_, fun a xs q => by rw [upd_ne (ne a xs q)]; exact q⟩
  rcases q with q | ⟨ob, q⟩
  · exact .inl (by rw [upd_ne (ne a xs q)]; exact q)
  · exact .inr ⟨ob, by rw [upd_ne (ne2 a ob xs q)]; exact q⟩
theorem Tk.sqt {H H' : Hp} {a : Addr} {xs : List V} (e : Tk H H') (h : SqT K H a xs) : SqT K H' a xs := by
  rcases h with h | h
  · exact .inl (e.rd a xs h)
  · exact .inr h
def Mk (P : PV) : Prop := ∀ v H H', Tk H H' → P v H → P v H'
theorem Mk.md {P : PV} (m : Mk P) : Md P := fun v H H' e p => m v H H' (Tk.of e) p
theorem mk_isV {x : V} : Mk (isV x) := fun _ _ _ _ h => h
theorem Ts.mk {xs : List Int} : Mk (Ts xs) := fun _ _ _ e ⟨a, h, q⟩ => ⟨a, h, e.at' _ _ q⟩
theorem Ti.mk {xs : List Int} : Mk (Ti K xs) := fun _ _ _ e ⟨a, h, q⟩ => ⟨a, h, e.sqt q⟩
theorem Ts.ti {xs : List Int} {v : V} {H : Hp} (h : Ts xs v H) : Ti K xs v H := by
  obtain ⟨a, e, q⟩ := h
  exact ⟨a, e, SqT.of q⟩
theorem All2.mk {H H' : Hp} (e : Tk H H') : ∀ {ds : List PV} {vs : List V}, (∀ d ∈ ds, Mk d) → All2 ds vs H → All2 ds vs H'
  | [], [], _, _ => trivial
  | d :: ds, v :: vs, m, h => ⟨m d List.mem_cons_self v _ _ e h.1, All2.mk e (fun x hx => m x (List.mem_cons_of_mem _ hx)) h.2⟩
  | [], _ :: _, _, h => h.elim
  | _ :: _, [], _, h => h.elim
theorem Tds.mk {ds : List PV} (m : ∀ d ∈ ds, Mk d) : Mk (Tds ds) := fun _ _ _ e ⟨a, vs, h, q, r⟩ => ⟨a, vs, h, e.at' _ _ q, r.mk e m⟩
theorem Td.mk {ds : List PV} (m : ∀ d ∈ ds, Mk d) : Mk (Td K ds) := fun _ _ _ e ⟨a, vs, h, q, r⟩ => ⟨a, vs, h, e.sqt q, r.mk e m⟩
theorem Tds.mono {ds : List PV} (m : ∀ d ∈ ds, Md d) : Md (Tds ds) := fun _ _ _ e ⟨a, vs, h, q, r⟩ => ⟨a, vs, h, e _ _ q, r.mono e m⟩
theorem Tds.td {ds : List PV} {v : V} {H : Hp} (h : Tds ds v H) : Td K ds v H := by
  obtain ⟨a, vs, e, q, r⟩ := h
  exact ⟨a, vs, e, SqT.of q, r⟩
theorem Tds.ts {xs : List Int} {v : V} {H : Hp} (h : Tds (xs.map fun x => isV (.int x)) v H) : Ts xs v H := by
  obtain ⟨a, vs, e, q, r⟩ := h
  exact ⟨a, e, by rw [← all2_ints.mp r]; exact q⟩
section
variable {σ : L2.St} {H H' : Hp} {ta tb tc te : TE} {t u : TT} {P P' P1 P2 P3 : PV} {i j : Int} {r : R2}
theorem Ev.ti {xs : List Int} (h : Ev te σ H (Ts xs)) : Ev te σ H (Ti K xs) := h.to Ti.mono fun _ _ q => q.ti
theorem Ev.tdd {ds : List PV} (h : Ev te σ H (Tds ds)) (m : ∀ d ∈ ds, Md d) : Ev te σ H (Td K ds) := h.to (Td.mono m) fun _ _ q => q.td
theorem ev_tupS {ta : TA} {ds : List PV} (h : EvA ta σ H ds) (hl : ds.length ≤ 100000 := by simp) : Ev (tTup ta) σ H (Tds ds) :=
  ⟨Tds.mono h.md, fun H1 e Q q => h.run H1 e _ fun vs H2 e2 a => ⟨by rw [a.len]; exact sz_of hl, fun p hp => q (.ref p) _ (e2.trans (Same.new hp)) ⟨p, vs, rfl, upd_same, a.mono (Same.new hp) h.md⟩⟩⟩
theorem ev_t0 : Ev (tTup tNil) σ H (Ts []) := (ev_tupS ea_nil).to Ts.mk.md fun _ _ q => q.ts (xs := [])
theorem ev_t1 {z : Int} (h : Ev ta σ H (isV (.int z))) : Ev (tTup (tCons ta tNil)) σ H (Ts [z]) := (ev_tupS (ea_cons h ea_nil)).to Ts.mk.md fun _ _ q => Tds.ts (xs := [z]) q
theorem ev_t2 {z y : Int} (h : Ev ta σ H (isV (.int z))) (g : Ev tb σ H (isV (.int y))) : Ev (tTup (tCons ta (tCons tb tNil))) σ H (Ts [z, y]) := (ev_tupS (ea_cons h (ea_cons g ea_nil))).to Ts.mk.md fun _ _ q => Tds.ts (xs := [z, y]) q
theorem ev_tupleS {xs : List Int} (ha : Ev ta σ H (Li K xs)) : Ev (tCB (rTupS K) (tCons ta tNil)) σ H (Ts xs) :=
  ⟨Ts.mk.md, fun H1 e Q q => ha.run H1 e _ fun v H2 e2 ⟨a, e3, h⟩ => ⟨a, _, by rw [e3], .inl ⟨h, fun l hl => q _ _ (e2.trans (Same.new hl)) ⟨l, rfl, upd_same⟩⟩⟩⟩
theorem ev_tupleDS {ds : List PV} (ha : Ev ta σ H (Ld K ds)) (m : ∀ d ∈ ds, Md d) : Ev (tCB (rTupS K) (tCons ta tNil)) σ H (Tds ds) :=
  ⟨Tds.mono m, fun H1 e Q q => ha.run H1 e _ fun v H2 e2 ⟨a, vs, e3, h, r⟩ => ⟨a, vs, by rw [e3], .inl ⟨h, fun l hl => q _ _ (e2.trans (Same.new hl)) ⟨l, vs, rfl, upd_same, r.mono (Same.new hl) m⟩⟩⟩⟩
/-! ### == of tuples of ints -/
theorem eqvAll_ints : ∀ xs ys : List Int, PyData.eqvAll (xs.map PyData.int) (ys.map PyData.int) = decide (xs = ys)
  | [], [] => by simp [PyData.eqvAll]
  | [], y :: ys => by simp [PyData.eqvAll]
  | x :: xs, [] => by simp [PyData.eqvAll]
  | x :: xs, y :: ys => by
    rw [List.map_cons, List.map_cons, PyData.eqvAll, eqvAll_ints xs ys, PyData.eqv]
    by_cases h : x = y
    · subst h; simp
    · simp [h]
theorem depth_ints : ∀ xs : List Int, PyData.depthAll (xs.map PyData.int) = 0
  | [] => rfl
  | x :: xs => by rw [List.map_cons, PyData.depthAll, depth_ints xs, PyData.depth]; rfl
theorem lay_ints : ∀ xs : List Int, PyData.canLayAll0 (xs.map PyData.int) = true
  | [] => rfl
  | x :: xs => by rw [List.map_cons, PyData.canLayAll0, lay_ints xs, PyData.canLay0]; rfl
theorem shaped_ints (xs : List Int) : SeqAt.shaped (.tuple (xs.map PyData.int)) = true := by
  unfold SeqAt.shaped
  rw [PyData.canLay0, lay_ints, PyData.depth, depth_ints]; rfl
theorem dp_ti {xs : List Int} {v : V} (h : Ti K xs v H) : Dp K H v (.tuple (xs.map PyData.int)) := by
  obtain ⟨a, e, q⟩ := h
  rw [e]; exact .tup q dp_ints
theorem ev_eqT {xs ys : List Int} (ha : Ev ta σ H (Ti K xs)) (hb : Ev tb σ H (Ti K ys)) : Ev (tOp (rEqD K) ta tb) σ H (isV (.bl (decide (xs = ys)))) :=
  ev_op md_isV ha hb fun x y H1 _ p1 p2 Q q => ⟨_, _, dp_ti p1, dp_ti p2, shaped_ints xs, shaped_ints ys, q _ H1 (Same.refl _) (by rw [PyData.eqv, eqvAll_ints]; rfl)⟩
theorem ev_neT {xs ys : List Int} (ha : Ev ta σ H (Ti K xs)) (hb : Ev tb σ H (Ti K ys)) : Ev (tOp (rNeD K) ta tb) σ H (isV (.bl (!decide (xs = ys)))) :=
  ev_op md_isV ha hb fun x y H1 _ p1 p2 Q q => ⟨_, _, dp_ti p1, dp_ti p2, shaped_ints xs, shaped_ints ys, q _ H1 (Same.refl _) (by rw [PyData.eqv, eqvAll_ints]; rfl)⟩
/-! ### tests -/
theorem et_test {b : Bool} (h : Ev te σ H (isV (.bl b))) : EvT (tTest te) σ H b := fun H1 e Q q => h.run H1 e _ fun v H2 e2 p => ⟨b, p, q H2 e2⟩
theorem et_B {b : Bool} (h : Ev te σ H (isV (.bl b))) : EvT (tB te) σ H b := fun H1 e Q q => h.run H1 e _ fun v H2 e2 p => ⟨b, p, q H2 e2⟩
theorem et_and {a b : Bool} (h1 : EvT t σ H a) (h2 : a = true → EvT u σ H b) : EvT (tAnd t u) σ H (a && b) := fun H1 e Q q => h1 H1 e _ fun H2 e2 => by
  cases a with
  | true =>
    show u σ H2 Q
    exact h2 rfl H2 (e.trans e2) Q fun H3 e3 => q H3 (e2.trans e3)
  | false =>
    show Q false H2
    exact q H2 e2
theorem et_or {a b : Bool} (h1 : EvT t σ H a) (h2 : a = false → EvT u σ H b) : EvT (tOr t u) σ H (a || b) := fun H1 e Q q => h1 H1 e _ fun H2 e2 => by
  cases a with
  | true =>
    show Q true H2
    exact q H2 e2
  | false =>
    show u σ H2 Q
    exact h2 rfl H2 (e.trans e2) Q fun H3 e3 => q H3 (e2.trans e3)
theorem et_not {a : Bool} (h1 : EvT t σ H a) : EvT (tNot t) σ H (!a) := fun H1 e _ q => h1 H1 e _ fun H2 e2 => q H2 e2
theorem EvT.is {a b : Bool} (h : EvT t σ H a) (e : a = b) : EvT t σ H b := e ▸ h
theorem et_yes : EvT tYes σ H true := fun H1 e Q q => q H1 (Same.refl _)
theorem ev_andV {a b : Bool} (h1 : Ev ta σ H (isV (.bl a))) (h2 : a = true → Ev tb σ H (isV (.bl b))) : Ev (tAndV ta tb) σ H (isV (.bl (a && b))) := ⟨md_isV, fun H1 e Q q => h1.run H1 e _ fun v H2 e2 p => ⟨a, p, by
  cases a with
  | true =>
    show tb σ H2 Q
    exact (h2 rfl).run H2 (e.trans e2) Q fun v H3 e3 p => q v H3 (e2.trans e3) p
  | false =>
    show Q (.bl false) H2
    exact q _ H2 e2 rfl⟩⟩
theorem ev_orV {a b : Bool} (h1 : Ev ta σ H (isV (.bl a))) (h2 : a = false → Ev tb σ H (isV (.bl b))) : Ev (tOrV ta tb) σ H (isV (.bl (a || b))) := ⟨md_isV, fun H1 e Q q => h1.run H1 e _ fun v H2 e2 p => ⟨a, p, by
  cases a with
  | true =>
    show Q (.bl true) H2
    exact q _ H2 e2 rfl
  | false =>
    show tb σ H2 Q
    exact (h2 rfl).run H2 (e.trans e2) Q fun v H3 e3 p => q v H3 (e2.trans e3) p⟩⟩
theorem ev_notV {a : Bool} (h1 : Ev ta σ H (isV (.bl a))) : Ev (tNotV ta) σ H (isV (.bl (!a))) := ⟨md_isV, fun H1 e Q q => h1.run H1 e _ fun v H2 e2 p => ⟨a, p, q _ H2 e2 rfl⟩⟩
theorem ev_if {b : Bool} (h : EvT t σ H b) (m : Md P) (h1 : b = true → Ev ta σ H P) (h2 : b = false → Ev tb σ H P) : Ev (tIf t ta tb) σ H P := ⟨m, fun H1 e Q q => h H1 e _ fun H2 e2 => by
  cases b with
  | true =>
    show ta σ H2 Q
    exact (h1 rfl).run H2 (e.trans e2) Q fun v H3 e3 p => q v H3 (e2.trans e3) p
  | false =>
    show tb σ H2 Q
    exact (h2 rfl).run H2 (e.trans e2) Q fun v H3 e3 p => q v H3 (e2.trans e3) p⟩
/-- a chain of two comparisons of ints -/
theorem ev_chain {f g : Int → Int → Bool} {k : Int} (ha : Ev ta σ H (isV (.int i))) (hb : Ev tb σ H (isV (.int j))) (hc : Ev tc σ H (isV (.int k))) :
    Ev (tChain (rI0 fun i j => .bl (f i j)) (rI0 fun i j => .bl (g i j)) ta tb tc) σ H (isV (.bl (f i j && g j k))) :=
  ⟨md_isV, fun H1 e Q q => ha.run H1 e _ fun x H2 e2 p1 => hb.run H2 (e.trans e2) _ fun y H3 e3 p2 => ⟨i, j, p1, p2, f i j, rfl, by
    cases h : f i j with
    | true =>
      show tc σ H3 _
      refine hc.run H3 ((e.trans e2).trans e3) _ fun z H4 e4 p3 => ⟨j, k, p2, p3, q _ H4 ((e2.trans e3).trans e4) (by show V.bl (g j k) = V.bl (f i j && g j k); rw [h, Bool.true_and])⟩
    | false =>
      show Q (.bl false) H3
      exact q _ H3 (e2.trans e3) (by show V.bl false = V.bl (f i j && g j k); rw [h, Bool.false_and])⟩⟩
/-! ### statements -/
variable {D : Ends} {tu tw tz : L2.TS}
theorem s_set {n : Nat} (h : Ev te σ H P) (k : ∀ v H1, Same H H1 → P v H1 → D.nx (σ.set n (some v)) H1) : tAsg te (gName n) D σ H := h.run H (Same.refl _) _ fun v H1 e p => k v H1 e p
theorem q_set {n : Nat} (h : Ev te σ H P) (k : ∀ v H1, Same H H1 → P v H1 → tz D (σ.set n (some v)) H1) : tSeq (tAsg te (gName n)) tz D σ H := s_set (D := { D with nx := tz D }) h k
theorem s_setL {n : Nat} {xs : List V} (h : EvL te σ H xs) (k : ∀ p H1, H p = none → Same H H1 → H1 p = some (.lst xs) → D.nx (σ.set n (some (.ref p))) H1) : tAsg te (gName n) D σ H := h H (Same.refl _) _ fun p H1 a b c => k p H1 a b c
theorem q_setL {n : Nat} {xs : List V} (h : EvL te σ H xs) (k : ∀ p H1, H p = none → Same H H1 → H1 p = some (.lst xs) → tz D (σ.set n (some (.ref p))) H1) : tSeq (tAsg te (gName n)) tz D σ H := s_setL (D := { D with nx := tz D }) h k
theorem s_ret (h : Ev te σ H P) (k : ∀ v H1, Same H H1 → P v H1 → D.rt v H1) : tRet te D σ H := h.run H (Same.refl _) _ fun v H1 e p => k v H1 e p
theorem s_drop (h : Ev te σ H P) (k : ∀ H1, Same H H1 → D.nx σ H1) : tDrop te D σ H := h.run H (Same.refl _) _ fun _ H1 e _ => k H1 e
theorem q_drop (h : Ev te σ H P) (k : ∀ H1, Same H H1 → tz D σ H1) : tSeq (tDrop te) tz D σ H := s_drop (D := { D with nx := tz D }) h k
theorem s_if {b : Bool} (h : EvT t σ H b) (h1 : b = true → ∀ H1, Same H H1 → tu D σ H1) (h2 : b = false → ∀ H1, Same H H1 → tw D σ H1) : tIfS t tu tw D σ H := h H (Same.refl _) _ fun H1 e => by
  cases b with
  | true => exact h1 rfl H1 e
  | false => exact h2 rfl H1 e
theorem q_if {b : Bool} (h : EvT t σ H b) (h1 : b = true → ∀ H1, Same H H1 → tu { D with nx := tz D } σ H1) (h2 : b = false → ∀ H1, Same H H1 → tw { D with nx := tz D } σ H1) : tSeq (tIfS t tu tw) tz D σ H := s_if (D := { D with nx := tz D }) h h1 h2
/-- an if without else -/
theorem q_when {b : Bool} (h : EvT t σ H b) (h1 : b = true → ∀ H1, Same H H1 → tu { D with nx := tz D } σ H1) (h2 : b = false → ∀ H1, Same H H1 → tz D σ H1) : tSeq (tIfS t tu tNext) tz D σ H := s_if (D := { D with nx := tz D }) h h1 h2
theorem s_when {b : Bool} (h : EvT t σ H b) (h1 : b = true → ∀ H1, Same H H1 → tu D σ H1) (h2 : b = false → ∀ H1, Same H H1 → D.nx σ H1) : tIfS t tu tNext D σ H := s_if h h1 h2
theorem s_aug {n : Nat} {f : Int → Int → Int} {a b : Int} (hx : σ[n]? = some (some (.int a))) (h : Ev te σ H (isV (.int b))) (k : ∀ H1, Same H H1 → D.nx (σ.set n (some (.int (f a b)))) H1) : tAug n te (ipI f) D σ H :=
  ⟨.int a, hx, h.run H (Same.refl _) _ fun y H1 e p => ⟨a, b, rfl, p, k H1 e⟩⟩
theorem q_aug {n : Nat} {f : Int → Int → Int} {a b : Int} (hx : σ[n]? = some (some (.int a))) (h : Ev te σ H (isV (.int b))) (k : ∀ H1, Same H H1 → tz D (σ.set n (some (.int (f a b)))) H1) : tSeq (tAug n te (ipI f)) tz D σ H := s_aug (D := { D with nx := tz D }) hx h k
/-- l.append(e) -/
theorem s_app {l : Addr} {xs : List V} (hl : H l = some (.lst xs)) (ha : Ev ta σ H (isV (.ref l))) (h : Ev te σ H P) (hz : xs.length < 100000) (k : ∀ v H1, Same H H1 → P v H1 → D.nx σ (upd H1 l (.lst (xs ++ [v])))) :
    tDrop (tBM K "list" rAppend ta (tCons te tNil)) D σ H :=
  ha.run H (Same.refl _) _ fun x H1 e1 p => by
    rw [show x = .ref l from p]
    exact ⟨.inl ⟨rfl, _, SqL.of (e1 _ _ hl)⟩, h.run H1 e1 _ fun v H2 e2 p2 => ⟨l, xs, v, rfl, rfl, e2 _ _ (e1 _ _ hl), sz_lt hz, k v H2 (e1.trans e2) p2⟩⟩
theorem q_app {l : Addr} {xs : List V} (hl : H l = some (.lst xs)) (ha : Ev ta σ H (isV (.ref l))) (h : Ev te σ H P) (hz : xs.length < 100000) (k : ∀ v H1, Same H H1 → P v H1 → tz D σ (upd H1 l (.lst (xs ++ [v])))) :
    tSeq (tDrop (tBM K "list" rAppend ta (tCons te tNil))) tz D σ H := s_app (D := { D with nx := tz D }) hl ha h hz k
/-- l[i] = e -/
theorem s_setIx {l : Addr} {xs : List V} {n : Nat} (hl : H l = some (.lst xs)) (h : Ev te σ H P) (ho : Ev ta σ H (isV (.ref l))) (hi : Ev tb σ H (isV (.int n))) (hn : n < xs.length) (k : ∀ v H1, Same H H1 → P v H1 → D.nx σ (upd H1 l (.lst (xs.set n v)))) :
    tAsg te (gSub ta tb rSetL) D σ H :=
  h.run H (Same.refl _) _ fun v H1 e1 p => ho.run H1 e1 _ fun x H2 e2 p2 => hi.run H2 (e1.trans e2) _ fun y H3 e3 p3 => by
    refine ⟨l, xs, n, n, p2, p3, e3 _ _ (e2 _ _ (e1 _ _ hl)), ?_, k v H3 ((e1.trans e2).trans e3) (h.md v _ _ (e2.trans e3) p)⟩
    unfold ixN
    rw [if_pos (Int.natCast_nonneg n), if_pos (by omega), Int.toNat_natCast]
theorem q_setIx {l : Addr} {xs : List V} {n : Nat} (hl : H l = some (.lst xs)) (h : Ev te σ H P) (ho : Ev ta σ H (isV (.ref l))) (hi : Ev tb σ H (isV (.int n))) (hn : n < xs.length) (k : ∀ v H1, Same H H1 → P v H1 → tz D σ (upd H1 l (.lst (xs.set n v)))) :
    tSeq (tAsg te (gSub ta tb rSetL)) tz D σ H := s_setIx (D := { D with nx := tz D }) hl h ho hi hn k
/-- while -/
theorem s_while (W : Nat → L2.St → Hp → Prop) (m0 : Nat) (h0 : W m0 σ H)
    (hs : ∀ m σ' H', W m σ' H' → ∃ b, EvT t σ' H' b ∧ (b = true → ∀ H1, Same H' H1 → tu { D with nx := fun σ2 H2 => ∃ m', m' < m ∧ W m' σ2 H2, ct := fun σ2 H2 => ∃ m', m' < m ∧ W m' σ2 H2, bk := D.nx } σ' H1) ∧ (b = false → ∀ H1, Same H' H1 → D.nx σ' H1)) : tWhile t tu D σ H := by
  refine ⟨W, ⟨m0, h0⟩, fun m σ' H' w => ?_⟩
  obtain ⟨b, h1, h2, h3⟩ := hs m σ' H' w
  refine h1 H' (Same.refl _) _ fun H1 e => ?_
  cases b with
  | true => exact ⟨_, fun _ _ z => z, h2 rfl H1 e⟩
  | false => exact h3 rfl H1 e
theorem q_while (W : Nat → L2.St → Hp → Prop) (m0 : Nat) (h0 : W m0 σ H)
    (hs : ∀ m σ' H', W m σ' H' → ∃ b, EvT t σ' H' b ∧ (b = true → ∀ H1, Same H' H1 → tu { D with nx := fun σ2 H2 => ∃ m', m' < m ∧ W m' σ2 H2, ct := fun σ2 H2 => ∃ m', m' < m ∧ W m' σ2 H2, bk := tz D } σ' H1) ∧ (b = false → ∀ H1, Same H' H1 → tz D σ' H1)) : tSeq (tWhile t tu) tz D σ H :=
  s_while (D := { D with nx := tz D }) W m0 h0 hs

/-! ### what is walked -/
structure Iter (J : It) (n : Nat) (S : Hp → Prop) (P : Nat → PV) : Prop where
  go : ∀ i H, i < n → S H → J.go i H
  stop : ∀ H, S H → J.stop n H
  yld : ∀ i H x H', i < n → S H → J.yld i H x H' → Same H H' ∧ P i x H'
/-- what the walked things need of the heap, and what keeps it; L: lists that must not change -/
structure Src (H : Hp) (L : List Addr) (S : Hp → Prop) : Prop where
  same : ∀ H3 H4, Same H3 H4 → S H3 → S H4
  upd : ∀ H3 p o o', S H3 → H3 p = some o → Mut (some o) → H p ≠ none → p ∉ L → S (upd H3 p o')
theorem Src.back {H H1 : Hp} {L : List Addr} {S : Hp → Prop} (h : Src H1 L S) (e : Same H H1) : Src H L S :=
  ⟨h.same, fun H3 p o o' a b c d => h.upd H3 p o o' a b c (fun z => d (e.free z))⟩
def EvI (wi : L2.TI) (σ : L2.St) (H : Hp) (n : Nat) (P : Nat → PV) (L : List Addr) : Prop := ∀ H1, Same H H1 → ∀ R : It → Hp → Prop, (∀ J S H2, Same H1 H2 → S H2 → Src H1 L S → Iter J n S P → R J H2) → wi σ H1 R
theorem EvI.mono {wi : L2.TI} {n : Nat} {P : Nat → PV} {L : List Addr} (e : Same H H') (h : EvI wi σ H n P L) : EvI wi σ H' n P L := fun H1 a R q => h H1 (e.trans a) R q
end
end Rw
end
section
set_option maxRecDepth 100000
set_option maxHeartbeats 4000000
namespace Rw
open PySem PySem.Spec PyProof.Rows L2 Rf
variable {K : PySem.W.Frag}
section
variable {σ : L2.St} {H H' : Hp} {ta tb tc te tl : TE} {t u : TT} {P P' P1 P2 P3 : PV} {i j : Int} {r : R2}
/-- a new list of things as described -/
def ElD (te : TE) (σ : L2.St) (H : Hp) (ds : List PV) : Prop := ∀ H1, Same H H1 → ∀ Q : VK, (∀ p vs H2, H1 p = none → Same H1 H2 → H2 p = some (.lst vs) → All2 ds vs H2 → Q (.ref p) H2) → te σ H1 Q
theorem ElD.mono {ds : List PV} (e : Same H H') (h : ElD te σ H ds) : ElD te σ H' ds := fun H1 a Q q => h H1 (e.trans a) Q q
theorem ElD.ld {ds : List PV} (h : ElD te σ H ds) (m : ∀ d ∈ ds, Md d) : Ev te σ H (Ld K ds) := ⟨Ld.mono m, fun H1 e Q q => h H1 e Q fun p vs H2 _ e2 hp a => q _ H2 e2 ⟨p, vs, rfl, SqL.of hp, a⟩⟩
theorem ElD.ints {xs : List Int} (h : ElD te σ H (xs.map fun x => isV (.int x))) : EvL te σ H (xs.map V.int) := fun H1 e Q q => h H1 e Q fun p vs H2 hp e2 h2 a => q p H2 hp e2 (by rw [← all2_ints.mp a]; exact h2)
theorem EvL.eld {xs : List Int} (h : EvL te σ H (xs.map V.int)) : ElD te σ H (xs.map fun x => isV (.int x)) := fun H1 e Q q => h H1 e Q fun p H2 hp e2 h2 => q p _ H2 hp e2 h2 (all2_ints.mpr rfl)
theorem ElD.li {xs : List Int} (h : ElD te σ H (xs.map fun x => isV (.int x))) : Ev te σ H (Li K xs) := h.ints.li
theorem eld_lst {ta : TA} {ds : List PV} (h : EvA ta σ H ds) (hl : ds.length ≤ 100000 := by simp) : ElD (tLst ta) σ H ds := el_lst h hl
/-- the promise of a def that makes a list -/
def PfL {α : Type} (ds : α → List PV) (ok : α → Prop) (res : α → List PV) : Sp := fun vs H Q _ => ∃ a, ok a ∧ All2 (ds a) vs H ∧ ∀ p us H', H p = none → Same H H' → H' p = some (.lst us) → All2 (res a) us H' → Q (.ref p) H'
theorem ev_callL {α : Type} {ds : α → List PV} {ok : α → Prop} {res : α → List PV} {E : XK} {ta : TA} (a : α) (h : EvA ta σ H (ds a)) (hok : ok a) : ElD (tCall (PfL ds ok res) [] E ta) σ H (res a) :=
  fun H1 e Q q => h.run H1 e _ fun vs H2 e2 a2 => ⟨a, hok, by rw [List.append_nil]; exact a2, fun p us H' hp e3 h3 r => q p us H' (e2.free hp) (e2.trans e3) h3 r⟩
theorem q_setD {n : Nat} {D : Ends} {tz : L2.TS} {ds : List PV} (h : ElD te σ H ds) (k : ∀ p vs H1, H p = none → Same H H1 → H1 p = some (.lst vs) → All2 ds vs H1 → tz D (σ.set n (some (.ref p))) H1) : tSeq (tAsg te (gName n)) tz D σ H := h H (Same.refl _) _ fun p vs H1 a b c d => k p vs H1 a b c d
/-- lists and tuples walked -/
theorem Same.sql {H H' : Hp} {a : Addr} {xs : List V} (e : Same H H') (h : SqL K H a xs) : SqL K H' a xs := e.seq h
theorem sql_upd {a p : Addr} {xs : List V} {o' : HO} (h : SqL K H a xs) (ne : a ≠ p) : SqL K (upd H p o') a xs := by
  rcases h with (h | ⟨o, h⟩) | h
  · exact .inl (.inl (by rw [upd_ne ne]; exact h))
  · exact .inl (.inr ⟨o, by rw [upd_ne ne]; exact h⟩)
  · exact .inr h
/-- an item as described -/
def nth (ds : List PV) (i : Nat) : PV := fun x H => ∃ d, ds[i]? = some d ∧ d x H
theorem nth_int {xs : List Int} {i : Nat} {x : V} {H : Hp} (h : nth (xs.map fun x => isV (.int x)) i x H) : ∃ z, xs[i]? = some z ∧ x = .int z := by
  obtain ⟨d, h1, h2⟩ := h
  rw [List.getElem?_map] at h1
  cases e : xs[i]? with
  | none => rw [e] at h1; cases h1
  | some z =>
    rw [e] at h1
    have e3 : (isV (.int z) : PV) = d := Option.some.inj h1
    rw [← e3] at h2
    exact ⟨z, rfl, h2⟩
theorem nth_map {α : Type} {f : α → PV} {xs : List α} {i : Nat} {x : V} {H : Hp} (h : nth (xs.map f) i x H) : ∃ z, xs[i]? = some z ∧ f z x H := by
  obtain ⟨d, h1, h2⟩ := h
  rw [List.getElem?_map] at h1
  cases e : xs[i]? with
  | none => rw [e] at h1; cases h1
  | some z =>
    rw [e] at h1
    have e3 : f z = d := Option.some.inj h1
    rw [← e3] at h2
    exact ⟨z, rfl, h2⟩
theorem nth_of {ds : List PV} {vs : List V} {B : Hp} (m : ∀ d ∈ ds, Mk d) (a : All2 ds vs B) {H : Hp} (e : Tk B H) {i : Nat} {x : V} (hx : vs[i]? = some x) : nth ds i x H := by
  obtain ⟨d, h1, h2⟩ := a.get' hx
  exact ⟨d, h1, m d (List.mem_of_getElem? h1) x _ _ e h2⟩
theorem iter_t {a : Addr} {ds : List PV} {vs : List V} {B : Hp} (m : ∀ d ∈ ds, Mk d) (hv : All2 ds vs B) : Iter (Itt K a) ds.length (fun H => SqT K H a vs ∧ Tk B H) (nth ds) where
  go := fun i H hi ⟨h, _⟩ => ⟨vs, vs[i]'(by rw [hv.len]; exact hi), h, List.getElem?_eq_getElem _⟩
  stop := fun H ⟨h, _⟩ => ⟨vs, h, by rw [hv.len]; exact Nat.le_refl _⟩
  yld := fun i H x H' hi ⟨h, e⟩ ⟨e1, q⟩ => by
    rw [e1]; exact ⟨Same.refl _, nth_of m hv e (q vs h)⟩
theorem src_t {a : Addr} {vs : List V} {B H : Hp} {L : List Addr} : Src H L (fun H => SqT K H a vs ∧ Tk B H) :=
  ⟨fun H3 H4 e ⟨h, g⟩ => ⟨Same.sqt e h, g.trans (Tk.of e)⟩, fun H3 p o o' ⟨h, g⟩ hp mu _ _ => ⟨(Tk.upd hp mu).sqt h, g.trans (Tk.upd hp mu)⟩⟩
theorem ei_tup {ds : List PV} (h : Ev tl σ H (Td K ds)) (m : ∀ d ∈ ds, Mk d) : EvI (iTup K tl) σ H ds.length (nth ds) [] := fun H1 e R q => h.run H1 e _ fun v H2 e2 ⟨a, vs, e3, h3, h4⟩ =>
  ⟨a, e3, ⟨vs, h3⟩, q _ _ H2 e2 ⟨h3, Tk.refl _⟩ src_t (iter_t m h4)⟩
theorem ints_mk {xs : List Int} : ∀ d ∈ xs.map (fun x => isV (.int x)), Mk d := fun d hd => by
  obtain ⟨x, _, e⟩ := List.mem_map.mp hd
  rw [← e]; exact mk_isV
theorem ints_md {xs : List Int} : ∀ d ∈ xs.map (fun x => isV (.int x)), Md d := fun d hd => (ints_mk d hd).md
theorem ei_tupI {xs : List Int} (h : Ev tl σ H (Ti K xs)) : EvI (iTup K tl) σ H xs.length (nth (xs.map fun x => isV (.int x))) [] := by
  have := ei_tup h.td ints_mk
  rw [List.length_map] at this; exact this
theorem iter_l {a : Addr} {ds : List PV} {vs : List V} {B : Hp} (m : ∀ d ∈ ds, Mk d) (hv : All2 ds vs B) : Iter (Itl K a) ds.length (fun H => SqL K H a vs ∧ Tk B H) (nth ds) where
  go := fun i H hi ⟨h, _⟩ => ⟨vs, vs[i]'(by rw [hv.len]; exact hi), h, List.getElem?_eq_getElem _⟩
  stop := fun H ⟨h, _⟩ => ⟨vs, h, by rw [hv.len]; exact Nat.le_refl _⟩
  yld := fun i H x H' hi ⟨h, e⟩ ⟨e1, q⟩ => by
    rw [e1]; exact ⟨Same.refl _, nth_of m hv e (q vs h)⟩
theorem src_l {a : Addr} {vs : List V} {B H : Hp} {L : List Addr} (ha : a ∈ L ∨ H a = none) : Src H L (fun H => SqL K H a vs ∧ Tk B H) :=
  ⟨fun H3 H4 e ⟨h, g⟩ => ⟨e.seq h, g.trans (Tk.of e)⟩, fun H3 p o o' ⟨h, g⟩ hp mu h1 h2 => ⟨sql_upd h (fun z => by
    rcases ha with ha | ha
    · exact h2 (z ▸ ha)
    · exact h1 (z ▸ ha)), g.trans (Tk.upd hp mu)⟩⟩
/-- a list that stands at a | a new one -/
theorem ei_lst {a : Addr} {ds : List PV} {vs : List V} (h : Ev tl σ H (isV (.ref a))) (hs : SqL K H a vs) (hv : All2 ds vs H) (m : ∀ d ∈ ds, Mk d) : EvI (iList K tl) σ H ds.length (nth ds) [a] := fun H1 e R q => h.run H1 e _ fun v H2 e2 e3 =>
  ⟨a, e3, ⟨vs, (e.trans e2).seq hs⟩, q _ _ H2 e2 ⟨(e.trans e2).seq hs, Tk.of (e.trans e2)⟩ (src_l (.inl (List.mem_singleton.mpr rfl))) (iter_l m hv)⟩
theorem ei_new {ds : List PV} (h : ElD tl σ H ds) (m : ∀ d ∈ ds, Mk d) : EvI (iList K tl) σ H ds.length (nth ds) [] := fun H1 e R q => h H1 e _ fun p vs H2 hp e2 h2 hv =>
  ⟨p, rfl, ⟨vs, SqL.of h2⟩, q _ _ H2 e2 ⟨SqL.of h2, Tk.refl _⟩ (src_l (.inr hp)) (iter_l m hv)⟩
/-- range -/
theorem iter_r {lo : Int} {n : Nat} : Iter (Itr lo n) n (fun _ => True) (fun i => isV (.int (lo + i))) where
  go := fun i H hi _ => hi
  stop := fun H _ => Nat.le_refl _
  yld := fun i H x H' hi _ ⟨e1, q⟩ => by rw [e1]; exact ⟨Same.refl _, q⟩
theorem src_true {H : Hp} {L : List Addr} : Src H L (fun _ => True) := ⟨fun _ _ _ _ => trivial, fun _ _ _ _ _ _ _ _ _ => trivial⟩
theorem ei_range {n : Nat} (h : Ev ta σ H (isV (.int n))) (hn : n ≤ 100000) : EvI (iRng1 (tCons ta tNil)) σ H n (fun i => isV (.int i)) [] := fun H1 e R q => h.run H1 e _ fun v H2 e2 p => ⟨n, by rw [show v = _ from p], by omega, by omega, by
  have := q (Itr 0 n) (fun _ => True) H2 e2 trivial src_true ⟨fun i H hi _ => hi, fun H _ => Nat.le_refl _, fun i H x H' hi _ ⟨e1, q⟩ => by rw [e1]; exact ⟨Same.refl _, by rw [Int.zero_add] at q; exact q⟩⟩
  rw [Int.toNat_natCast]; exact this⟩
/-- range(n - 1, -1, -1) -/
theorem iter_c {lo c : Int} {n : Nat} : Iter (Itc lo c n) n (fun _ => True) (fun i => isV (.int (lo + (i : Nat) * c))) where
  go := fun i H hi _ => hi
  stop := fun H _ => Nat.le_refl _
  yld := fun i H x H' hi _ ⟨e1, q⟩ => by rw [e1]; exact ⟨Same.refl _, q⟩
theorem ei_down {a b : Int} (h1 : Ev ta σ H (isV (.int a))) (h2 : Ev tb σ H (isV (.int b))) (h3 : Ev tc σ H (isV (.int (-1)))) (ha : -100000 ≤ a ∧ a ≤ 100000) (hb : -100000 ≤ b ∧ b ≤ 100000) : EvI (iRng3 (tCons ta (tCons tb (tCons tc tNil)))) σ H (a - b).toNat (fun i => isV (.int (a - i))) [] := fun H1 e R q =>
  h1.run H1 e _ fun v H2 e2 p => h2.run H2 (e.trans e2) _ fun v2 H3 e3 p2 => h3.run H3 ((e.trans e2).trans e3) _ fun v3 H4 e4 p3 => ⟨a, b, -1, (a - b).toNat, by rw [show v = _ from p, show v2 = _ from p2, show v3 = _ from p3], RgC.neg (by omega) (by omega) (by omega) (by omega), by
    refine q (Itc a (-1) (a - b).toNat) (fun _ => True) H4 ((e2.trans e3).trans e4) trivial src_true ⟨fun i H hi _ => hi, fun H _ => Nat.le_refl _, fun i H x H' hi _ ⟨e1, q⟩ => ?_⟩
    rw [e1]
    refine ⟨Same.refl _, ?_⟩
    show x = V.int (a - i)
    rw [q]; congr 1; omega⟩
/-- pairs -/
def two (P1 P2 : Nat → PV) (i : Nat) : PV := fun x H => ∃ T x1 x2, x = .ref T ∧ H T = some (.tup [x1, x2]) ∧ P1 i x1 H ∧ P2 i x2 H
theorem iter_e {a : Addr} {ds : List PV} {vs : List V} {B : Hp} (m : ∀ d ∈ ds, Mk d) (hv : All2 ds vs B) : Iter (Ite K a) ds.length (fun H => SqL K H a vs ∧ Tk B H) (two (fun i => isV (.int i)) (nth ds)) where
  go := fun i H hi ⟨h, _⟩ => ⟨vs, vs[i]'(by rw [hv.len]; exact hi), h, List.getElem?_eq_getElem _⟩
  stop := fun H ⟨h, _⟩ => ⟨vs, h, by rw [hv.len]; exact Nat.le_refl _⟩
  yld := fun i H x H' hi ⟨h, e⟩ ⟨T, y, e1, e2, e3, q⟩ => by
    rw [e3]
    exact ⟨Same.new e2, T, _, _, e1, upd_same, rfl, nth_of m hv (e.trans (Tk.of (Same.new e2))) (q vs h)⟩
theorem ei_enum {ds : List PV} (h : ElD tl σ H ds) (m : ∀ d ∈ ds, Mk d) : EvI (iEnum K (tCons tl tNil)) σ H ds.length (two (fun i => isV (.int i)) (nth ds)) [] := fun H1 e R q => h H1 e _ fun p vs H2 hp e2 h2 hv =>
  ⟨p, vs, rfl, SqL.of h2, q _ _ H2 e2 ⟨SqL.of h2, Tk.refl _⟩ (src_l (.inr hp)) (iter_e m hv)⟩
theorem iter_z {a b : Addr} {ds es : List PV} {vs us : List V} {B : Hp} (md : ∀ d ∈ ds, Mk d) (me : ∀ d ∈ es, Mk d) (hv : All2 ds vs B) (hu : All2 es us B) (hl : ds.length = es.length) : Iter (Itz K a b) ds.length (fun H => (SqL K H a vs ∧ Tk B H) ∧ SqL K H b us ∧ Tk B H) (two (nth ds) (nth es)) where
  go := fun i H hi ⟨⟨h, _⟩, h', _⟩ => ⟨vs, us, vs[i]'(by rw [hv.len]; exact hi), us[i]'(by rw [hu.len]; omega), h, h', List.getElem?_eq_getElem _, List.getElem?_eq_getElem _⟩
  stop := fun H ⟨⟨h, _⟩, h', _⟩ => ⟨vs, us, h, h', .inl (by rw [hv.len]; exact Nat.le_refl _)⟩
  yld := fun i H x H' hi ⟨⟨h, e⟩, h', _⟩ ⟨T, y, z, e1, e2, e3, q, q'⟩ => by
    rw [e3]
    have e4 := e.trans (Tk.of (Same.new (o := .tup [y, z]) e2))
    exact ⟨Same.new e2, T, _, _, e1, upd_same, nth_of md hv e4 (q vs h), nth_of me hu e4 (q' us h')⟩
theorem Src.and {H : Hp} {L : List Addr} {S S' : Hp → Prop} (a : Src H L S) (b : Src H L S') : Src H L (fun H => S H ∧ S' H) :=
  ⟨fun H3 H4 e h => ⟨a.same H3 H4 e h.1, b.same H3 H4 e h.2⟩, fun H3 p o o' h x y z w => ⟨a.upd H3 p o o' h.1 x y z w, b.upd H3 p o o' h.2 x y z w⟩⟩
/-- zip of two new lists | of two lists that stand -/
theorem ei_zipN {ds es : List PV} (h : ElD ta σ H ds) (g : ElD tb σ H es) (md : ∀ d ∈ ds, Mk d) (me : ∀ d ∈ es, Mk d) (hl : ds.length = es.length) : EvI (RZ.iZipA K (tCons ta (tCons tb tNil))) σ H ds.length (two (nth ds) (nth es)) [] := fun H1 e R q =>
  h H1 e _ fun p vs H2 hp e2 h2 hv => g H2 (e.trans e2) _ fun p' us H3 hp' e3 h3 hu => ⟨p, p', vs, us, rfl, .inl ⟨SqL.of (e3 _ _ h2), SqL.of h3, q _ _ H3 (e2.trans e3) ⟨⟨SqL.of (e3 _ _ h2), Tk.refl _⟩, SqL.of h3, Tk.refl _⟩
    ((src_l (.inr hp)).and (src_l (.inr (e2.free hp')))) (iter_z md me (hv.mono e3 fun d hd => (md d hd).md) hu hl)⟩⟩
theorem ei_zipL {a b : Addr} {ds es : List PV} {vs us : List V} (h : Ev ta σ H (isV (.ref a))) (g : Ev tb σ H (isV (.ref b))) (hs : SqL K H a vs) (hs' : SqL K H b us) (hv : All2 ds vs H) (hu : All2 es us H) (md : ∀ d ∈ ds, Mk d) (me : ∀ d ∈ es, Mk d) (hl : ds.length = es.length) :
    EvI (RZ.iZipA K (tCons ta (tCons tb tNil))) σ H ds.length (two (nth ds) (nth es)) [a, b] := fun H1 e R q =>
  h.run H1 e _ fun x H2 e2 p => g.run H2 (e.trans e2) _ fun y H3 e3 p' => ⟨a, b, vs, us, by rw [show x = _ from p, show y = _ from p'], by
    have e4 := (e.trans e2).trans e3
    exact .inl ⟨e4.seq hs, e4.seq hs', q _ _ H3 (e2.trans e3) ⟨⟨e4.seq hs, Tk.refl _⟩, e4.seq hs', Tk.refl _⟩ ((src_l (.inl (by simp))).and (src_l (.inl (by simp)))) (iter_z md me (hv.mono e4 fun d hd => (md d hd).md) (hu.mono e4 fun d hd => (me d hd).md) hl)⟩⟩
theorem iter_zt {a b : Addr} {ds es : List PV} {vs us : List V} {B : Hp} (md : ∀ d ∈ ds, Mk d) (me : ∀ d ∈ es, Mk d) (hv : All2 ds vs B) (hu : All2 es us B) (hl : ds.length = es.length) : Iter (RZ.ItzT K a b) ds.length (fun H => (SqT K H a vs ∧ Tk B H) ∧ SqT K H b us ∧ Tk B H) (two (nth ds) (nth es)) where
  go := fun i H hi ⟨⟨h, _⟩, h', _⟩ => ⟨vs, us, vs[i]'(by rw [hv.len]; exact hi), us[i]'(by rw [hu.len]; omega), h, h', List.getElem?_eq_getElem _, List.getElem?_eq_getElem _⟩
  stop := fun H ⟨⟨h, _⟩, h', _⟩ => ⟨vs, us, h, h', .inl (by rw [hv.len]; exact Nat.le_refl _)⟩
  yld := fun i H x H' hi ⟨⟨h, e⟩, h', _⟩ ⟨T, y, z, e1, e2, e3, q, q'⟩ => by
    rw [e3]
    have e4 := e.trans (Tk.of (Same.new (o := .tup [y, z]) e2))
    exact ⟨Same.new e2, T, _, _, e1, upd_same, nth_of md hv e4 (q vs h), nth_of me hu e4 (q' us h')⟩
theorem ei_zipT {ds es : List PV} (h : Ev ta σ H (Td K ds)) (g : Ev tb σ H (Td K es)) (md : ∀ d ∈ ds, Mk d) (me : ∀ d ∈ es, Mk d) (hl : ds.length = es.length) :
    EvI (RZ.iZipA K (tCons ta (tCons tb tNil))) σ H ds.length (two (nth ds) (nth es)) [] := fun H1 e R q =>
  h.run H1 e _ fun x H2 e2 p => g.run H2 (e.trans e2) _ fun y H3 e3 ⟨b, us, p', q', hu⟩ => by
    obtain ⟨a, vs, p, q0, hv⟩ := h.md x _ _ e3 p
    refine ⟨a, b, vs, us, by rw [p, p'], .inr ⟨q0, q', q _ _ H3 (e2.trans e3) ⟨⟨q0, Tk.refl _⟩, q', Tk.refl _⟩ (src_t.and src_t) (iter_zt md me hv hu hl)⟩⟩
theorem ei_zipTI {xs ys : List Int} (h : Ev ta σ H (Ti K xs)) (g : Ev tb σ H (Ti K ys)) (hl : xs.length = ys.length) :
    EvI (RZ.iZipA K (tCons ta (tCons tb tNil))) σ H xs.length (two (nth (xs.map fun x => isV (.int x))) (nth (ys.map fun x => isV (.int x)))) [] := by
  have := ei_zipT h.td g.td ints_mk ints_mk (by rw [List.length_map, List.length_map]; exact hl)
  rw [List.length_map] at this; exact this
theorem ei_zipLI {xs ys : List Int} (h : EvL ta σ H (xs.map V.int)) (g : EvL tb σ H (ys.map V.int)) (hl : xs.length = ys.length) :
    EvI (RZ.iZipA K (tCons ta (tCons tb tNil))) σ H xs.length (two (nth (xs.map fun x => isV (.int x))) (nth (ys.map fun x => isV (.int x)))) [] := by
  have := ei_zipN (K := K) h.eld g.eld ints_mk ints_mk (by rw [List.length_map, List.length_map]; exact hl)
  rw [List.length_map] at this; exact this
/-- a pair taken apart -/
theorem g_pair {n m : Nat} {T : Addr} {x1 x2 : V} {k : L2.St → Hp → Prop} (h : H T = some (.tup [x1, x2])) (q : k ((σ.set n (some x1)).set m (some x2)) H) : gTup K 2 (gCons (gName n) (gCons (gName m) gNil)) (.ref T) σ H k :=
  ⟨T, [x1, x2], rfl, SqT.of h, rfl, x1, [x2], rfl, x2, [], rfl, rfl, q⟩
/-- for -/
theorem s_for {wi : L2.TI} {g : TG} {tu : L2.TS} {D : Ends} {n : Nat} {P : Nat → PV} {L : List Addr} (he : EvI wi σ H n P L) (Pv : (Hp → Prop) → Hp → Nat → L2.St → Hp → Prop)
    (h0 : ∀ S B, Same H B → S B → Src H L S → Pv S B 0 σ B) (hS : ∀ S B i σ' H', Src H L S → i ≤ n → Pv S B i σ' H' → S H')
    (hs : ∀ S B i σ' H', Same H B → i < n → Src H L S → Pv S B i σ' H' → ∀ x H'', Same H' H'' → P i x H'' → g x σ' H'' fun σ2 H2 => tu { D with nx := Pv S B (i + 1), ct := Pv S B (i + 1), bk := D.nx } σ2 H2)
    (hd : ∀ S B σ' H', Same H B → Pv S B n σ' H' → D.nx σ' H') : tFor wi g tu D σ H := he H (Same.refl _) _ fun J S H2 e2 s2 src it => by
  refine ⟨fun i m σ' H' => m = n - i ∧ i ≤ n ∧ Pv S H2 i σ' H', ⟨n, by simp, Nat.zero_le _, h0 S H2 e2 s2 src⟩, ?_⟩
  rintro i m σ' H' ⟨rfl, hi, p⟩
  have q := hS S H2 i σ' H' src hi p
  by_cases hlt : i < n
  · exact .inr ⟨it.go i H' hlt q, Pv S H2 (i + 1), fun σ3 H3 p' => ⟨n - (i + 1), by omega, rfl, hlt, p'⟩, fun x H'' y => by
      obtain ⟨a, b⟩ := it.yld i H' x H'' hlt q y
      exact hs S H2 i σ' H' e2 hlt src p x H'' a b⟩
  · have e : i = n := by omega
    subst e
    exact .inl ⟨it.stop H' q, hd S H2 σ' H' e2 p⟩
theorem q_for {wi : L2.TI} {g : TG} {tu tz : L2.TS} {D : Ends} {n : Nat} {P : Nat → PV} {L : List Addr} (he : EvI wi σ H n P L) (Pv : (Hp → Prop) → Hp → Nat → L2.St → Hp → Prop)
    (h0 : ∀ S B, Same H B → S B → Src H L S → Pv S B 0 σ B) (hS : ∀ S B i σ' H', Src H L S → i ≤ n → Pv S B i σ' H' → S H')
    (hs : ∀ S B i σ' H', Same H B → i < n → Src H L S → Pv S B i σ' H' → ∀ x H'', Same H' H'' → P i x H'' → g x σ' H'' fun σ2 H2 => tu { D with nx := Pv S B (i + 1), ct := Pv S B (i + 1), bk := tz D } σ2 H2)
    (hd : ∀ S B σ' H', Same H B → Pv S B n σ' H' → tz D σ' H') : tSeq (tFor wi g tu) tz D σ H := s_for (D := { D with nx := tz D }) he Pv h0 hS hs hd
/-! ### comprehensions -/
def given (n : Nat) (f : Nat → Bool) (d : Nat → PV) : List PV := ((List.range n).filter f).map d
theorem given_yes {n : Nat} {f : Nat → Bool} {d : Nat → PV} (h : f n = true) : given (n + 1) f d = given n f d ++ [d n] := by
  unfold given
  rw [List.range_succ, List.filter_append, List.map_append, List.filter_cons, if_pos h]; rfl
theorem given_no {n : Nat} {f : Nat → Bool} {d : Nat → PV} (h : f n = false) : given (n + 1) f d = given n f d := by
  unfold given
  rw [List.range_succ, List.filter_append, List.map_append, List.filter_cons, if_neg (by rw [h]; decide)]
  show _ ++ [] = _
  rw [List.append_nil]
theorem given_len (n : Nat) (f : Nat → Bool) (d : Nat → PV) : (given n f d).length ≤ n := by
  unfold given
  rw [List.length_map]
  have h := List.length_filter_le f (List.range n)
  rw [List.length_range] at h
  exact h
theorem given_mem {n : Nat} {f : Nat → Bool} {d : Nat → PV} {x : PV} (h : x ∈ given n f d) : ∃ i, i < n ∧ x = d i := by
  unfold given at h
  obtain ⟨i, h1, h2⟩ := List.mem_map.mp h
  exact ⟨i, List.mem_range.mp (List.mem_filter.mp h1).1, h2.symm⟩
theorem eld_lc {wi : L2.TI} {g : TG} {tt : TT} {vs : List Nat} {n : Nat} {P : Nat → PV} {L : List Addr} (he : EvI wi σ H n P L) (hn : n ≤ 50000) (f : Nat → Bool) (d : Nat → PV) (m : ∀ i, i < n → Mk (d i))
    (hs : ∀ i x H1, i < n → Same H H1 → P i x H1 → ∃ τ : L2.St, (∀ k : L2.St → Hp → Prop, k τ H1 → g x (wipe σ vs) H1 k) ∧ wipe τ vs = wipe σ vs ∧ EvT tt τ H1 (f i) ∧ (f i = true → Ev te τ H1 (d i))) :
    ElD (tLc wi g tt te vs) σ H (given n f d) := fun H1 e Q q => he H1 e _ fun J S H2 e2 s2 src it D hD => by
  refine ⟨fun i mm H' => mm = n - i ∧ i ≤ n ∧ Same H2 H' ∧ ∃ us, H' D = some (.lst us) ∧ All2 (given i f d) us H', ⟨n, by simp, Nat.zero_le _, Same.new hD, [], upd_same, trivial⟩, ?_⟩
  rintro i mm H' ⟨rfl, hi, e3, us, hus, ha⟩
  have q' := src.same H2 H' e3 s2
  by_cases hlt : i < n
  · refine .inr ⟨it.go i H' hlt q', fun H3 => Same H2 H3 ∧ ∃ us, H3 D = some (.lst us) ∧ All2 (given (i + 1) f d) us H3, fun H3 p' => ⟨n - (i + 1), by omega, rfl, hlt, p'⟩, fun x H'' y => ?_⟩
    obtain ⟨a, b⟩ := it.yld i H' x H'' hlt q' y
    obtain ⟨τ, h1, h2, h3, h4⟩ := hs i x H'' hlt (((e.trans e2).trans e3).trans a) b
    refine h1 _ ⟨h2, h3 H'' (Same.refl _) _ fun H3 e4 => ?_⟩
    have mm : ∀ x ∈ given i f d, Mk x := fun x hx => by
      obtain ⟨j, hj, e5⟩ := given_mem hx
      rw [e5]; exact m j (by omega)
    cases hf : f i with
    | true =>
      show te τ H3 _
      refine (h4 hf).run H3 e4 _ fun v H4 e5 p => ⟨us, e5 _ _ (e4 _ _ (a _ _ hus)), sz_lt (by rw [ha.len]; have := given_len i f d; omega), Same.mut ((e3.trans a).trans (e4.trans e5)) hD, us ++ [v], upd_same, ?_⟩
      rw [given_yes hf]
      have tk : Tk H4 (upd H4 D (.lst (us ++ [v]))) := Tk.upd (e5 _ _ (e4 _ _ (a _ _ hus))) trivial
      exact All2.app (ha.mk (((Tk.of a).trans (Tk.of e4)).trans ((Tk.of e5).trans tk)) mm) ⟨m i hlt v _ _ tk p, trivial⟩
    | false =>
      show Same H2 H3 ∧ _
      refine ⟨(e3.trans a).trans e4, us, e4 _ _ (a _ _ hus), ?_⟩
      rw [given_no hf]
      exact ha.mk ((Tk.of a).trans (Tk.of e4)) mm
  · have e4 : i = n := by omega
    subst e4
    exact .inl ⟨it.stop H' q', q D us H' (e2.free hD) (e2.trans e3) hus ha⟩
theorem given_all (n : Nat) (d : Nat → PV) : given n (fun _ => true) d = (List.range n).map d := by
  unfold given; rw [List.filter_eq_self.mpr fun _ _ => rfl]
end
end Rw
end
section
set_option maxRecDepth 100000
set_option maxHeartbeats 4000000
namespace HT
open PySem
theorem list_extend_tupD (l : Addr) (items : Array Value) (n : Nat) (b : Addr) (items2 : Array Value) (n2 : Nat) (dct : Option Addr) (sl : Array (Option Value)) (hs0 : ¬(!items.isEmpty && Builtin.List.listTooLong (items.size + items2.size)) = true) (hs1 : items.size ≤ sizeLine) (hs2 : items.size + items2.size ≤ sizeLine + 1) :
    Meets (Builtin.«list.extend» ⟨[.ref l, .ref b], []⟩) (fun _ R s => s.heap.get? l = some { cls := .type "list", dict := none, data := .seq items n, slots := #[] } ∧ s.heap.get? b = some { cls := .type "tuple", dict := dct, data := .seq items2 n2, slots := sl } ∧ R (.ok (.ret Value.none)) { s with heap := s.heap.update l (Obj.mapSeq fun x => x ++ items2), toks := s.toks }) :=
  .of_wp fun prog w A R s h => by
    obtain ⟨hp, g, d, tk, os⟩ := s; obtain ⟨hl, hb, h⟩ := h; have f1 := AutoSeq1.idx_int; have f2 := AutoSeq1.sub_tuple_tuple; have f3 := AutoSeq1.sub_list_list; have f4 := AutoSeq1.sub_tuple_list; have f5 := AutoSeq1.sub_list_tuple;
    have hz' : (items ++ items2).size ≤ sizeLine + 1 := by rw [Array.size_append]; exact hs2
    wp_walk using (wpAny_updateSeq hl rfl (hz := hs1) (_hz' := hz')), AutoSeq1.wpAny_loadPart' hl, AutoSeq1.wpAny_loadPart' hb; exact ⟨_, rfl, h⟩
end HT
namespace HT
open PySem PySem.Spec PyProof.Rows
variable {prog : Program} {w : World} {A : Around} {E : Value → Shared → Prop} {s : Shared}
theorem rev_places (n : Nat) : Builtin.Slice.slicePlaces ((n : Int) - 1) (-1) (-1) = n := by
  unfold Builtin.Slice.slicePlaces
  have h1 : ¬ ((-1 : Int) > 0) := by omega
  simp only [h1, if_false]
  rw [show (-(-1) : Int) = 1 by omega, Int.ediv_one]
  split <;> omega
theorem rev_pick (xs : Array Value) : ((List.range xs.size).filterMap fun (m : Nat) => xs[(((xs.size : Int) - 1) + (m : Int) * (-1)).toNat]?).toArray = xs.toList.reverse.toArray := by
  congr 1
  apply List.ext_getElem?
  intro i
  have key : ∀ k, k ≤ xs.size → ((List.range k).filterMap fun (m : Nat) => xs[(((xs.size : Int) - 1) + (m : Int) * (-1)).toNat]?) = (xs.toList.reverse).take k := by
    intro k
    induction k with
    | zero => intro _; simp
    | succ k ih =>
      intro hk
      rw [List.range_succ, List.filterMap_append, ih (by omega), List.take_add_one]
      have e : (((xs.size : Int) - 1) + (k : Int) * (-1)).toNat = xs.size - 1 - k := by omega
      have e2 : xs[(((xs.size : Int) - 1) + (k : Int) * (-1)).toNat]? = some xs[xs.size - 1 - k] := by
        rw [e]; exact Array.getElem?_eq_getElem (by omega)
      have e3 : xs.toList.reverse[k]? = some xs[xs.size - 1 - k] := by
        rw [List.getElem?_reverse (by rw [Array.length_toList]; omega)]
        simp only [Array.length_toList, Array.getElem?_toList]
        exact Array.getElem?_eq_getElem (by omega)
      rw [e3]
      show _ ++ (List.filterMap _ [k]) = _
      rw [List.filterMap_cons, e2]; rfl
  rw [key xs.size (Nat.le_refl _), List.take_of_length_le (by simp)]
theorem sliceApplied_rev {sl : Addr} {vl vu vs : Value} {n : Nat} {Q : Int × Int × Nat → Shared → Prop} (hs : s.heap.IsSliceOf sl vl vu vs) (pl : IsPart vl none) (pu : IsPart vu none) (ps : IsPart vs (some (-1)))
    (h : Q ((n : Int) - 1, -1, n) s) : wpAny (model prog w) A (Builtin.Slice.sliceApplied (.ref sl) (pure (n : Int))) Q E s := by
  obtain ⟨os, hos, hcs, hds⟩ := id hs
  unfold Builtin.Slice.sliceApplied Builtin.Slice.sliceFields
  refine wpAny_bind (wpAny_bind (wpAny_field hos hds (x := vl) rfl (wpAny_bind (wpAny_field hos hds (x := vu) rfl (wpAny_bind (wpAny_field hos hds (x := vs) rfl (wpAny_pure ?_)))))))
  refine wpAny_bind (slicePart_ ps ?_)
  show wpAny _ _ (if ((-1 : Int) == 0) = true then _ else _) _ _ s
  rw [if_neg (by decide)]
  refine wpAny_bind (slicePart_ pl (wpAny_bind (slicePart_ pu (wpAny_bind (wpAny_pure ?_)))))
  show wpAny _ _ (pure ((n : Int) - 1, (-1 : Int), Builtin.Slice.slicePlaces ((n : Int) - 1) (-1) (-1))) _ _ s
  rw [rev_places]
  exact wpAny_pure h
theorem getItem_tuple_rev {t sl : Addr} {items : Array Value} {vl vu vs : Value} {Q : Value → Shared → Prop} (ht : IsTup s.heap t items) (hs : s.heap.IsSliceOf sl vl vu vs) (pl : IsPart vl none) (pu : IsPart vu none) (ps : IsPart vs (some (-1)))
    (h : Q (.ref s.heap.objs.size) { s with heap := s.heap.push { cls := .type "tuple", data := .seq items.toList.reverse.toArray } })
    (hsz : items.size ≤ sizeLine) : wpAny (model prog w) A (getItem (.ref t) (.ref sl)) Q E s := by
  have htake : sizeOk (.seq items.toList.reverse.toArray) := by
    show items.toList.reverse.toArray.size ≤ sizeLine
    rw [List.size_toArray, List.length_reverse, Array.length_toList]
    exact hsz
  obtain ⟨os, hos, hcs, hds⟩ := id hs
  have hTs : s.TypeIs (.ref sl) "slice" := ⟨os, hos, hcs⟩
  unfold getItem
  try with_reducible refine wpAny_holding ?_
  first | refine wpAny_bind (wpAny_pure ?_) | skip
  refine wpAny_bind (wpAny_sequenceKey ht.typeIs (by decide) ?_)
  refine wpAny_bind (wpAny_callSpecial?_slot (name := Str.ofString "__getitem__") ht.typeIs PyProof.Rows.slot_tuple_getitem
    (wpAny_call_entry PyProof.Rows.slot_tuple_getitem ht.typeIs entry_tuple_getitem ?_ (args_tuple_getitem _ _)))
  show wpAny _ _ (Builtin.Tuple.tupleItemsOf (.ref t) >>= _) _ _ s
  refine wpAny_bind (tupleItemsOf_ ht ?_)
  refine wpAny_bind (wpAny_typeOf hTs ?_)
  rw [if_pos (by decide)]
  refine wpAny_bind (sliceApplied_rev hs pl pu ps ?_)
  show wpAny _ _ (if ((((items.size : Int) - 1) == 0 && (-1 : Int) == 1 && items.size == items.size)) = true then _ else _) _ _ s
  rw [if_neg (by simp), rev_pick]
  first
    | exact wpAny_bind (m := Builtin.Tuple.tupleExact _) (wpAny_newObj_type (wpAny_pure ⟨_, rfl, wpAny_pure h⟩) htake)
    | exact wpAny_bind (m := Builtin.Tuple.tupleExact _) (wpAny_newObj_type (wpAny_bind (wpAny_pure (wpAny_pure ⟨_, rfl, wpAny_pure h⟩))) htake)
    | exact wpAny_bind (wpAny_bind (m := Builtin.Tuple.tupleExact _) (wpAny_newObj_type (wpAny_pure (wpAny_pure ⟨_, rfl, wpAny_pure h⟩)) htake))
    | exact wpAny_bind (wpAny_bind (m := Builtin.Tuple.tupleExact _) (wpAny_newObj_type (wpAny_pure ⟨_, rfl, wpAny_pure h⟩) htake))
theorem meets_enumerate_newT (l : Addr) (items : Array Value) (n : Nat) (dct : Option Addr) (sl : Array (Option Value)) :
    Meets (Builtin.«enumerate.__new__» ⟨[.type "enumerate", .ref l], []⟩) (fun _ R s => s.heap.get? l = some { cls := .type "tuple", dict := dct, data := .seq items n, slots := sl } ∧
      R (.ok (.ret (.ref (s.heap.push { cls := .type "tuple_iterator", data := .fields #[.ref l, .int 0 0] }).objs.size)))
        { s with heap := (s.heap.push { cls := .type "tuple_iterator", data := .fields #[.ref l, .int 0 0] }).push { cls := .type "enumerate", data := .fields #[.none, .bool false, .ref s.heap.objs.size, rawInt 0, .none, .none] } }) :=
  .of_wp fun prog w A R s h => by
    obtain ⟨hp, g, d, tk, os⟩ := s; obtain ⟨hl, h⟩ := h
    have hsub := sub_enumerate
    have hL : Heap.IsTuple (Shared.heap ⟨hp, g, d, tk, os⟩) l items := ⟨_, hl, rfl, n, rfl⟩
    wp_walk using wpAny_loadPart' hl
    refine wpAny_stack_any fun st => wpAny_pure ?_
    split
    · rename_i c _ _ _ _ _
      cases (c == Value.type "enumerate")
      · wp_walk using wpAny_loadPart' hl, wpAny_pyIter_tuple hL
        exact ⟨_, rfl, h⟩
      · wp_walk using wpAny_loadPart' hl, wpAny_pyIter_tuple hL
        exact ⟨_, rfl, h⟩
    · wp_walk using wpAny_loadPart' hl, wpAny_pyIter_tuple hL
      exact ⟨_, rfl, h⟩
theorem call_enumerate_tuple {l : Addr} {items : Array Value} {Q : Value → Shared → Prop} (hL : s.heap.IsTuple l items)
    (h : ∀ h', IsEnum h' (s.heap.objs.size + 1) s.heap.objs.size 0 .none → h'.IsTupleIter s.heap.objs.size l 0 → h'.objs.size = s.heap.objs.size + 2 →
      (∀ b o, s.heap.get? b = some o → h'.get? b = some o) → Q (.ref (s.heap.objs.size + 1)) { s with heap := h' }) :
    wpAny (model prog w) A (call (.type "enumerate") [.ref l]) Q E s := by
  obtain ⟨⟨c, dct, dt, sl⟩, hl, hc, n, hd⟩ := hL
  replace hc : c = .type "tuple" := hc
  replace hd : dt = .seq items n := hd
  subst hc hd
  refine callType_new F.called_enumerate (by decide) (F.typeCall_enumerate_1 _) (F.newCall_enumerate_1 _) (fun obj => F.args_object_init_2 obj _) F.entry_enumerate_new
    (meets_enumerate_newT l items n dct sl) ⟨hl, ?_⟩
  have hz : (s.heap.push { cls := .type "tuple_iterator", data := .fields #[.ref l, .int 0 0] }).objs.size = s.heap.objs.size + 1 := Heap.size_push ..
  show _ ∧ _
  rw [hz]
  have he : IsEnum ((s.heap.push { cls := .type "tuple_iterator", data := .fields #[.ref l, .int 0 0] }).push
      { cls := .type "enumerate", data := .fields #[.none, .bool false, .ref s.heap.objs.size, rawInt 0, .none, .none] }) (s.heap.objs.size + 1) s.heap.objs.size 0 .none := by
    have := Heap.get?_push_size (s.heap.push { cls := .type "tuple_iterator", data := .fields #[.ref l, .int 0 0] })
      (o := { cls := .type "enumerate", data := .fields #[.none, .bool false, .ref s.heap.objs.size, rawInt 0, .none, .none] }) rfl
    rw [hz] at this; exact this
  refine ⟨⟨_, he, rfl⟩, h _ he ⟨_, Heap.get?_push_of_some _ (Heap.get?_push_size _ rfl), rfl, rfl⟩ (by rw [Heap.size_push, hz]) fun b o x => Heap.get?_push_of_some _ (Heap.get?_push_of_some _ x)⟩
theorem draws_tuple (hh : A.handled = none) (it l : Addr) (hne : l ≠ it) (items : Array Value) :
    Draws prog w A it [it, l] items.size (fun i v => items[i]? = some v) (fun i h => h.IsTupleIter it l i ∧ h.IsTuple l items) where
  live := fun _ _ st => let ⟨o, ho, _⟩ := st.1; ⟨o, ho⟩
  frame := fun _ _ _ st hk => ⟨st.1.at fun o e => hk it (by simp) o e, let ⟨o, ho, c⟩ := st.2; ⟨o, hk l (by simp) o ho, c⟩⟩
  item := fun i s Q E hi st hQ => by
    refine RZ.nextOf_tuple_item st.1 st.2 (x := items[i]) (by simp [hi]) fun h' hit' hs' => ?_
    exact hQ _ h' s.toks (by simp [hi]) ⟨hit', let ⟨o, ho, c⟩ := st.2; ⟨o, (hs'.2 l hne).trans ho, c⟩⟩ hs'
  done := fun s Q E st hE => RZ.nextOf_tuple_end hh st.1 st.2 (by simp) hE
end HT
namespace Rw
open PySem PySem.Spec PyProof.Rows L2 Rf
/-! ### t[::-1] of a tuple -/
def tRevT (K : PySem.W.Frag) (te : TE) : TE := fun σ H Q => te σ H fun x H1 => ∃ a xs, x = .ref a ∧ SqT K H1 a xs ∧ ∀ p, H1 p = none → Q (.ref p) (upd H1 p (.tup xs.reverse))
theorem pe_revT {X : Cx} {e : Expr} {te : TE} {k : Nat} {p1 p2 p3 pos : Pos} (he : PE X e te) : PE X (.Subscript e (.Slice none none (some (.UnaryOp .USub (.Constant (.int 1) k p1) p2)) p3) pos) (tRevT X.K te) := by
  refine ⟨fun pins s σ H Q I h => ?_⟩
  refine Subscript_ (thn (he.run pins s σ H _ I h) fun v s1 ⟨x, H1, I1, r1, q1⟩ => ?_)
  obtain ⟨a, xs, ex, hx, q⟩ := q1
  subst ex
  cases r1
  have hst : PO X (some (.UnaryOp .USub (.Constant (.int 1) k p1) p2)) (tPart (tUn (rU fun i => .int (-i)) (tC (.int 1)))) := po_some (pe_un un_neg pe_int)
  refine wpAny_Slice (thn (po_none.run pins s1 σ H1 (fun o H2 => o = none ∧ H2 = H1) I1 ⟨rfl, rfl⟩) fun vl s2 ⟨l, H2, I2, pl, el, e2⟩ => ?_)
  subst el e2
  refine thn (po_none.run pins s2 σ H2 (fun o H3 => o = none ∧ H3 = H2) I2 ⟨rfl, rfl⟩) fun vu s3 ⟨u, H3, I3, pu, eu, e3⟩ => ?_
  subst eu e3
  refine thn (hst.run pins s3 σ H3 (fun o H4 => o = some (-1) ∧ H4 = H3) I3 ⟨1, rfl, -1, rfl, rfl, rfl⟩) fun vs s4 ⟨o, H4, I4, ps, eo, e4⟩ => ?_
  subst eo e4
  have I5 : Inv X pins σ H4 { s4 with heap := s4.heap.push { cls := .type "slice", data := .fields #[vl, vu, vs] } } := I4.kept (t' := s4.toks) fun b ob q => Heap.get?_push_of_some _ q
  obtain ⟨its, r, ht, hz⟩ := I5.tuple hx
  have hlen := r.length
  show wpAny (model X.prog X.w) X.A (subscriptTail e (.Slice none none (some (.UnaryOp .USub (.Constant (.int 1) k p1) p2)) p3) (.ref a) (.ref s4.heap.objs.size)) (EP X pins σ Q) X.xe { s4 with heap := s4.heap.push { cls := .type "slice", data := .fields #[vl, vu, vs] } }
  refine tail_any (ops := [.ref a, .ref s4.heap.objs.size]) ht.typeIs PyProof.Rows.slot_tuple_getitem.lookup ?_ (by with_unfolding_all rfl)
  refine HT.getItem_tuple_rev ht (Heap.IsSliceOf.new _ vl vu vs) pl pu ps ?_ (by rw [List.size_toArray]; omega)
  refine ⟨.ref _, _, I5.laid (t' := s4.toks) (o := .tup xs.reverse) (fun b ob q => Heap.get?_push_of_some _ q) (Nat.le_refl _) ?_, rfl, q _ (I5.hok.fresh (Nat.le_refl _))⟩
  exact ⟨by rw [List.length_reverse]; exact hz, _, r.reverse, ⟨_, Heap.get?_push_size _ rfl, rfl, _, rfl⟩⟩
/-! ### enumerate over a tuple -/
def IteT (K : PySem.W.Frag) (a : Addr) : It :=
  ⟨fun i H => ∃ (xs : List V) (x : V), SqT K H a xs ∧ xs[i]? = some x, fun i H v H' => ∃ T x, v = .ref T ∧ H T = none ∧ H' = upd H T (.tup [.int (i : Nat), x]) ∧ ∀ xs, SqT K H a xs → xs[i]? = some x, fun i H => ∃ xs : List V, SqT K H a xs ∧ xs.length ≤ i⟩
theorem turn_enumT {P : Program} {w : World} {K : PySem.W.Frag} {elts : List Expr} {kk : Nat} {tpos : Pos} (a e it : Addr) :
    Turn P w K (.Tuple elts kk tpos) (IteT K a) [e, it] e (fun i h => (∃ old, IsEnum h e it ((i : Nat) : Int) old) ∧ h.IsTupleIter it a i ∧ e ≠ it) where
  mem := by simp
  obj := fun i h st b hb => by
    obtain ⟨⟨old, he⟩, ⟨o, ho, hc, hd⟩, _⟩ := st
    have e' : b = e ∨ b = it := by simpa using hb
    rcases e' with z | z
    · rw [z]; exact ⟨_, he, fun v q => nomatch q⟩
    · rw [z]; exact ⟨o, ho, fun v q => by rw [hd] at q; cases q⟩
  keep := fun i h h' st k => let ⟨⟨old, he⟩, hi, hne⟩ := st; ⟨⟨old, k e (by simp) _ he⟩, hi.at fun o q => k it (by simp) o q, hne⟩
  item := by
    intro X hP hw hK hc i pins s σ H E I hf st hg
    subst hP hw hK
    obtain ⟨⟨old, he⟩, hit, hne⟩ := st
    obtain ⟨xs, x, hq, hx⟩ := hg
    obtain ⟨its, rv, p, hz⟩ := I.tuple hq
    obtain ⟨u, hu, ru⟩ := rv.get hx
    have hit2 := (hf it (by simp)).1
    have hel : e < s.heap.objs.size := Heap.lt_size he
    have hil : it < s.heap.objs.size := by obtain ⟨_, q, _⟩ := hit; exact Heap.lt_size q
    have hai : a ≠ it := by
      intro z
      obtain ⟨o1, q1, c1, _⟩ := hit
      obtain ⟨o2, q2, c2, _⟩ := p
      rw [z, q1] at q2
      have := Option.some.inj q2
      rw [← this, c1] at c2
      simp at c2
    have hae : a ≠ e := by
      intro z
      obtain ⟨o2, q2, c2, _⟩ := p
      have he' : s.heap.get? e = some _ := he
      rw [z, he'] at q2
      have := Option.some.inj q2
      rw [← this] at c2
      simp at c2
    have hlt : i < its.toArray.size := by
      rw [List.size_toArray]; exact (List.getElem?_eq_some_iff.mp hu).1
    refine wpAny_pyNext_enum_itemD (HT.draws_tuple (by exact (I.ok.hd hc)) it a hai its.toArray) he ⟨hit, p⟩ hlt hne (by simp [hne, Ne.symm hae]) fun y h' tk hy ho hit' hT hsz hk => ?_
    have huy : y = u := by
      have : its.toArray[i]? = some u := by simpa using hu
      rw [hy] at this
      exact Option.some.inj this
    subst huy
    refine ⟨_, rfl, wpAny_letOwnedTupleGo_enum (s := { s with heap := h', toks := tk + 1 }) ho fun h'' he' sb => ?_⟩
    have hT2 : h''.get? s.heap.objs.size = some { cls := .type "tuple", data := .seq #[.int i tk, y] } := (sb.2 _ (Nat.ne_of_gt hel)).trans hT
    have new : ObjOk X.prog X.w (upd H s.heap.objs.size (.tup [.int (i : Nat), x])) h'' s.heap.objs.size (.tup [.int (i : Nat), x]) :=
      ⟨by show 2 ≤ sizeLine; decide, [.int i tk, y], .cons ⟨_, rfl⟩ (.cons ru .nil), ⟨_, hT2, rfl, _, rfl⟩⟩
    have I1 : Inv X pins σ (upd H s.heap.objs.size (.tup [.int (i : Nat), x])) { s with heap := h'', toks := tk + 1 } :=
      I.turnedNew (ch := [e, it]) (fun b ob hb q => (sb.2 b (fun z => hb (by simp [z]))).trans (hk b ob (fun z => hb (by simp [z])) (fun z => hb (by simp [z])) q)) hf (Nat.le_refl _) new
    refine ⟨.ref s.heap.objs.size, _, I1, rfl, ⟨_, x, rfl, I.hok.fresh (Nat.le_refl _), rfl, fun ys hy => by rw [I.tuple_inj hy hq]; exact hx⟩, ⟨⟨y, ?_⟩, hit'.1.at fun o q => (sb.2 it (Ne.symm hne)).trans q, hne⟩, fun b hb => ?_⟩
    · have e1 : ((i + 1 : Nat) : Int) = (i : Int) + 1 := by omega
      rw [e1]; exact he'
    · have hb' : b < s.heap.objs.size := by
        have e' : b = e ∨ b = it := by simpa using hb
        rcases e' with z | z
        · rw [z]; exact hel
        · rw [z]; exact hil
      rw [upd_ne (Nat.ne_of_lt hb')]
      exact (hf b hb).1
  done := by
    intro X hP hw hK hc i pins s σ H E I hf st hg
    subst hP hw hK
    obtain ⟨⟨old, he⟩, hit, hne⟩ := st
    obtain ⟨xs, hq, hx⟩ := hg
    obtain ⟨its, rv, p, hz⟩ := I.tuple hq
    obtain ⟨f0, f1, f2, f3, f4, f5⟩ := hf it (by simp)
    have hl := rv.length
    have hT : s.TypeIs (.ref e) "enumerate" := ⟨_, he, rfl⟩
    unfold pyNext
    refine wpAny_bind (wpAny_attempt (wpAny_callSpecial?_slot (name := Str.ofString "__next__") hT F.slot_enumerate_next
      (wpAny_call_entry F.slot_enumerate_next hT F.entry_enumerate_next ?_ (F.args_enumerate_next_1 _))))
    show wpAny _ _ (field (.ref e) 2 >>= _) _ _ _
    refine wpAny_bind (wpAny_field he rfl (x := .ref it) rfl ?_)
    refine wpAny_bind (RZ.nextOf_tuple_end (I.ok.hd hc) hit p (by simp; omega) fun h' x he' hx' => ?_)
    obtain ⟨o, ho, hc'⟩ := hx'
    refine wpAny_bind (wpAny_isInstance (T := "StopIteration") (b := true) ⟨o, ho, hc'⟩ isSubtype_stop ?_)
    exact wpAny_pure ⟨rfl, I.turned (t' := s.toks) (fun b o hb q => he' b o hb q) f0 f1 f3 f4 f5⟩
  self := fun A i s Q E st h => let ⟨⟨_, he⟩, _⟩ := st; wpAny_pyIter_enum he h
def iEnumT (K : PySem.W.Frag) (ta : TA) : L2.TI := fun σ H R => ta σ H fun vs H1 => ∃ a xs, vs = [.ref a] ∧ SqT K H1 a xs ∧ R (IteT K a) H1
theorem pi_enumT {X : Cx} {e : Expr} {ta : TA} {p pos tpos : Pos} {elts : List Expr} {kk : Nat} (hg : Gl X "enumerate") (hm : X.mg "enumerate" = none) (ha : PA X [e] ta) (hs : starEach [e] X.env = [(false, eval e X.env)] := by rfl) :
    PI X (.Tuple elts kk tpos) (.Call (.Name "enumerate" p) [e] [] pos) (iEnumT X.K ta) := by
  refine ⟨fun pins s σ H R I h => ?_⟩
  refine Call_ (ld_blt I hg hm boot_enumerate (PyProof.Rows.callWith_type1 (thn (ha.run pos pins s σ H _ I h) fun us s1 ⟨vs, H1, I1, r1, q1⟩ => ?_) hs rfl))
  obtain ⟨a, xs, ex, hq, q⟩ := q1
  subst ex
  cases r1 with
  | cons r rr =>
    cases rr
    cases r
    obtain ⟨its, rv, p', hz⟩ := I1.tuple hq
    refine HT.call_enumerate_tuple p' fun h' he hit hsz hk => wpAny_pyIter_enum he ?_
    have I2 : Inv X pins σ H1 { s1 with heap := h' } := I1.kept (t' := s1.toks) hk
    refine ⟨s1.heap.objs.size + 1, [s1.heap.objs.size + 1, s1.heap.objs.size], _, _, H1, rfl, I2, turn_enumT a (s1.heap.objs.size + 1) s1.heap.objs.size, ⟨⟨.none, he⟩, hit, Nat.succ_ne_self _⟩, fun b hb => ?_, q⟩
    have e' : b = s1.heap.objs.size + 1 ∨ b = s1.heap.objs.size := by simpa using hb
    have hle : s1.heap.objs.size ≤ b := by
      rcases e' with z | z
      · rw [z]; exact Nat.le_add_right _ _
      · rw [z]; exact Nat.le_refl _
    exact I1.fpOk hle (I1.hok.fresh hle)
/-! ### l.extend of a tuple -/
def rExtendT : V → List V → Hp → VK → Prop := fun x vs H Q => ∃ l b xs zs, x = .ref l ∧ vs = [.ref b] ∧ H l = some (.lst xs) ∧ H b = some (.tup zs) ∧ xs.length + zs.length ≤ sizeLine ∧ Q .non (upd H l (.lst (xs ++ zs)))
theorem mt_extendT {X : Cx} : MtM X "list.extend" rExtendT := by
  intro pins s σ H x vs v us Q I rx rv h
  obtain ⟨l, b, xs, zs, rfl, rfl, hH, hB, hz, q⟩ := h
  cases rx
  obtain ⟨u, rfl, ru⟩ := rv.one
  cases ru
  obtain ⟨z, its, n, r, hl, e⟩ := I.lstM hH
  obtain ⟨its2, r2, p2, hz2⟩ := I.tuple (SqT.of hB)
  have hl2 := r2.length
  obtain ⟨⟨cls2, dd2, data2, sl2⟩, ho2, hc2, n2, hd2⟩ := id p2
  simp only at hc2 hd2
  subst hc2 hd2
  have hsz : its.toArray.size + its2.toArray.size ≤ sizeLine := by rw [List.size_toArray, List.size_toArray]; omega
  have hlong : ¬ (!its.toArray.isEmpty && Builtin.List.listTooLong (its.toArray.size + its2.toArray.size)) = true := by
    rw [notLongL hsz, Bool.and_false]
    exact Bool.false_ne_true
  refine call_meets F.slot_list_extend ⟨_, e, rfl⟩ F.entry_list_extend (F.args_list_extend_2 _ _)
    (HT.list_extend_tupD l its.toArray n b its2.toArray n2 dd2 sl2 hlong (by rw [List.size_toArray]; omega) (by omega)) ⟨e, ho2, ?_⟩
  refine ⟨.non, _, I.lset (its' := its ++ its2) hH e (by simp) (r.append r2) ?_, rfl, q⟩
  rw [List.length_append]
  omega
/-! ### l[i] by values; x //= 2 -/
theorem pget_list {X : Cx} : PGet X (rIxL X.K) := by
  intro pins s σ H o i ov iv Q I rx ry h
  obtain ⟨p, xs, i, z, rfl, rfl, hq, he, q⟩ := h
  cases rx
  obtain ⟨t, rfl⟩ := ry
  obtain ⟨its, r, pl, hz⟩ := I.list hq
  obtain ⟨j, h1, h2, h3, h4, h5⟩ := atI_get he
  obtain ⟨w, ew, rw'⟩ := r.get h2
  have hl := r.length
  have hn := line63
  have fin : EP X pins σ Q w s := ⟨z, H, I, rw', q⟩
  by_cases h0 : 0 ≤ i
  · have hj : i.toNat = j := by
      rw [seqIndex_of h0 h5] at h1
      exact Option.some.inj h1
    exact wpAny_getItem_list pl.isList h0 (by omega) (by rw [hj]; simpa using ew) fin
  · have hj : (i + (its.toArray.size : Int)).toNat = j := by
      rw [seqIndex_neg (by omega) h4] at h1
      rw [List.size_toArray, ← hl]
      exact Option.some.inj h1
    exact wpAny_getItem_list_neg pl.isList (by omega) (by rw [List.size_toArray] <;> omega) (by omega) (by rw [hj]; simpa using ew) fin
theorem ip_fdiv {X : Cx} : PIp X .FloorDiv (rI CDiv fun i j => .int (i / j)) := iop_fdiv
theorem call_lenS {X : Cx} : CallR X (.builtin "len") (Evl.rLenS X.K) := call_len_seq
theorem call_listS {X : Cx} : CallR X (.type "list") (Evl.rListS X.K) := call_list_of
theorem call_tupS {X : Cx} : CallR X (.type "tuple") (rTupS X.K) := call_tuple_of
theorem call_maxS {X : Cx} (hc : X.calm = true) : CallR X (.builtin "max") Evl.rMax2 := call_max2 hc
end Rw
end
section
set_option maxRecDepth 100000
set_option maxHeartbeats 4000000
namespace Rw
open PySem PySem.Spec PyProof.Rows L2 Rf
variable {K : PySem.W.Frag}
section
variable {σ : L2.St} {H H' : Hp} {ta tb tc te tl : TE} {t u : TT} {P P' P1 P2 P3 : PV} {i j : Int} {r : R2}
/-! ### more of what evaluates -/
theorem ev_revT {xs : List Int} (h : Ev te σ H (Ti K xs)) : Ev (tRevT K te) σ H (Ts xs.reverse) :=
  ⟨Ts.mk.md, fun H1 e Q q => h.run H1 e _ fun v H2 e2 ⟨a, e3, h3⟩ => ⟨a, _, e3, h3, fun p hp => q _ _ (e2.trans (Same.new hp)) ⟨p, rfl, by rw [List.map_reverse]; exact upd_same⟩⟩⟩
theorem iter_eT {a : Addr} {ds : List PV} {vs : List V} {B : Hp} (m : ∀ d ∈ ds, Mk d) (hv : All2 ds vs B) : Iter (IteT K a) ds.length (fun H => SqT K H a vs ∧ Tk B H) (two (fun i => isV (.int i)) (nth ds)) where
  go := fun i H hi ⟨h, _⟩ => ⟨vs, vs[i]'(by rw [hv.len]; exact hi), h, List.getElem?_eq_getElem _⟩
  stop := fun H ⟨h, _⟩ => ⟨vs, h, by rw [hv.len]; exact Nat.le_refl _⟩
  yld := fun i H x H' hi ⟨h, e⟩ ⟨T, y, e1, e2, e3, q⟩ => by
    rw [e3]
    exact ⟨Same.new e2, T, _, _, e1, upd_same, rfl, nth_of m hv (e.trans (Tk.of (Same.new e2))) (q vs h)⟩
theorem ei_enumT {ds : List PV} (h : Ev tl σ H (Td K ds)) (m : ∀ d ∈ ds, Mk d) : EvI (iEnumT K (tCons tl tNil)) σ H ds.length (two (fun i => isV (.int i)) (nth ds)) [] := fun H1 e R q => h.run H1 e _ fun v H2 e2 ⟨a, vs, e3, h3, h4⟩ =>
  ⟨a, vs, by rw [e3], h3, q _ _ H2 e2 ⟨h3, Tk.refl _⟩ src_t (iter_eT m h4)⟩
theorem ei_enumTI {xs : List Int} (h : Ev tl σ H (Ti K xs)) : EvI (iEnumT K (tCons tl tNil)) σ H xs.length (two (fun i => isV (.int i)) (nth (xs.map fun x => isV (.int x)))) [] := by
  have := ei_enumT h.td ints_mk
  rw [List.length_map] at this; exact this
theorem s_augI {n : Nat} {C : Int → Int → Prop} {f : Int → Int → Int} {a b : Int} {D : Ends} (hc : C a b) (hx : σ[n]? = some (some (.int a))) (h : Ev te σ H (isV (.int b))) (k : ∀ H1, Same H H1 → D.nx (σ.set n (some (.int (f a b)))) H1) : tAug n te (rI C fun i j => .int (f i j)) D σ H :=
  ⟨.int a, hx, h.run H (Same.refl _) _ fun y H1 e p => ⟨a, b, rfl, p, hc, k H1 e⟩⟩
theorem s_augSI {l : Addr} {xs : List V} {n : Nat} {z b : Int} {f : Int → Int → Int} {D : Ends} (hl : H l = some (.lst xs)) (ho : Ev ta σ H (isV (.ref l))) (hi : Ev tb σ H (isV (.int n))) (hz : xs[n]? = some (.int z)) (h : Ev te σ H (isV (.int b)))
    (k : ∀ H1, Same H H1 → D.nx σ (upd H1 l (.lst (xs.set n (.int (f z b)))))) : tAugS ta tb te (rIxL K) (ipI f) rSetL D σ H :=
  ho.run H (Same.refl _) _ fun x H1 e1 p1 => hi.run H1 e1 _ fun y H2 e2 p2 => ⟨l, xs, n, .int z, p1, p2, SqL.of (e2 _ _ (e1 _ _ hl)), atI_nat hz, h.run H2 (e1.trans e2) _ fun v H3 e3 p3 => ⟨z, b, rfl, p3, l, xs, n, n, p1, p2, e3 _ _ (e2 _ _ (e1 _ _ hl)), by
    have hn := (List.getElem?_eq_some_iff.mp hz).1
    unfold ixN
    rw [if_pos (Int.natCast_nonneg n), if_pos (by omega), Int.toNat_natCast], k H3 ((e1.trans e2).trans e3)⟩⟩
/-- [x] * k, k any -/
theorem el_zerosI {k : Int} (hb : ∀ H1, Same H H1 → Ev tb σ H1 (isV (.int k))) (h1 : -100000 ≤ k) (h2 : k ≤ 100000) : EvL (tOp rRep (tLst (tCons (tC (.int 0)) tNil)) tb) σ H ((List.replicate k.toNat (0 : Int)).map V.int) := fun H1 e Q q =>
  (el_one (x := .int 0) (ev_c (σ := σ))) H1 e _ fun p H2 hp e2 h => (hb H2 (e.trans e2)).run H2 (Same.refl _) _ fun y H3 e3 p2 => ⟨p, k, [.int 0], rfl, p2, e3 _ _ h, by omega, by omega, by
    rw [List.length_singleton, Nat.one_mul]; exact sz_of (by omega), fun l hl => by
    rw [flat_rep, List.map_replicate] at *
    exact q l _ (e2.free (e3.free hl)) ((e2.trans e3).trans (Same.new hl)) upd_same⟩
/-- tuple + tuple -/
theorem ev_catT {xs ys : List Int} (ha : Ev ta σ H (Ts xs)) (hb : Ev tb σ H (Ts ys)) (hl : xs.length + ys.length ≤ 100000) : Ev (tOp (rCatA K) ta tb) σ H (Ts (xs ++ ys)) :=
  ev_op Ts.mk.md ha hb fun x y H1 _ ⟨a, e1, h1⟩ ⟨b, e2, h2⟩ Q q => ⟨a, b, _, _, e1, e2, SqT.of h1, SqT.of h2, by rw [List.length_map, List.length_map]; exact sz_of hl, by
    refine ⟨fun z => ?_, fun _ w => ?_, fun _ w p hp => ?_⟩
    · rw [List.map_eq_nil_iff] at z
      exact q _ H1 (Same.refl _) ⟨b, rfl, by rw [z]; exact h2⟩
    · rw [List.map_eq_nil_iff] at w
      exact q _ H1 (Same.refl _) ⟨a, rfl, by rw [w, List.append_nil]; exact h1⟩
    · exact q _ _ (Same.new hp) ⟨p, rfl, by rw [List.map_append]; exact upd_same⟩⟩
end

section
variable {σ : L2.St} {H H' : Hp} {te : TE} {t : TT} {P : PV}
theorem set_old {n : Nat} {v : V} (h : σ[n]? = some (some v)) : σ.set n (some v) = σ := by
  obtain ⟨hn, e⟩ := List.getElem?_eq_some_iff.mp h
  rw [← e]; exact List.set_getElem_self hn
/-- if c: x = e -/
theorem q_ifAsg {n : Nat} {v0 : V} {b : Bool} {tz : L2.TS} {D : Ends} (h0 : σ[n]? = some (some v0)) (h : EvT t σ H b) (h1 : b = true → Ev te σ H P) (k : ∀ v H1, Same H H1 → (b = true ∧ P v H1 ∨ b = false ∧ v = v0) → tz D (σ.set n (some v)) H1) :
    tSeq (tIfS t (tAsg te (gName n)) tNext) tz D σ H :=
  q_when h (fun hb H1 e1 => s_set (D := { D with nx := tz D }) ((h1 hb).mono e1) fun v H2 e2 p => k v H2 (e1.trans e2) (.inl ⟨hb, p⟩)) (fun hb H1 e1 => by
    have g := k v0 H1 e1 (.inr ⟨hb, rfl⟩)
    rw [set_old h0] at g
    exact g)
/-- the same, of an int -/
theorem q_ifInt {n : Nat} {x y : Int} {b : Bool} {tz : L2.TS} {D : Ends} (h0 : σ[n]? = some (some (.int y))) (h : EvT t σ H b) (h1 : b = true → Ev te σ H (isV (.int x))) (k : ∀ H1, Same H H1 → tz D (σ.set n (some (.int (if b = true then x else y)))) H1) :
    tSeq (tIfS t (tAsg te (gName n)) tNext) tz D σ H :=
  q_ifAsg h0 h h1 fun v H1 e c => by
    have g := k H1 e
    rcases c with ⟨hb, p⟩ | ⟨hb, p⟩
    · rw [if_pos hb] at g
      rw [show v = _ from p]; exact g
    · rw [if_neg (by rw [hb]; decide)] at g
      rw [p]; exact g
end
/-! ### defs of the text -/
structure Cal (P : Program) (w : World) (K : PySem.W.Frag) (mg : Str → Option Value) (base : Heap) (k : Nat) (x : Str) (sp : Sp) : Prop where
  ex : ∃ (f : Addr) (fd : FuncData) (ps : List Str), FnOk P w K mg base CX0 k f fd ps sp ∧ mg x = some (.ref f) ∧ PySem.W.keepIn K (.ref f) = true ∧ Binds K fd ps []
structure Df (K : PySem.W.Frag) (mg : Str → Option Value) (x : Str) (st : Stmt) (ps : List Str) : Prop where
  ex : ∃ (f : Addr) (fd : FuncData), Fun K x x st f fd ∧ mg x = some (.ref f) ∧ Binds K fd ps []
section
variable {P : Program} {w : World} {mg : Str → Option Value} {base : Heap}
theorem cal_of {x : Str} {st : Stmt} {N ps : List Str} {k : Nat} {sp : Sp} (D : Df K mg x st ps) (S : FnScope N ps (defScope st)) (len : ∀ vs H Q E, sp vs H Q E → vs.length = ps.length)
    (hbody : ∀ (f : Addr) (cdv : Value) (A : Around) (outer : List Env) (s : Shared) (H : Hp) (vs : List V) (Q : VK) (E : XK), Room k (A.deeper (envOfC x (defScope st) s.heap.objs.size f cdv)) → sp vs H Q E →
      ∃ t, PSs (cxOf CX0 P w K mg base N x (defScope st) f cdv A outer s H E).nox (defBody st) t ∧ t { nx := fun _ H' => Q .non H', rt := Q } (start N vs) H) : Cal P w K mg base (k + 1) x sp := by
  obtain ⟨f, fd, F, m, b⟩ := D.ex
  exact ⟨f, fd, ps, F.ok S len (hbody f), m, F.kp, b⟩
/-- the built-ins that the text asks for are the built-ins -/
structure Bts (mg : Str → Option Value) : Prop where
  len : mg "len" = none
  list : mg "list" = none
  tuple : mg "tuple" = none
  max : mg "max" = none
  all : mg "all" = none
  any : mg "any" = none
  abs : mg "abs" = none
  isinstance : mg "isinstance" = none
  sorted : mg "sorted" = none
  range : mg "range" = none
  enumerate : mg "enumerate" = none
  zip : mg "zip" = none
  bool : mg "bool" = none
  int : mg "int" = none
  str : mg "str" = none
/-- the top's own constants -/
structure Gbs (K : PySem.W.Frag) (mg : Str → Option Value) where
  aP : Addr
  aX : Addr
  aS : Addr
  PRIMES : mg "PRIMES" = some (.ref aP)
  PLAIN_X : mg "PLAIN_X" = some (.ref aX)
  SMALL_PRIMES : mg "SMALL_PRIMES" = some (.ref aS)
  tM : Tok
  tD : Tok
  MOST_PLACES : mg "MOST_PLACES" = some (.int 25 tM)
  MOST_DEGREE : mg "MOST_DEGREE" = some (.int 12 tD)
  sP : ∀ H, SqT K H aP (Rf.PRIMES.map V.int)
  sX : ∀ H, SqT K H aX (([0, 1] : List Int).map V.int)
  sS : ∀ H, SqT K H aS ((List.map (fun q : Nat => (q : Int)) Rf.SMALL).map V.int)
section
variable {X : Cx} {k j : Nat} {x : Str} {sp : Sp} {p pos : Pos} {e : Expr} {es : List Expr} {t : TA}
theorem pe_d (c : Cal X.prog X.w X.K X.mg X.base k x sp) (hr : Room j X.A) (hk : k ≤ j) (hg : Gl X x) (ha : PA X (e :: es) t)
    (hdb : (x == ("__debug__" : Str)) = false := by decide) (he : starEach (e :: es) X.env = (false, eval e X.env) :: starEach es X.env := by rfl) (hpl : (backTo pos (starEach es X.env)).any (·.1) = false := by rfl) :
    PE X (.Call (.Name x p) (e :: es) [] pos) (tCall sp [] E0 t) := by
  obtain ⟨f, fd, ps, F, hm, kp, b⟩ := c.ex
  exact pe_call F (hr.mono hk) hg hm kp b .nil pass0 ha hdb he hpl
theorem pe_d0 (c : Cal X.prog X.w X.K X.mg X.base k x sp) (hr : Room j X.A) (hk : k ≤ j) (hg : Gl X x) (hdb : (x == ("__debug__" : Str)) = false := by decide) :
    PE X (.Call (.Name x p) [] [] pos) (tCall sp [] E0 tNil) := by
  obtain ⟨f, fd, ps, F, hm, kp, b⟩ := c.ex
  exact pe_call0 F (hr.mono hk) hg hm kp b .nil pass0 hdb
end
abbrev s_raised : Stmt := topS 11
abbrev N_raised : List Str := ["number", "exponent", "prime", "found", "base"]
theorem sc_raised : FnScope N_raised ["number", "exponent", "prime"] (defScope s_raised) := ⟨rfl, rfl, rfl, by decide +kernel, rfl, by decide +kernel, by decide +kernel⟩

def p_raised : Sp := Pf (fun a : Int × Int × Int => [isV (.int a.1), isV (.int a.2.1), isV (.int a.2.2)]) (fun a => PR a.2.2 ∧ 0 ≤ a.1 ∧ a.1 < 1000000 ∧ 0 ≤ a.2.1 ∧ a.2.1 ≤ 1000000) (fun a => isV (.int (raised a.1 a.2.1 a.2.2)))
theorem ok_raised (D : Df K mg "raised" s_raised ["number", "exponent", "prime"]) : Cal P w K mg base 1 "raised" p_raised := by
  refine cal_of D sc_raised (fun vs H Q E ⟨a, _, h, _⟩ => h.len) fun f cdv A outer s H vs Q E hr ⟨⟨n, e, p⟩, ⟨hp, n0, n1, e0, e1⟩, hds, q⟩ => ?_
  dsimp only at *
  obtain ⟨x1, x2, x3, rfl, rfl, rfl, rfl⟩ := all2_3 hds
  refine ⟨_, (pss_cons (ps_set (i := 3) sc_raised.nd rfl (by first | exact .inl rfl | exact .inr rfl) pe_int)
      (pss_cons (ps_set (i := 4) sc_raised.nd rfl (by first | exact .inl rfl | exact .inr rfl) (pv 0))
      (pss_cons (ps_while PassesOwn.never (pt_cmpR op_gt (pv 1) pe_int (nomark _)) (pss_cons (ps_if (pt_cmpR op_eq (pe_op op_mod (pv 1) pe_int) pe_int (nomark _)) (pss_one (ps_set (i := 3) sc_raised.nd rfl (by first | exact .inl rfl | exact .inr rfl) (pe_op op_mod (pe_op op_mul (pv 3) (pv 4)) (pv 2)))) pss_nil)
      (pss_cons (ps_set (i := 4) sc_raised.nd rfl (by first | exact .inl rfl | exact .inr rfl) (pe_op op_mod (pe_op op_mul (pv 4) (pv 4)) (pv 2)))
      (pss_one (ps_aug (i := 1) sc_raised.nd rfl (by first | exact .inl rfl | exact .inr rfl) pe_int ip_fdiv)))))
      (pss_one (ps_ret (pv 3)))))), ?_⟩
  have bd := hp.bd
  refine q_set ev_c fun v H1 s1 h1 => ?_
  obtain rfl := h1
  refine q_set (ev_i 0 rfl) fun v H2 s2 h2 => ?_
  obtain rfl := h2
  refine q_while (fun m σ H' => ∃ f b e' : Int, σ = [some (.int n), some (.int e'), some (.int p), some (.int f), some (.int b)] ∧ Same H H' ∧ 0 ≤ e' ∧ e'.toNat = m ∧ 0 ≤ f ∧ f < 1000000 ∧ 0 ≤ b ∧ b < 1000000 ∧ raisedF m f b e' p = raised n e p) e.toNat
    ⟨1, n, e, rfl, s1.trans s2, e0, rfl, by omega, by omega, n0, n1, rfl⟩ ?_
  rintro m σ' H' ⟨f, b, e', rfl, sm, e0', hm, f0, f1, b0, b1, eq⟩
  refine ⟨_, et_test (ev_I0 (ev_i 1 rfl) ev_c), fun hb H3 s3 => ?_, fun hb H3 s3 => ?_⟩
  · have he : 0 < e' := by simpa using hb
    refine q_ifInt (x := f * b % p) (y := f) rfl (et_test (ev_eq rfl (ev_I (show (0 : Int) < 2 by decide) (ev_i 1 rfl) ev_c) ev_c)) (fun _ => ev_I (show 0 < p by omega) (ev_I (.inl ⟨by omega, by omega⟩) (ev_i 3 rfl) (ev_i 4 rfl)) (ev_i 2 rfl)) fun H4 s4 => ?_
    refine q_set (ev_I (show 0 < p by omega) (ev_I (.inl ⟨by omega, by omega⟩) (ev_i 4 rfl) (ev_i 4 rfl)) (ev_i 2 rfl)) fun v H5 s5 h5 => ?_
    obtain rfl := h5
    refine s_augI (a := e') (b := 2) ⟨by decide, by decide⟩ rfl ev_c fun H6 s6 => ?_
    have k1 := Int.emod_nonneg (f * b) (show p ≠ 0 by omega)
    have k2 := Int.emod_lt_of_pos (f * b) (show 0 < p by omega)
    have k3 := Int.emod_nonneg (b * b) (show p ≠ 0 by omega)
    have k4 := Int.emod_lt_of_pos (b * b) (show 0 < p by omega)
    refine ⟨(e' / 2).toNat, by omega, _, _, _, rfl, (((sm.trans s3).trans s4).trans s5).trans s6, by omega, rfl, by split <;> omega, by split <;> omega, by omega, by omega, ?_⟩
    obtain ⟨k, rfl⟩ : ∃ k, m = k + 1 := ⟨m - 1, by omega⟩
    rw [← eq, raisedF, if_pos he]
    have fuel : ∀ (k l : Nat) (f b e : Int), 0 ≤ e → e.toNat ≤ k → e.toNat ≤ l → raisedF k f b e p = raisedF l f b e p := by
      intro k
      induction k with
      | zero =>
        intro l f b e h0 h1 h2
        cases l with
        | zero => rfl
        | succ l => rw [raisedF, raisedF, if_neg (by omega)]
      | succ k ih =>
        intro l f b e h0 h1 h2
        cases l with
        | zero => rw [raisedF, raisedF, if_neg (by omega)]
        | succ l =>
          rw [raisedF, raisedF]
          split
          · exact ih l _ _ _ (by omega) (by omega) (by omega)
          · rfl
    rw [fuel (e' / 2).toNat k _ _ _ (by omega) (by omega) (by omega)]
    simp
  · refine s_ret (ev_i 3 rfl) fun v H4 s4 h4 => ?_
    obtain rfl := h4
    have he : ¬ 0 < e' := by simpa using hb
    refine q _ H4 ((sm.trans s3).trans s4) ?_
    rw [← eq, show m = 0 by omega]; rfl
end
end Rw
end
section
set_option maxRecDepth 100000
set_option maxHeartbeats 4000000
namespace Rw
open PySem PySem.Spec PyProof.Rows L2 Rf
variable {K : PySem.W.Frag} {X : Cx}
/-! the rules that name K, with K as it is outside a comprehension -/
theorem ix_tupK (h : X.K = K := by rfl) : IxR X (rIxT K) := h ▸ ix_tup
theorem ix_listK (h : X.K = K := by rfl) : IxR X (rIxL K) := h ▸ ix_list
theorem sl_listK (h : X.K = K := by rfl) : SlR X (rSlL K) := h ▸ sl_list
theorem sl_tupAK (h : X.K = K := by rfl) : SlR X (rSlA K) := h ▸ sl_tupA
theorem op_inK (h : X.K = K := by rfl) : OpR X (compareOp .In) (rIn K false) := h ▸ op_in_seq
theorem op_catAK (h : X.K = K := by rfl) : OpR X (binaryOp .Add) (rCatA K) := h ▸ op_catA
theorem op_eqDK (hu : X.A.units + 64 < cLine) (h : X.K = K := by rfl) : OpR X (compareOp .Eq) (rEqD K) := h ▸ op_eqD hu
theorem op_neDK (hu : X.A.units + 64 < cLine) (h : X.K = K := by rfl) : OpR X (compareOp .NotEq) (rNeD K) := h ▸ op_neD hu
theorem call_lenK (h : X.K = K := by rfl) : CallR X (.builtin "len") (Evl.rLenS K) := h ▸ call_lenS
theorem call_listK (h : X.K = K := by rfl) : CallR X (.type "list") (Evl.rListS K) := h ▸ call_listS
theorem call_tupK (h : X.K = K := by rfl) : CallR X (.type "tuple") (rTupS K) := h ▸ call_tupS
theorem call_isiK (h : X.K = K := by rfl) : CallR X (.builtin "isinstance") (rIsi K) := h ▸ call_isi
theorem call_isiTK (h : X.K = K := by rfl) : CallR X (.builtin "isinstance") (rIsiT K) := h ▸ call_isiT
theorem cr_allK (hc : X.calm = true) (h : X.K = K := by rfl) : CallR X (.builtin "all") (rAll K) := h ▸ cr_all hc
theorem cr_anyK (hc : X.calm = true) (h : X.K = K := by rfl) : CallR X (.builtin "any") (rAny K) := h ▸ cr_any hc
theorem pe_revTK {e : Expr} {te : TE} {k : Nat} {p1 p2 p3 pos : Pos} (he : PE X e te) (h : X.K = K := by rfl) : PE X (.Subscript e (.Slice none none (some (.UnaryOp .USub (.Constant (.int 1) k p1) p2)) p3) pos) (tRevT K te) := h ▸ pe_revT he
theorem pg_tupK {es : List Expr} {k : Nat} {t : TGs} {n : Nat} {pos : Pos} (hc : X.calm = true) (h : PGs X es t) (hK : X.K = K := by rfl)
    (hn : (assignEach es X.env).length = n := by rfl) (hst : (assignEach es X.env).findIdx? (·.1) = none := by rfl) : PG X (.Tuple es k pos) (gTup K n t) := hK ▸ pg_tup hc h hn hst
theorem pi_tupK {l tg : Expr} {tl : TE} (hl : PE X l tl) (h : X.K = K := by rfl) : PI X tg l (iTup K tl) := h ▸ pi_tup hl
end Rw
end
section
set_option maxRecDepth 100000
set_option maxHeartbeats 4000000
namespace Rw
open PySem PySem.Spec PyProof.Rows L2 Rf
variable {K : PySem.W.Frag}
section
variable {σ : L2.St} {H H' : Hp} {ta tb tc te tl : TE} {t u : TT} {P P' P1 P2 P3 : PV} {i j : Int} {r : R2}
theorem s_retL {xs : List V} {D : Ends} (h : EvL te σ H xs) (k : ∀ p H1, H p = none → Same H H1 → H1 p = some (.lst xs) → D.rt (.ref p) H1) : tRet te D σ H := h H (Same.refl _) _ fun p H1 a b c => k p H1 a b c
theorem s_retD {ds : List PV} {D : Ends} (h : ElD te σ H ds) (k : ∀ p vs H1, H p = none → Same H H1 → H1 p = some (.lst vs) → All2 ds vs H1 → D.rt (.ref p) H1) : tRet te D σ H := h H (Same.refl _) _ fun p vs H1 a b c d => k p vs H1 a b c d
theorem ev_inT {a : Addr} {x : V} {xs : List V} (ha : Ev ta σ H (isV x)) (hb : Ev tb σ H (isV (.ref a))) (hs : SqT K H a xs) (f1 : flatV x = true) (f2 : xs.all flatV = true) : Ev (tOp (rIn K false) ta tb) σ H (isV (.bl (inV x xs))) :=
  ev_op md_isV ha hb fun y z H1 e p1 p2 Q q => by
    rw [show y = x from p1]
    exact ⟨a, xs, p2, .inr (Same.sqt e hs), f1, f2, q _ H1 (Same.refl _) rfl⟩
/-- xs[:n], xs[1:] of a list of ints -/
theorem el_slice {lo hi : L2.TO} {xs : List V} {a b : Option Int} (ha : ∀ H1, Same H H1 → ∀ Q : VK, (∀ v H2, Same H1 H2 → (∃ a, v = .ref a ∧ SqL K H2 a xs) → Q v H2) → te σ H1 Q) (hl : ∀ H1, Same H H1 → ∀ Q : Option Int → Hp → Prop, (∀ H2, Same H1 H2 → Q a H2) → lo σ H1 Q)
    (hh : ∀ H1, Same H H1 → ∀ Q : Option Int → Hp → Prop, (∀ H2, Same H1 H2 → Q b H2) → hi σ H1 Q) : EvL (tSl (rSlL K) te lo hi) σ H (cutV xs a b) := fun H1 e Q q =>
  ha H1 e _ fun v H2 e2 ⟨c, e3, h⟩ => hl H2 (e.trans e2) _ fun H3 e4 => hh H3 ((e.trans e2).trans e4) _ fun H4 e5 => ⟨c, xs, e3, (e4.trans e5).seq h, fun p hp => q p _ (e2.free (e4.free (e5.free hp))) (((e2.trans e4).trans e5).trans (Same.new hp)) upd_same⟩
theorem eo_none : ∀ H1, Same H H1 → ∀ Q : Option Int → Hp → Prop, (∀ H2, Same H1 H2 → Q none H2) → tNoPart σ H1 Q := fun H1 _ Q q => q H1 (Same.refl _)
theorem eo_some {n : Int} (h : Ev te σ H (isV (.int n))) : ∀ H1, Same H H1 → ∀ Q : Option Int → Hp → Prop, (∀ H2, Same H1 H2 → Q (some n) H2) → tPart te σ H1 Q := fun H1 e Q q => h.run H1 e _ fun v H2 e2 p => ⟨n, p, q H2 e2⟩
theorem cutV_to (xs : List V) (n : Nat) : cutV xs none (some (n : Int)) = xs.take n := by
  unfold cutV
  rw [HT.sIx_none, HT.sIx_nat, List.drop_zero, Nat.sub_zero]
  apply List.ext_getElem?
  intro i
  by_cases h : i < n
  · by_cases h2 : i < xs.length
    · rw [List.getElem?_take_of_lt (by omega), List.getElem?_take_of_lt h]
    · rw [List.getElem?_eq_none_iff.mpr (by rw [List.length_take]; omega), List.getElem?_eq_none_iff.mpr (by rw [List.length_take]; omega)]
  · rw [List.getElem?_eq_none_iff.mpr (by rw [List.length_take]; omega), List.getElem?_eq_none_iff.mpr (by rw [List.length_take]; omega)]
theorem cutV_from (xs : List V) (n : Nat) : cutV xs (some (n : Int)) none = xs.drop n := by
  unfold cutV
  rw [HT.sIx_nat, HT.sIx_none]
  by_cases h : n ≤ xs.length
  · rw [Nat.min_eq_left h, List.take_of_length_le (by rw [List.length_drop]; exact Nat.le_refl _)]
  · rw [Nat.min_eq_right (by omega), Nat.sub_self, List.take_zero, List.drop_eq_nil_of_le (by omega)]
theorem el_to {xs : List Int} {n : Nat} (ha : Ev ta σ H (Li K xs)) (hn : Ev tb σ H (isV (.int n))) : EvL (tSl (rSlL K) ta tNoPart (tPart tb)) σ H ((xs.take n).map V.int) := by
  have := el_slice (K := K) (xs := xs.map V.int) (fun H1 e Q q => ha.run H1 e Q q) eo_none (eo_some hn)
  rw [cutV_to] at this
  rw [List.map_take]; exact this
theorem el_from {xs : List Int} {n : Nat} (ha : Ev ta σ H (Li K xs)) (hn : Ev tb σ H (isV (.int n))) : EvL (tSl (rSlL K) ta (tPart tb) tNoPart) σ H ((xs.drop n).map V.int) := by
  have := el_slice (K := K) (xs := xs.map V.int) (fun H1 e Q q => ha.run H1 e Q q) (eo_some hn) eo_none
  rw [cutV_from] at this
  rw [List.map_drop]; exact this
/-- a comprehension that gives ints -/
theorem el_lcI {wi : L2.TI} {g : TG} {tt : TT} {vs : List Nat} {n : Nat} {P : Nat → PV} {L : List Addr} (l : List Int) (he : EvI wi σ H n P L) (hn : n ≤ 50000) (hl : l.length = n)
    (hs : ∀ i x H1, i < n → Same H H1 → P i x H1 → ∃ τ : L2.St, (∀ k : L2.St → Hp → Prop, k τ H1 → g x (wipe σ vs) H1 k) ∧ wipe τ vs = wipe σ vs ∧ EvT tt τ H1 true ∧ Ev te τ H1 (isV (.int (l.getD i 0)))) :
    EvL (tLc wi g tt te vs) σ H (l.map V.int) := by
  have := eld_lc he hn (fun _ => true) (fun i => isV (.int (l.getD i 0))) (fun _ _ => mk_isV) fun i x H1 a b c => by
    obtain ⟨τ, h1, h2, h3, h4⟩ := hs i x H1 a b c
    exact ⟨τ, h1, h2, h3, fun _ => h4⟩
  rw [given_all, show (List.range n).map (fun i => (isV (.int (l.getD i 0)) : PV)) = l.map (fun x => isV (.int x)) by
    apply List.ext_getElem
    · rw [List.length_map, List.length_map, List.length_range, hl]
    · intro i h1 h2
      rw [List.length_map] at h2
      rw [List.getElem_map, List.getElem_map, List.getElem_range, List.getD_eq_getElem?_getD, List.getElem?_eq_getElem h2]; rfl] at this
  exact this.ints
end
theorem cut_snoc0 (l : List Int) : cut (l ++ [0]) = cut l := by
  induction l with
  | nil => rfl
  | cons a l ih => rw [List.cons_append, cut_cons, cut_cons, ih]
theorem cut_snoc {a : Int} (h : a ≠ 0) (l : List Int) : cut (l ++ [a]) = l ++ [a] := by
  induction l with
  | nil => rw [List.nil_append, cut_cons]; show (if a = 0 then [] else [a]) = [a]; rw [if_neg h]
  | cons b l ih =>
    rw [List.cons_append, cut_cons, ih]
    cases l <;> rfl
theorem getD_of {l : List Int} {i : Nat} {z : Int} (h : l[i]? = some z) : l.getD i 0 = z := by rw [List.getD_eq_getElem?_getD, h]; rfl
theorem getD_zip {f : Int → Int → Int} {a b : List Int} {i : Nat} {x y : Int} (h : a[i]? = some x) (g : b[i]? = some y) : (List.zipWith f a b).getD i 0 = f x y := by
  rw [List.getD_eq_getElem?_getD, List.getElem?_zipWith, h, g]; rfl
section
variable {P : Program} {w : World} {mg : Str → Option Value} {base : Heap}
abbrev s_turned_over : Stmt := topS 12
abbrev N_turned_over : List Str := ["number", "prime"]
theorem sc_turned_over : FnScope N_turned_over ["number", "prime"] (defScope s_turned_over) := ⟨rfl, rfl, rfl, by decide +kernel, rfl, by decide +kernel, by decide +kernel⟩

def p_turned_over : Sp := Pf (fun a : Int × Int => [isV (.int a.1), isV (.int a.2)]) (fun a => PR a.2 ∧ 0 ≤ a.1 ∧ a.1 < a.2) (fun a => isV (.int (turnedOver a.1 a.2)))
theorem ok_turned_over (D : Df K mg "turned_over" s_turned_over ["number", "prime"]) (c_raised : Cal P w K mg base 1 "raised" p_raised) : Cal P w K mg base 2 "turned_over" p_turned_over := by
  refine cal_of D sc_turned_over (fun vs H Q E ⟨a, _, h, _⟩ => h.len) fun f cdv A outer s H vs Q E hr ⟨⟨n, p⟩, ⟨hp, n0, n1⟩, hds, q⟩ => ?_
  dsimp only at *
  obtain ⟨x1, x2, rfl, rfl, rfl⟩ := all2_2 hds
  have bd := hp.bd
  refine ⟨_, (pss_one (ps_ret (pe_d c_raised hr (by decide) (by rfl) (pa_cons (pv 0) (pa_cons (pe_op op_sub (pv 1) pe_int) (pa_cons (pv 1) pa_nil)))))), ?_⟩
  exact s_ret (ev_call (n, p - 2, p) (ea_cons (ev_i 0 rfl) (ea_cons (ev_I0 (ev_i 1 rfl) ev_c) (ea_cons (ev_i 1 rfl) ea_nil))) ⟨hp, n0, by show n < 1000000; omega, by show 0 ≤ p - 2; omega, by show p - 2 ≤ 1000000; omega⟩ md_isV) fun v H1 e r => q v H1 e r
section
variable {σ : L2.St} {H : Hp} {ta tb tc td : TE} {E : XK}
theorem ev_turned {n p : Int} (ha : Ev ta σ H (isV (.int n))) (hb : Ev tb σ H (isV (.int p))) (hp : PR p) (h0 : 0 ≤ n) (h1 : n < p) : Ev (tCall p_turned_over [] E (tCons ta (tCons tb tNil))) σ H (isV (.int (turnedOver n p))) :=
  ev_call (n, p) (ea_cons ha (ea_cons hb ea_nil)) ⟨hp, h0, h1⟩ md_isV
end
abbrev s_is_prime : Stmt := topS 8
abbrev N_is_prime : List Str := ["number"]
theorem sc_is_prime : FnScope N_is_prime ["number"] (defScope s_is_prime) := ⟨rfl, rfl, rfl, by decide +kernel, rfl, by decide +kernel, by decide +kernel⟩

def p_is_prime : Sp := Pf (fun a : Int => [isV (.int a)]) (fun a => PR a) (fun a => isV (.bl true))
theorem ok_is_prime (D : Df K mg "is_prime" s_is_prime ["number"]) (Gb : Gbs K mg) : Cal P w K mg base 1 "is_prime" p_is_prime := by
  refine cal_of D sc_is_prime (fun vs H Q E ⟨a, _, h, _⟩ => h.len) fun f cdv A outer s H vs Q E hr ⟨p, hp, hds, q⟩ => ?_
  dsimp only at *
  obtain ⟨x1, rfl, rfl⟩ := all2_1 hds
  refine ⟨_, (pss_one (ps_ret (pe_cmpR (op_inK (K := K)) (pv 0) (pe_glob (v := .ref Gb.aP) (by rfl) Gb.PRIMES rfl) (by rfl)))), ?_⟩
  refine s_ret (ev_inT (ev_i 0 rfl) (ev_c) (Gb.sP H) rfl (by decide)) fun v H1 e r => q v H1 e ?_
  have : inV (.int p) (Rf.PRIMES.map V.int) = true := by
    unfold inV
    rw [List.any_eq_true]
    exact ⟨.int p, List.mem_map.mpr ⟨p, hp, rfl⟩, by simp [eqV]⟩
  rw [this] at r; exact r
abbrev s_need_prime : Stmt := topS 9
abbrev N_need_prime : List Str := ["prime"]
theorem sc_need_prime : FnScope N_need_prime ["prime"] (defScope s_need_prime) := ⟨rfl, rfl, rfl, by decide +kernel, rfl, by decide +kernel, by decide +kernel⟩

def p_need_prime : Sp := Pf (fun a : Int => [isV (.int a)]) (fun a => PR a) (fun a => isV .non)
theorem ok_need_prime (D : Df K mg "need_prime" s_need_prime ["prime"]) (c_is_prime : Cal P w K mg base 1 "is_prime" p_is_prime) : Cal P w K mg base 2 "need_prime" p_need_prime := by
  refine cal_of D sc_need_prime (fun vs H Q E ⟨a, _, h, _⟩ => h.len) fun f cdv A outer s H vs Q E hr ⟨p, hp, hds, q⟩ => ?_
  dsimp only at *
  obtain ⟨x1, rfl, rfl⟩ := all2_1 hds
  refine ⟨_, (pss_one (ps_if (pt_not (pt_val (pe_d c_is_prime hr (by decide) (by rfl) (pa_cons (pv 0) pa_nil)))) (pss_one ps_never) pss_nil)), ?_⟩
  exact s_when (et_not (et_B (ev_call p (ea_cons (ev_i 0 rfl) ea_nil) hp md_isV))) (fun h => by cases h) fun _ H1 e => q _ H1 e rfl
section
variable {σ : L2.St} {H : Hp} {ta tb tc td : TE} {E : XK}
theorem ev_needp {p : Int} (ha : Ev ta σ H (isV (.int p))) (hp : PR p) : Ev (tCall p_need_prime [] E (tCons ta tNil)) σ H (isV .non) :=
  ev_call p (ea_cons ha ea_nil) hp md_isV
end
abbrev s_is_rest : Stmt := topS 10
abbrev N_is_rest : List Str := ["number", "prime"]
theorem sc_is_rest : FnScope N_is_rest ["number", "prime"] (defScope s_is_rest) := ⟨rfl, rfl, rfl, by decide +kernel, rfl, by decide +kernel, by decide +kernel⟩

def p_is_rest : Sp := Pf (fun a : Int × Int => [isV (.int a.1), isV (.int a.2)]) (fun a => True) (fun a => isV (.bl (decide (0 ≤ a.1) && decide (a.1 < a.2))))
theorem ok_is_rest (D : Df K mg "is_rest" s_is_rest ["number", "prime"]) : Cal P w K mg base 1 "is_rest" p_is_rest := by
  refine cal_of D sc_is_rest (fun vs H Q E ⟨a, _, h, _⟩ => h.len) fun f cdv A outer s H vs Q E hr ⟨⟨n, p⟩, _, hds, q⟩ => ?_
  dsimp only at *
  obtain ⟨x1, x2, rfl, rfl, rfl⟩ := all2_2 hds
  refine ⟨_, (pss_one (ps_ret (pe_chain op_le op_lt pe_int (pv 0) (pv 1)))), ?_⟩
  exact s_ret (ev_chain ev_c (ev_i 0 rfl) (ev_i 1 rfl)) fun v H1 e r => q v H1 e r
section
variable {σ : L2.St} {H : Hp} {ta tb tc td : TE} {E : XK}
theorem ev_isrest {n p : Int} (ha : Ev ta σ H (isV (.int n))) (hb : Ev tb σ H (isV (.int p))) : Ev (tCall p_is_rest [] E (tCons ta (tCons tb tNil))) σ H (isV (.bl (decide (0 ≤ n) && decide (n < p)))) :=
  ev_call (ok := fun _ => True) (n, p) (ea_cons ha (ea_cons hb ea_nil)) trivial md_isV
end
abbrev s_cut : Stmt := topS 24
abbrev N_cut : List Str := ["numbers", "many"]
theorem sc_cut : FnScope N_cut ["numbers"] (defScope s_cut) := ⟨rfl, rfl, rfl, by decide +kernel, rfl, by decide +kernel, by decide +kernel⟩

def p_cut (K : PySem.W.Frag) : Sp := Pf (fun a : List Int => [Li K a]) (fun a => a.length ≤ 1000) (fun a => Ts (cut a))
theorem ok_cut (D : Df K mg "cut" s_cut ["numbers"]) (Bt : Bts mg) : Cal P w K mg base 1 "cut" (p_cut K) := by
  refine cal_of D sc_cut (fun vs H Q E ⟨a, _, h, _⟩ => h.len) fun f cdv A outer s H vs Q E hr ⟨xs, hl, hds, q⟩ => ?_
  dsimp only at *
  obtain ⟨x1, rfl, hx⟩ := all2_1 hds
  refine ⟨_, (pss_cons (ps_set (i := 1) sc_cut.nd rfl (by first | exact .inl rfl | exact .inr rfl) (pe_callB (call_lenK (K := K)) (by rfl) Bt.len PySem.boot_len (pa_cons (pv 0) pa_nil)))
      (pss_cons (ps_while PassesOwn.never ((pw_and (pt_cmpR op_gt (pv 1) pe_int (nomark _)) (pw_and1 (pt_cmpR op_eq (pe_ix (ix_listK (K := K)) (pv 0) (pe_op op_sub (pv 1) pe_int) (fun _ _ => rfl)) pe_int (nomark _))))).pt (pss_one (ps_aug (i := 1) sc_cut.nd rfl (by first | exact .inl rfl | exact .inr rfl) pe_int ip_sub)))
      (pss_one (ps_ret (pe_callTy (call_tupK (K := K)) (by rfl) Bt.tuple (by decide +kernel) (pa_cons (pe_slice (sl_listK (K := K)) (pv 0) po_none (po_some (pv 1))) pa_nil)))))), ?_⟩
  refine q_set (ev_lenL (ev_v 0 Li.mono rfl hx)) fun v H1 s1 h1 => ?_
  obtain rfl := h1
  refine q_while (fun m σ H' => σ = [some x1, some (.int m)] ∧ Same H H' ∧ m ≤ xs.length ∧ cut (xs.take m) = cut xs) xs.length ⟨rfl, s1, Nat.le_refl _, by rw [List.take_length]⟩ ?_
  rintro m σ' H' ⟨rfl, sm, hm, eq⟩
  have hx' := Li.mono _ _ _ sm hx
  refine ⟨decide (0 < (m : Int)) && decide (xs.getD (m - 1) 0 = 0), et_and (et_test (ev_I0 (ev_i 1 rfl) ev_c)) (fun h => ?_), fun hb H3 s3 => ?_, fun hb H3 s3 => ?_⟩
  · have hm0 : 0 < m := by simpa using h
    refine et_test (Ev.is (ev_eq (x := .int (xs.getD (m - 1) 0)) (y := .int 0) rfl (ev_ixLI (n := m - 1) (ev_v 0 Li.mono rfl hx') ((ev_I0 (ev_i 1 rfl) ev_c).is (by show V.int _ = V.int _; congr 1; omega)) ?_) ev_c) ?_)
    · rw [List.getD_eq_getElem?_getD, List.getElem?_eq_getElem (by omega)]; rfl
    · simp
  · simp only [Bool.and_eq_true, decide_eq_true_eq] at hb
    obtain ⟨h0, h1⟩ := hb
    obtain ⟨k, rfl⟩ : ∃ k, m = k + 1 := ⟨m - 1, by omega⟩
    refine s_aug (a := ((k + 1 : Nat) : Int)) (b := 1) rfl ev_c fun H4 s4 => ⟨k, by omega, by simp, (sm.trans s3).trans s4, by omega, ?_⟩
    rw [← eq, List.take_add_one]
    rw [Nat.add_sub_cancel, List.getD_eq_getElem?_getD, List.getElem?_eq_getElem (by omega)] at h1
    rw [List.getElem?_eq_getElem (by omega), show xs[k] = 0 from h1]
    exact (cut_snoc0 _).symm
  · refine s_ret (ev_tupleS (el_to (n := m) (ev_v 0 Li.mono rfl (Li.mono _ _ _ s3 hx')) (ev_i 1 rfl)).li) fun v H4 s4 h4 => q v H4 ((sm.trans s3).trans s4) ?_
    rw [← eq]
    cases m with
    | zero => rw [List.take_zero] at h4 ⊢; exact h4
    | succ k =>
      simp only [Bool.and_eq_false_iff, decide_eq_false_iff_not] at hb
      have hne : xs.getD k 0 ≠ 0 := by
        rcases hb with hb | hb
        · omega
        · exact hb
      rw [List.getD_eq_getElem?_getD, List.getElem?_eq_getElem (by omega)] at hne
      replace hne : xs[k] ≠ 0 := hne
      have e2 : xs.take (k + 1) = xs.take k ++ [xs[k]] := by rw [List.take_add_one, List.getElem?_eq_getElem (by omega)]; rfl
      rw [e2] at h4 ⊢
      rw [cut_snoc hne]; exact h4
section
variable {σ : L2.St} {H : Hp} {ta tb tc td : TE} {E : XK}
theorem ev_cut {xs : List Int} (ha : Ev ta σ H (Li K xs)) (hl : xs.length ≤ 1000) : Ev (tCall (p_cut K) [] E (tCons ta tNil)) σ H (Ts (cut xs)) :=
  ev_call xs (ea_cons ha ea_nil) hl Ts.mk.md
end
abbrev s_widened : Stmt := topS 25
abbrev N_widened : List Str := ["one", "many"]
theorem sc_widened : FnScope N_widened ["one", "many"] (defScope s_widened) := ⟨rfl, rfl, rfl, by decide +kernel, rfl, by decide +kernel, by decide +kernel⟩

def p_widened (K : PySem.W.Frag) : Sp := PfL (fun a : List Int × Nat => [Ti K a.1, isV (.int a.2)]) (fun a => a.1.length ≤ 1000 ∧ a.2 ≤ 1000) (fun a => (wid a.1 a.2).map fun x => isV (.int x))
theorem ok_widened (D : Df K mg "widened" s_widened ["one", "many"]) (Bt : Bts mg) : Cal P w K mg base 1 "widened" (p_widened K) := by
  refine cal_of D sc_widened (fun vs H Q E ⟨a, _, h, _⟩ => h.len) fun f cdv A outer s H vs Q E hr ⟨⟨xs, m⟩, ⟨hl, hm⟩, hds, q⟩ => ?_
  dsimp only at *
  obtain ⟨x1, x2, rfl, hx, rfl⟩ := all2_2 hds
  refine ⟨_, (pss_one (ps_ret (pe_op op_cat (pe_callTy (call_listK (K := K)) (by rfl) Bt.list (by decide +kernel) (pa_cons (pv 0) pa_nil)) (pe_op op_rep (pe_lst (pa_cons pe_int pa_nil)) (pe_op op_sub (pv 1) (pe_callB (call_lenK (K := K)) (by rfl) Bt.len PySem.boot_len (pa_cons (pv 0) pa_nil))))))), ?_⟩
  have e1 : EvL (tCB (Evl.rListS K) (tCons (tVar 0) tNil)) (start N_widened [x1, .int m]) H (xs.map V.int) := el_listT (ev_v 0 Ti.mono rfl hx)
  refine s_retL (el_cat e1 (el_zerosI (k := (m : Int) - (xs.length : Int)) (fun H1 s1 => ev_I0 (ev_i 1 rfl) (ev_lenT (ev_v 0 Ti.mono rfl (Ti.mono _ _ _ s1 hx)))) (by omega) (by omega)) (by rw [List.length_map, List.length_map, List.length_replicate]; omega)) fun p H1 hp s1 h1 => ?_
  refine q p _ H1 hp s1 h1 (all2_ints.mpr ?_)
  rw [wid, List.map_append, show ((m : Int) - (xs.length : Int)).toNat = m - xs.length by omega]
section
variable {σ : L2.St} {H : Hp} {ta tb tc td : TE} {E : XK}
theorem ev_widened {xs : List Int} {m : Nat} (ha : Ev ta σ H (Ti K xs)) (hb : Ev tb σ H (isV (.int m))) (h1 : xs.length ≤ 1000) (h2 : m ≤ 1000) : EvL (tCall (p_widened K) [] E (tCons ta (tCons tb tNil))) σ H ((wid xs m).map V.int) :=
  (ev_callL (xs, m) (ea_cons ha (ea_cons hb ea_nil)) ⟨h1, h2⟩).ints
end
abbrev s_blended : Stmt := topS 26
abbrev N_blended : List Str := ["one", "other", "weight", "prime", "many", "a", "b"]
theorem sc_blended : FnScope N_blended ["one", "other", "weight", "prime"] (defScope s_blended) := ⟨rfl, rfl, rfl, by decide +kernel, rfl, by decide +kernel, by decide +kernel⟩

def p_blended (K : PySem.W.Frag) : Sp := Pf (fun a : List Int × List Int × Int × Int => [Ti K a.1, Ti K a.2.1, isV (.int a.2.2.1), isV (.int a.2.2.2)]) (fun a => 0 < a.2.2.2 ∧ a.1.length ≤ 500 ∧ a.2.1.length ≤ 500 ∧ -1000000 < a.2.2.1 ∧ a.2.2.1 < 1000000) (fun a => Ts (blended a.1 a.2.1 a.2.2.1 a.2.2.2))
theorem ok_blended (D : Df K mg "blended" s_blended ["one", "other", "weight", "prime"]) (Bt : Bts mg) (c_cut : Cal P w K mg base 1 "cut" (p_cut K)) (c_widened : Cal P w K mg base 1 "widened" (p_widened K)) : Cal P w K mg base 2 "blended" (p_blended K) := by
  refine cal_of D sc_blended (fun vs H Q E ⟨a, _, h, _⟩ => h.len) fun f cdv A outer s H vs Q E hr ⟨⟨xs, ys, wt, p⟩, ⟨hp, hx1, hy1, w0, w1⟩, hds, q⟩ => ?_
  dsimp only at *
  obtain ⟨x1, x2, x3, x4, rfl, hx, hy, rfl, rfl⟩ := all2_4 hds
  refine ⟨_, (pss_cons (ps_set (i := 4) sc_blended.nd rfl (by first | exact .inl rfl | exact .inr rfl) (pe_callB (call_maxS rfl) (by rfl) Bt.max (by decide +kernel) (pa_cons (pe_callB (call_lenK (K := K)) (by rfl) Bt.len PySem.boot_len (pa_cons (pv 0) pa_nil)) (pa_cons (pe_callB (call_lenK (K := K)) (by rfl) Bt.len PySem.boot_len (pa_cons (pv 1) pa_nil)) pa_nil))))
      (pss_one (ps_ret (pe_d c_cut hr (by decide) (by rfl) (pa_cons (pe_lc (own := [("a", 5), ("b", 6)]) rfl sc_blended.nd (RZ.pi_zipA (by rfl) Bt.zip (pa_cons (pe_d c_widened hr (by decide) (by rfl) (pa_cons (pv 0) (pa_cons (pv 4) pa_nil))) (pa_cons (pe_d c_widened hr (by decide) (by rfl) (pa_cons (pv 1) (pa_cons (pv 4) pa_nil))) pa_nil))) (blkOk_by (N := N_blended) (sc := defScope s_blended) (by decide +kernel)) (fun _ _ _ _ _ => (pg_tupK (K := K) (n := 2) rfl (pgs_cons (pg_name (i := 5) sc_blended.nd rfl (by first | exact .inl rfl | exact .inr rfl)) (pgs_cons (pg_name (i := 6) sc_blended.nd rfl (by first | exact .inl rfl | exact .inr rfl)) pgs_nil)))) (fun _ _ _ _ _ => pts_nil) (fun _ _ _ _ _ => (pe_op op_mod (pe_op op_add (pv 5) (pe_op op_mul (pv 2) (pv 6))) (pv 3)))) pa_nil))))), ?_⟩
  refine q_set (ev_max (ev_lenT (ev_v 0 Ti.mono rfl hx)) (ev_lenT (ev_v 1 Ti.mono rfl hy))) fun v H1 s1 h1 => ?_
  obtain rfl := h1
  have hx := Ti.mono _ _ _ s1 hx
  have hy := Ti.mono _ _ _ s1 hy
  have hl1 := wid_len xs (m := max xs.length ys.length) (Nat.le_max_left _ _)
  have hl2 := wid_len ys (m := max xs.length ys.length) (Nat.le_max_right _ _)
  refine s_ret (ev_cut (xs := List.zipWith (fun x y => (x + wt * y) % p) (wid xs (max xs.length ys.length)) (wid ys (max xs.length ys.length))) (EvL.li ?_) ?_) fun v H2 s2 h2 => q v H2 (s1.trans s2) h2
  · refine el_lcI _ (ei_zipLI (ev_widened (ev_v 0 Ti.mono rfl hx) (ev_i 4 rfl) (by omega) (by omega)) (ev_widened (ev_v 1 Ti.mono rfl hy) (ev_i 4 rfl) (by omega) (by omega)) (hl1.trans hl2.symm)) (by omega) (by rw [List.length_zipWith, hl1, hl2]; omega) ?_
    rintro i x H2 hi s2 ⟨T, y1, y2, ex, hT, h3, h4⟩
    obtain ⟨a, ea, rfl⟩ := nth_int h3
    obtain ⟨b, eb, rfl⟩ := nth_int h4
    subst ex
    refine ⟨_, fun k hk => g_pair hT hk, rfl, et_yes, ?_⟩
    rw [getD_zip ea eb]
    exact ev_I hp (ev_I0 (ev_i 5 rfl) (ev_I (.inl ⟨by omega, by omega⟩) (ev_i 2 rfl) (ev_i 6 rfl))) (ev_i 3 rfl)
  · show _ ≤ 1000; rw [List.length_zipWith, hl1, hl2]; omega
section
variable {σ : L2.St} {H : Hp} {ta tb tc td : TE} {E : XK}
theorem ev_blended {xs ys : List Int} {wt p : Int} (ha : Ev ta σ H (Ti K xs)) (hb : Ev tb σ H (Ti K ys)) (hc : Ev tc σ H (isV (.int wt))) (hd : Ev td σ H (isV (.int p))) (hp : 0 < p) (h1 : xs.length ≤ 500) (h2 : ys.length ≤ 500) (w0 : -1000000 < wt) (w1 : wt < 1000000) :
    Ev (tCall (p_blended K) [] E (tCons ta (tCons tb (tCons tc (tCons td tNil))))) σ H (Ts (blended xs ys wt p)) :=
  ev_call (xs, ys, wt, p) (ea_cons ha (ea_cons hb (ea_cons hc (ea_cons hd ea_nil)))) ⟨hp, h1, h2, w0, w1⟩ Ts.mk.md
end
end
end Rw
end
section
set_option maxRecDepth 100000
set_option maxHeartbeats 4000000
namespace Rw
open PySem PySem.Spec PyProof.Rows L2 Rf
variable {K : PySem.W.Frag}
/-! ### all but some lists stay -/
def Fr (M : List Addr) (H H' : Hp) : Prop := ∀ a o, a ∉ M → H a = some o → H' a = some o
theorem Fr.refl {M : List Addr} (H : Hp) : Fr M H H := fun _ _ _ h => h
theorem Fr.of {M : List Addr} {H H' : Hp} (e : Same H H') : Fr M H H' := fun a o _ h => e a o h
theorem Fr.trans {M : List Addr} {H H1 H2 : Hp} (a : Fr M H H1) (b : Fr M H1 H2) : Fr M H H2 := fun x o n h => b x o n (a x o n h)
theorem Fr.upd {M : List Addr} {H : Hp} {p : Addr} {o : HO} (h : p ∈ M) : Fr M H (upd H p o) := fun a ob n e => by rw [upd_ne (fun z => n (by rw [z]; exact h))]; exact e
theorem Fr.mono {M N : List Addr} {H H' : Hp} (h : Fr M H H') (s : ∀ p ∈ M, p ∈ N) : Fr N H H' := fun a o n e => h a o (fun z => n (s a z)) e
theorem Fr.less {M N : List Addr} {H H' : Hp} (h : Fr M H H') (s : ∀ p ∈ M, p ∈ N ∨ H p = none) : Fr N H H' := fun a o n e => h a o (fun z => by
  rcases s a z with q | q
  · exact n q
  · rw [q] at e; cases e) e
def Muts (M : List Addr) (H : Hp) : Prop := ∀ p ∈ M, ∃ o, H p = some o ∧ Mut (some o)
theorem Fr.tk {M : List Addr} {H H' : Hp} (f : Fr M H H') (m : Muts M H) : Tk H H' := by
  have n1 : ∀ a xs, H a = some (.tup xs) → a ∉ M := fun a xs e z => by
    obtain ⟨o, h1, h2⟩ := m a z
    rw [e] at h1; cases h1; exact h2
  have n2 : ∀ a ob xs, H a = some (.frz ob (.tup xs)) → a ∉ M := fun a ob xs e z => by
    obtain ⟨o, h1, h2⟩ := m a z
    rw [e] at h1; cases h1; exact h2
  refine ⟨fun a xs q => ?_, fun a xs q => f a _ (n1 a xs q) q⟩
  rcases q with q | ⟨ob, q⟩
  · exact .inl (f a _ (n1 a xs q) q)
  · exact .inr ⟨ob, f a _ (n2 a ob xs q) q⟩
theorem muts1 {l : Addr} {xs : List V} {H : Hp} (h : H l = some (.lst xs)) : Muts [l] H := fun p hp => by
  rw [List.mem_singleton.mp hp]; exact ⟨_, h, trivial⟩
theorem muts2 {l m : Addr} {xs ys : List V} {H : Hp} (h : H l = some (.lst xs)) (g : H m = some (.lst ys)) : Muts [l, m] H := fun p hp => by
  rcases List.mem_cons.mp hp with e | e
  · rw [e]; exact ⟨_, h, trivial⟩
  · rw [List.mem_singleton.mp e]; exact ⟨_, g, trivial⟩
/-- what a loop's body may use and must give back -/
structure Keep (M : List Addr) (H : Hp) (T : Hp → Prop) : Prop where
  same : ∀ H3 H4, Same H3 H4 → T H3 → T H4
  upd : ∀ H3 p o o', T H3 → H3 p = some o → Mut (some o) → p ∈ M → T (upd H3 p o')
  fr : ∀ H3, T H3 → Fr M H H3
section
variable {σ : L2.St} {H H' : Hp} {ta tb tc te tl : TE} {t u : TT} {P P' P1 P2 P3 : PV} {i j : Int} {r : R2}
theorem s_forM {wi : L2.TI} {g : TG} {tu : L2.TS} {D : Ends} {n : Nat} {P : Nat → PV} {L : List Addr} (he : EvI wi σ H n P L) (M : List Addr) (hM : Muts M H) (hL : ∀ p ∈ M, p ∉ L) (I : Nat → L2.St → Hp → Prop)
    (h0 : ∀ B, Same H B → I 0 σ B)
    (hs : ∀ T : Hp → Prop, Keep M H T → ∀ i σ' H', i < n → T H' → I i σ' H' → ∀ x H'', Same H' H'' → P i x H'' → T H'' → g x σ' H'' fun σ2 H2 => tu { D with nx := fun σ3 H3 => T H3 ∧ I (i + 1) σ3 H3, ct := fun σ3 H3 => T H3 ∧ I (i + 1) σ3 H3, bk := D.nx } σ2 H2)
    (hd : ∀ σ' H', Fr M H H' → I n σ' H' → D.nx σ' H') : tFor wi g tu D σ H :=
  s_for he (fun S B i σ' H' => (S H' ∧ Fr M H H') ∧ I i σ' H') (fun S B e s src => ⟨⟨s, Fr.of e⟩, h0 B e⟩) (fun S B i σ' H' src hi p => p.1.1)
    (fun S B i σ' H' e hi src p x H'' e2 y => hs (fun H3 => S H3 ∧ Fr M H H3) ⟨fun H3 H4 e3 q => ⟨src.same H3 H4 e3 q.1, q.2.trans (Fr.of e3)⟩, fun H3 p o o' q h1 h2 h3 => ⟨src.upd H3 p o o' q.1 h1 h2 (fun z => by
      obtain ⟨ob, h4, h5⟩ := hM p h3
      rw [z] at h4; cases h4) (hL p h3), q.2.trans (Fr.upd h3)⟩, fun H3 q => q.2⟩ i σ' H' hi p.1 p.2 x H'' e2 y ⟨src.same _ _ e2 p.1.1, p.1.2.trans (Fr.of e2)⟩)
    (fun S B σ' H' e p => hd σ' H' p.1.2 p.2)
theorem q_forM {wi : L2.TI} {g : TG} {tu tz : L2.TS} {D : Ends} {n : Nat} {P : Nat → PV} {L : List Addr} (he : EvI wi σ H n P L) (M : List Addr) (hM : Muts M H) (hL : ∀ p ∈ M, p ∉ L) (I : Nat → L2.St → Hp → Prop)
    (h0 : ∀ B, Same H B → I 0 σ B)
    (hs : ∀ T : Hp → Prop, Keep M H T → ∀ i σ' H', i < n → T H' → I i σ' H' → ∀ x H'', Same H' H'' → P i x H'' → T H'' → g x σ' H'' fun σ2 H2 => tu { D with nx := fun σ3 H3 => T H3 ∧ I (i + 1) σ3 H3, ct := fun σ3 H3 => T H3 ∧ I (i + 1) σ3 H3, bk := tz D } σ2 H2)
    (hd : ∀ σ' H', Fr M H H' → I n σ' H' → tz D σ' H') : tSeq (tFor wi g tu) tz D σ H := s_forM (D := { D with nx := tz D }) he M hM hL I h0 hs hd
/-! ### comprehensions of ints -/
theorem el_lcTI {n : Nat} {xs : List Int} {tt : TT} (f : Int → Int) (h : Ev tl σ H (Ti K xs)) (hl : xs.length ≤ 50000) (hs : ∀ (i : Nat) (x : Int) H1, xs[i]? = some x → Same H H1 → EvT tt ((wipe σ [n]).set n (some (.int x))) H1 true ∧ Ev te ((wipe σ [n]).set n (some (.int x))) H1 (isV (.int (f x))))
    (hw : ∀ v, wipe ((wipe σ [n]).set n (some v)) [n] = wipe σ [n] := by intro _; rfl) : EvL (tLc (iTup K tl) (gName n) tt te [n]) σ H ((xs.map f).map V.int) := by
  refine el_lcI _ (ei_tupI h) hl (by rw [List.length_map]) ?_
  intro i x H1 hi e hx
  obtain ⟨z, h1, rfl⟩ := nth_int hx
  obtain ⟨a, b⟩ := hs i z H1 h1 e
  refine ⟨_, fun k hk => hk, hw _, a, ?_⟩
  rw [getD_of (z := f z) (by rw [List.getElem?_map, h1]; rfl)]
  exact b
theorem el_lcLI {n : Nat} {xs : List Int} {tt : TT} {a : Addr} (f : Int → Int) (h : Ev tl σ H (isV (.ref a))) (hh : H a = some (.lst (xs.map V.int))) (hl : xs.length ≤ 50000) (hs : ∀ (i : Nat) (x : Int) H1, xs[i]? = some x → Same H H1 → EvT tt ((wipe σ [n]).set n (some (.int x))) H1 true ∧ Ev te ((wipe σ [n]).set n (some (.int x))) H1 (isV (.int (f x))))
    (hw : ∀ v, wipe ((wipe σ [n]).set n (some v)) [n] = wipe σ [n] := by intro _; rfl) : EvL (tLc (iList K tl) (gName n) tt te [n]) σ H ((xs.map f).map V.int) := by
  have z := ei_lst (K := K) (ds := xs.map fun x => isV (.int x)) h (SqL.of hh) (all2_ints.mpr rfl) ints_mk
  rw [List.length_map] at z
  refine el_lcI _ z hl (by rw [List.length_map]) ?_
  intro i x H1 hi e hx
  obtain ⟨z, h1, rfl⟩ := nth_int hx
  obtain ⟨a, b⟩ := hs i z H1 h1 e
  refine ⟨_, fun k hk => hk, hw _, a, ?_⟩
  rw [getD_of (z := f z) (by rw [List.getElem?_map, h1]; rfl)]
  exact b
theorem ev_maxI {a b : Int} (ha : Ev ta σ H (isV (.int a))) (hb : Ev tb σ H (isV (.int b))) : Ev (tCB Evl.rMax2 (tCons ta (tCons tb tNil))) σ H (isV (.int (if b > a then b else a))) :=
  ⟨md_isV, fun H1 e Q q => ha.run H1 e _ fun x H2 e2 p => hb.run H2 (e.trans e2) _ fun y H3 e3 p' => ⟨a, b, by rw [show x = _ from p, show y = _ from p'], q _ H3 (e2.trans e3) rfl⟩⟩
end
end Rw
end
section
set_option maxRecDepth 100000
set_option maxHeartbeats 4000000
namespace Rw
open PySem PySem.Spec PyProof.Rows L2 Rf
variable {K : PySem.W.Frag}
theorem raisedF_bd {p : Int} (hp : 0 < p) : ∀ (k : Nat) (f b e : Int), 0 ≤ f → f < p → 0 ≤ raisedF k f b e p ∧ raisedF k f b e p < p
  | 0, f, b, e, h0, h1 => ⟨h0, h1⟩
  | k + 1, f, b, e, h0, h1 => by
    rw [raisedF]
    split
    · refine raisedF_bd hp k _ _ _ ?_ ?_
      · split
        · exact Int.emod_nonneg _ (by omega)
        · exact h0
      · split
        · exact Int.emod_lt_of_pos _ hp
        · exact h1
    · exact ⟨h0, h1⟩
theorem turned_bd {n p : Int} (h : PR p) : 0 ≤ turnedOver n p ∧ turnedOver n p < p := by
  have := h.bd
  exact raisedF_bd (by omega) _ _ _ _ (by omega) (by omega)
theorem getLastD_of {l : List Int} {z : Int} (h : l.getLast? = some z) : l.getLastD 0 = z := by rw [List.getLastD_eq_getLast?, h]; rfl
theorem last_of {l : List Int} (h : l ≠ []) : l.getLast? = some (l.getLastD 0) := by
  cases e : l.getLast? with
  | none => exact (h (List.getLast?_eq_none_iff.mp e)).elim
  | some z => rw [getLastD_of e]
section
variable {P : Program} {w : World} {mg : Str → Option Value} {base : Heap}
abbrev s_less : Stmt := topS 27
abbrev N_less : List Str := ["one", "other", "prime"]
theorem sc_less : FnScope N_less ["one", "other", "prime"] (defScope s_less) := ⟨rfl, rfl, rfl, by decide +kernel, rfl, by decide +kernel, by decide +kernel⟩

def p_less (K : PySem.W.Frag) : Sp := Pf (fun a : List Int × List Int × Int => [Ti K a.1, Ti K a.2.1, isV (.int a.2.2)]) (fun a => PR a.2.2 ∧ a.1.length ≤ 500 ∧ a.2.1.length ≤ 500) (fun a => Ts (less a.1 a.2.1 a.2.2))
theorem ok_less (D : Df K mg "less" s_less ["one", "other", "prime"]) (Bt : Bts mg) (Gb : Gbs K mg) (c_blended : Cal P w K mg base 2 "blended" (p_blended K)) : Cal P w K mg base 3 "less" (p_less K) := by
  refine cal_of D sc_less (fun vs H Q E ⟨a, _, h, _⟩ => h.len) fun f cdv A outer s H vs Q E hr ⟨⟨xs, ys, p⟩, ⟨hp, hx1, hy1⟩, hds, q⟩ => ?_
  dsimp only at *
  obtain ⟨x1, x2, x3, rfl, hx, hy, rfl⟩ := all2_3 hds
  have bd := hp.bd
  refine ⟨_, (pss_one (ps_ret (pe_d c_blended hr (by decide) (by rfl) (pa_cons (pv 0) (pa_cons (pv 1) (pa_cons (pe_op op_sub (pv 2) pe_int) (pa_cons (pv 2) pa_nil))))))), ?_⟩
  exact s_ret (ev_blended (wt := p - 1) (ev_v 0 Ti.mono rfl hx) (ev_v 1 Ti.mono rfl hy) (ev_I0 (ev_i 2 rfl) ev_c) (ev_i 2 rfl) (by omega) hx1 hy1 (by omega) (by omega)) fun v H1 e r => q v H1 e r
section
variable {σ : L2.St} {H : Hp} {ta tb tc td : TE} {E : XK}
theorem ev_less {xs ys : List Int} {p : Int} (ha : Ev ta σ H (Ti K xs)) (hb : Ev tb σ H (Ti K ys)) (hd : Ev td σ H (isV (.int p))) (hp : PR p) (h1 : xs.length ≤ 500) (h2 : ys.length ≤ 500) :
    Ev (tCall (p_less K) [] E (tCons ta (tCons tb (tCons td tNil)))) σ H (Ts (less xs ys p)) :=
  ev_call (xs, ys, p) (ea_cons ha (ea_cons hb (ea_cons hd ea_nil))) ⟨hp, h1, h2⟩ Ts.mk.md
end
abbrev s_scaled : Stmt := topS 28
abbrev N_scaled : List Str := ["one", "weight", "prime", "part"]
theorem sc_scaled : FnScope N_scaled ["one", "weight", "prime"] (defScope s_scaled) := ⟨rfl, rfl, rfl, by decide +kernel, rfl, by decide +kernel, by decide +kernel⟩

def p_scaled (K : PySem.W.Frag) : Sp := Pf (fun a : List Int × Int × Int => [Ti K a.1, isV (.int a.2.1), isV (.int a.2.2)]) (fun a => PR a.2.2 ∧ a.1.length ≤ 500 ∧ 0 ≤ a.2.1 ∧ a.2.1 < a.2.2) (fun a => Ts (scaled a.1 a.2.1 a.2.2))
theorem ok_scaled (D : Df K mg "scaled" s_scaled ["one", "weight", "prime"]) (Bt : Bts mg) (Gb : Gbs K mg) (c_cut : Cal P w K mg base 1 "cut" (p_cut K)) : Cal P w K mg base 2 "scaled" (p_scaled K) := by
  refine cal_of D sc_scaled (fun vs H Q E ⟨a, _, h, _⟩ => h.len) fun f cdv A outer s H vs Q E hr ⟨⟨xs, wt, p⟩, ⟨hp, hx1, w0, w1⟩, hds, q⟩ => ?_
  dsimp only at *
  obtain ⟨x1, x2, x3, rfl, hx, rfl, rfl⟩ := all2_3 hds
  have bd := hp.bd
  refine ⟨_, (pss_one (ps_ret (pe_d c_cut hr (by decide) (by rfl) (pa_cons (pe_lc (own := [("part", 3)]) rfl sc_scaled.nd (pi_tup (pv 0)) (blkOk_by (N := N_scaled) (sc := defScope s_scaled) (by decide +kernel)) (fun _ _ _ _ _ => (pg_name (i := 3) sc_scaled.nd rfl (by first | exact .inl rfl | exact .inr rfl))) (fun _ _ _ _ _ => pts_nil) (fun _ _ _ _ _ => (pe_op op_mod (pe_op op_mul (pv 3) (pv 1)) (pv 2)))) pa_nil)))), ?_⟩
  refine s_ret (ev_cut (xs := xs.map fun x => x * wt % p) (EvL.li ?_) (by rw [List.length_map]; omega)) fun v H1 e r => q v H1 e r
  exact el_lcTI (fun x => x * wt % p) (ev_v 0 Ti.mono rfl hx) (by omega) fun i x H2 hi s2 => ⟨et_yes, ev_I (show 0 < p by omega) (ev_I (.inr ⟨by omega, by omega⟩) (ev_i 3 rfl) (ev_i 1 rfl)) (ev_i 2 rfl)⟩
section
variable {σ : L2.St} {H : Hp} {ta tb tc td : TE} {E : XK}
theorem ev_scaled {xs : List Int} {wt p : Int} (ha : Ev ta σ H (Ti K xs)) (hb : Ev tb σ H (isV (.int wt))) (hd : Ev td σ H (isV (.int p))) (hp : PR p) (h1 : xs.length ≤ 500) (w0 : 0 ≤ wt) (w1 : wt < p) :
    Ev (tCall (p_scaled K) [] E (tCons ta (tCons tb (tCons td tNil)))) σ H (Ts (scaled xs wt p)) :=
  ev_call (xs, wt, p) (ea_cons ha (ea_cons hb (ea_cons hd ea_nil))) ⟨hp, h1, w0, w1⟩ Ts.mk.md
end
abbrev s_levelled : Stmt := topS 32
abbrev N_levelled : List Str := ["one", "prime"]
theorem sc_levelled : FnScope N_levelled ["one", "prime"] (defScope s_levelled) := ⟨rfl, rfl, rfl, by decide +kernel, rfl, by decide +kernel, by decide +kernel⟩

def p_levelled (K : PySem.W.Frag) : Sp := Pf (fun a : List Int × Int => [Ti K a.1, isV (.int a.2)]) (fun a => PR a.2 ∧ a.1.length ≤ 500 ∧ a.1 ≠ [] ∧ Rg a.2 a.1) (fun a => Ts (levelled a.1 a.2))
theorem ok_levelled (D : Df K mg "levelled" s_levelled ["one", "prime"]) (Bt : Bts mg) (Gb : Gbs K mg) (c_turned_over : Cal P w K mg base 2 "turned_over" p_turned_over) (c_scaled : Cal P w K mg base 2 "scaled" (p_scaled K)) : Cal P w K mg base 3 "levelled" (p_levelled K) := by
  refine cal_of D sc_levelled (fun vs H Q E ⟨a, _, h, _⟩ => h.len) fun f cdv A outer s H vs Q E hr ⟨⟨xs, p⟩, ⟨hp, hx1, ne, rg⟩, hds, q⟩ => ?_
  dsimp only at *
  obtain ⟨x1, x2, rfl, hx, rfl⟩ := all2_2 hds
  have bd := hp.bd
  refine ⟨_, (pss_one (ps_ret (pe_d c_scaled hr (by decide) (by rfl) (pa_cons (pv 0) (pa_cons (pe_d c_turned_over hr (by decide) (by rfl) (pa_cons (pe_ix (ix_tupK (K := K)) (pv 0) (pe_un un_neg pe_int) (fun _ _ => rfl)) (pa_cons (pv 1) pa_nil))) (pa_cons (pv 1) pa_nil)))))), ?_⟩
  have lr := rg _ (List.mem_of_getLast? (last_of ne))
  have tb := turned_bd (n := xs.getLastD 0) hp
  exact s_ret (ev_scaled (ev_v 0 Ti.mono rfl hx) (ev_turned (ev_lastTI (ev_v 0 Ti.mono rfl hx) (ev_neg ev_c) (last_of ne)) (ev_i 1 rfl) hp lr.1 lr.2) (ev_i 1 rfl) hp hx1 tb.1 tb.2) fun v H1 e r => q v H1 e r
section
variable {σ : L2.St} {H : Hp} {ta tb tc td : TE} {E : XK}
theorem ev_levelled {xs : List Int} {p : Int} (ha : Ev ta σ H (Ti K xs)) (hd : Ev td σ H (isV (.int p))) (hp : PR p) (h1 : xs.length ≤ 500) (ne : xs ≠ []) (rg : Rg p xs) :
    Ev (tCall (p_levelled K) [] E (tCons ta (tCons td tNil))) σ H (Ts (levelled xs p)) :=
  ev_call (xs, p) (ea_cons ha (ea_cons hd ea_nil)) ⟨hp, h1, ne, rg⟩ Ts.mk.md
end
abbrev s_worth_at : Stmt := topS 36
abbrev N_worth_at : List Str := ["one", "number", "prime", "found", "part"]
theorem sc_worth_at : FnScope N_worth_at ["one", "number", "prime"] (defScope s_worth_at) := ⟨rfl, rfl, rfl, by decide +kernel, rfl, by decide +kernel, by decide +kernel⟩

def p_worth_at (K : PySem.W.Frag) : Sp := Pf (fun a : List Int × Int × Int => [Ti K a.1, isV (.int a.2.1), isV (.int a.2.2)]) (fun a => PR a.2.2 ∧ 0 ≤ a.2.1 ∧ a.2.1 < a.2.2) (fun a => isV (.int (worthAt a.1 a.2.1 a.2.2)))
theorem ok_worth_at (D : Df K mg "worth_at" s_worth_at ["one", "number", "prime"]) (Bt : Bts mg) (Gb : Gbs K mg)  : Cal P w K mg base 1 "worth_at" (p_worth_at K) := by
  refine cal_of D sc_worth_at (fun vs H Q E ⟨a, _, h, _⟩ => h.len) fun f cdv A outer s H vs Q E hr ⟨⟨xs, n, p⟩, ⟨hp, n0, n1⟩, hds, q⟩ => ?_
  dsimp only at *
  obtain ⟨x1, x2, x3, rfl, hx, rfl, rfl⟩ := all2_3 hds
  have bd := hp.bd
  refine ⟨_, (pss_cons (ps_set (i := 3) sc_worth_at.nd rfl (by first | exact .inl rfl | exact .inr rfl) pe_int)
      (pss_cons (ps_for PassesOwn.never rfl (pi_tup (pe_revTK (K := K) (pv 0))) (pg_name (i := 4) sc_worth_at.nd rfl (by first | exact .inl rfl | exact .inr rfl)) (pss_one (ps_set (i := 3) sc_worth_at.nd rfl (by first | exact .inl rfl | exact .inr rfl) (pe_op op_mod (pe_op op_add (pe_op op_mul (pv 3) (pv 1)) (pv 4)) (pv 2)))))
      (pss_one (ps_ret (pv 3))))), ?_⟩
  refine q_set ev_c fun v H1 s1 h1 => ?_
  obtain rfl := h1
  have hx := Ti.mono _ _ _ s1 hx
  refine q_forM (ei_tupI (ev_revT (ev_v 0 Ti.mono rfl hx)).ti) [] (fun _ h => (by cases h)) (fun _ h => (by cases h)) (fun i σ' H' => ∃ (f : Int) (y : Option V), σ' = [some x1, some (.int n), some (.int p), some (.int f), y] ∧ Same H H' ∧ (xs.reverse.drop i).foldl (fun found part => (found * n + part) % p) f = worthAt xs n p)
    (fun B e => ⟨0, _, rfl, s1.trans e, rfl⟩) ?_ ?_
  · rintro T kp i σ' H' hi hT ⟨f, y, rfl, sm, eq⟩ x H'' s2 hz hT2
    obtain ⟨z, h1, rfl⟩ := nth_int hz
    refine s_set (ev_I (show 0 < p by omega) (ev_I0 (ev_I (.inr ⟨by omega, by omega⟩) (ev_i 3 rfl) (ev_i 1 rfl)) (ev_i 4 rfl)) (ev_i 2 rfl)) fun v H3 s3 h3 => ?_
    obtain rfl := h3
    refine ⟨kp.same _ _ s3 hT2, (f * n + z) % p, _, rfl, (sm.trans s2).trans s3, ?_⟩
    rw [← eq]
    have hlt := (List.getElem?_eq_some_iff.mp h1).1
    rw [List.drop_eq_getElem_cons hlt, List.foldl_cons, (List.getElem?_eq_some_iff.mp h1).2]
  · rintro σ' H' fr ⟨f, y, rfl, sm, eq⟩
    refine s_ret (ev_i 3 rfl) fun v H3 s3 h3 => q v H3 (sm.trans s3) ?_
    rw [List.drop_eq_nil_of_le (by simp)] at eq
    rw [← eq]; exact h3
abbrev s_sloped : Stmt := topS 37
abbrev N_sloped : List Str := ["one", "prime", "at", "part"]
theorem sc_sloped : FnScope N_sloped ["one", "prime"] (defScope s_sloped) := ⟨rfl, rfl, rfl, by decide +kernel, rfl, by decide +kernel, by decide +kernel⟩

def p_sloped (K : PySem.W.Frag) : Sp := Pf (fun a : List Int × Int => [Ti K a.1, isV (.int a.2)]) (fun a => PR a.2 ∧ a.1.length ≤ 500) (fun a => Ts (sloped a.1 a.2))
theorem ok_sloped (D : Df K mg "sloped" s_sloped ["one", "prime"]) (Bt : Bts mg) (Gb : Gbs K mg) (c_cut : Cal P w K mg base 1 "cut" (p_cut K)) : Cal P w K mg base 2 "sloped" (p_sloped K) := by
  refine cal_of D sc_sloped (fun vs H Q E ⟨a, _, h, _⟩ => h.len) fun f cdv A outer s H vs Q E hr ⟨⟨xs, p⟩, ⟨hp, hx1⟩, hds, q⟩ => ?_
  dsimp only at *
  obtain ⟨x1, x2, rfl, hx, rfl⟩ := all2_2 hds
  have bd := hp.bd
  refine ⟨_, (pss_one (ps_ret (pe_d c_cut hr (by decide) (by rfl) (pa_cons (pe_slice (sl_listK (K := K)) (pe_lc (own := [("at", 2), ("part", 3)]) rfl sc_sloped.nd (pi_enumT (by rfl) Bt.enumerate (pa_cons (pv 0) pa_nil)) (blkOk_by (N := N_sloped) (sc := defScope s_sloped) (by decide +kernel)) (fun _ _ _ _ _ => (pg_tupK (K := K) (n := 2) rfl (pgs_cons (pg_name (i := 2) sc_sloped.nd rfl (by first | exact .inl rfl | exact .inr rfl)) (pgs_cons (pg_name (i := 3) sc_sloped.nd rfl (by first | exact .inl rfl | exact .inr rfl)) pgs_nil)))) (fun _ _ _ _ _ => pts_nil) (fun _ _ _ _ _ => (pe_op op_mod (pe_op op_mul (pv 2) (pv 3)) (pv 1)))) (po_some pe_int) po_none) pa_nil)))), ?_⟩
  refine s_ret (ev_cut (xs := (xs.zipIdx.map fun x : Int × Nat => (x.2 : Int) * x.1 % p).drop 1) (EvL.li (el_from (n := 1) (EvL.li ?_) ev_c)) (by rw [List.length_drop, List.length_map, List.length_zipIdx]; omega)) fun v H1 e r => q v H1 e r
  refine el_lcI _ (ei_enumTI (ev_v 0 Ti.mono rfl hx)) (by omega) (by rw [List.length_map, List.length_zipIdx]) ?_
  rintro i x H2 hi s2 ⟨T, y1, y2, ex, hT, h3, h4⟩
  obtain ⟨b, eb, rfl⟩ := nth_int h4
  obtain rfl := h3
  subst ex
  refine ⟨_, fun k hk => g_pair hT hk, rfl, et_yes, ?_⟩
  rw [getD_of (z := (i : Int) * b % p) (by rw [List.getElem?_map, List.getElem?_zipIdx, eb]; simp)]
  exact ev_I (show 0 < p by omega) (ev_I (.inl ⟨by omega, by omega⟩) (ev_i 2 rfl) (ev_i 3 rfl)) (ev_i 1 rfl)
section
variable {σ : L2.St} {H : Hp} {ta tb tc td : TE} {E : XK}
theorem ev_sloped {xs : List Int} {p : Int} (ha : Ev ta σ H (Ti K xs)) (hd : Ev td σ H (isV (.int p))) (hp : PR p) (h1 : xs.length ≤ 500) :
    Ev (tCall (p_sloped K) [] E (tCons ta (tCons td tNil))) σ H (Ts (sloped xs p)) :=
  ev_call (xs, p) (ea_cons ha (ea_cons hd ea_nil)) ⟨hp, h1⟩ Ts.mk.md
theorem ev_worth {xs : List Int} {n p : Int} (ha : Ev ta σ H (Ti K xs)) (hb : Ev tb σ H (isV (.int n))) (hd : Ev td σ H (isV (.int p))) (hp : PR p) (n0 : 0 ≤ n) (n1 : n < p) :
    Ev (tCall (p_worth_at K) [] E (tCons ta (tCons tb (tCons td tNil)))) σ H (isV (.int (worthAt xs n p))) :=
  ev_call (xs, n, p) (ea_cons ha (ea_cons hb (ea_cons hd ea_nil))) ⟨hp, n0, n1⟩ md_isV
end
abbrev s_multiplied : Stmt := topS 29
abbrev N_multiplied : List Str := ["one", "other", "prime", "found", "at", "part", "place", "more", "number"]
theorem sc_multiplied : FnScope N_multiplied ["one", "other", "prime"] (defScope s_multiplied) := ⟨rfl, rfl, rfl, by decide +kernel, rfl, by decide +kernel, by decide +kernel⟩

def p_multiplied (K : PySem.W.Frag) : Sp := Pf (fun a : List Int × List Int × Int => [Ti K a.1, Ti K a.2.1, isV (.int a.2.2)]) (fun a => PR a.2.2 ∧ Rg a.2.2 a.1 ∧ a.1.length ≤ 400 ∧ a.2.1.length ≤ 400) (fun a => Ts (multiplied a.1 a.2.1 a.2.2))
theorem ok_multiplied (D : Df K mg "multiplied" s_multiplied ["one", "other", "prime"]) (Bt : Bts mg) (Gb : Gbs K mg) (c_cut : Cal P w K mg base 1 "cut" (p_cut K)) : Cal P w K mg base 2 "multiplied" (p_multiplied K) := by
  refine cal_of D sc_multiplied (fun vs H Q E ⟨a, _, h, _⟩ => h.len) fun f cdv A outer s H vs Q E hr ⟨⟨xs, ys, p⟩, ⟨hp, rg, hx1, hy1⟩, hds, q⟩ => ?_
  dsimp only at *
  obtain ⟨x1, x2, x3, rfl, hx, hy, rfl⟩ := all2_3 hds
  have bd := hp.bd
  refine ⟨_, (pss_cons (ps_if ((pw_or (pt_cmpR (op_eqDK (K := K) hr.units) (pv 0) (pe_tup pa_nil) (nomark _)) (pw_or1 (pt_cmpR (op_eqDK (K := K) hr.units) (pv 1) (pe_tup pa_nil) (nomark _))))).pt (pss_one (ps_ret (pe_tup pa_nil))) pss_nil)
      (pss_cons (ps_set (i := 3) sc_multiplied.nd rfl (by first | exact .inl rfl | exact .inr rfl) (pe_op op_rep (pe_lst (pa_cons pe_int pa_nil)) (pe_op op_sub (pe_op op_add (pe_callB (call_lenK (K := K)) (by rfl) Bt.len PySem.boot_len (pa_cons (pv 0) pa_nil)) (pe_callB (call_lenK (K := K)) (by rfl) Bt.len PySem.boot_len (pa_cons (pv 1) pa_nil))) pe_int)))
      (pss_cons (ps_for PassesOwn.never rfl (pi_enumT (by rfl) Bt.enumerate (pa_cons (pv 0) pa_nil)) (pg_tupK (K := K) (n := 2) rfl (pgs_cons (pg_name (i := 4) sc_multiplied.nd rfl (by first | exact .inl rfl | exact .inr rfl)) (pgs_cons (pg_name (i := 5) sc_multiplied.nd rfl (by first | exact .inl rfl | exact .inr rfl)) pgs_nil))) (pss_one (ps_if (pt_cmpR op_ne (pv 5) pe_int (nomark _)) (pss_one (ps_for PassesOwn.never rfl (pi_enumT (by rfl) Bt.enumerate (pa_cons (pv 1) pa_nil)) (pg_tupK (K := K) (n := 2) rfl (pgs_cons (pg_name (i := 6) sc_multiplied.nd rfl (by first | exact .inl rfl | exact .inr rfl)) (pgs_cons (pg_name (i := 7) sc_multiplied.nd rfl (by first | exact .inl rfl | exact .inr rfl)) pgs_nil))) (pss_one (ps_augS (pv 3) (pe_op op_add (pv 4) (pv 6)) pget_list (pe_op op_mul (pv 5) (pv 7)) ip_add set_list)))) pss_nil)))
      (pss_one (ps_ret (pe_d c_cut hr (by decide) (by rfl) (pa_cons (pe_lc (own := [("number", 8)]) rfl sc_multiplied.nd (pi_list (pv 3)) (blkOk_by (N := N_multiplied) (sc := defScope s_multiplied) (by decide +kernel)) (fun _ _ _ _ _ => (pg_name (i := 8) sc_multiplied.nd rfl (by first | exact .inl rfl | exact .inr rfl))) (fun _ _ _ _ _ => pts_nil) (fun _ _ _ _ _ => (pe_op op_mod (pv 8) (pv 2)))) pa_nil))))))), ?_⟩
  refine q_when (et_or (et_test (ev_eqT (ev_v 0 Ti.mono rfl hx) ev_t0.ti)) fun _ => et_test (ev_eqT (ev_v 1 Ti.mono rfl hy) ev_t0.ti)) (fun hb H1 s1 => ?_) (fun hb H1 s1 => ?_)
  · refine s_ret ev_t0 fun v H2 s2 h2 => q v H2 (s1.trans s2) ?_
    rw [multiplied, if_pos (by simpa using hb)]; exact h2
  have hne : ¬ (xs = [] ∨ ys = []) := by simpa using hb
  have hx := Ti.mono _ _ _ s1 hx
  have hy := Ti.mono _ _ _ s1 hy
  have l1 : 0 < xs.length := List.length_pos_iff.mpr fun z => hne (.inl z)
  have l2 : 0 < ys.length := List.length_pos_iff.mpr fun z => hne (.inr z)
  refine q_setL (el_zeros (n := xs.length + ys.length - 1) (fun H2 s2 => Ev.is (ev_I0 (ev_I0 (ev_lenT (ev_v 0 Ti.mono rfl (Ti.mono _ _ _ s2 hx))) (ev_lenT (ev_v 1 Ti.mono rfl (Ti.mono _ _ _ s2 hy)))) ev_c) (by congr 1; omega)) (by omega)) fun l H2 hl s2 e2 => ?_
  have hx := Ti.mono _ _ _ s2 hx
  have hy := Ti.mono _ _ _ s2 hy
  have mu := muts1 e2
  refine q_forM (ei_enumTI (ev_v 0 Ti.mono rfl hx)) [l] mu (fun p hp => by simp) (fun i σ' H' => ∃ (F : List Int) (c4 c5 c6 c7 c8 : Option V), σ' = [some x1, some x2, some (.int p), some (.ref l), c4, c5, c6, c7, c8] ∧ H' l = some (.lst (F.map V.int)) ∧ F.length = xs.length + ys.length - 1 ∧ out ys i F (xs.drop i) = out ys 0 (List.replicate (xs.length + ys.length - 1) 0) xs)
    (fun B e => ⟨_, _, _, _, _, _, rfl, e _ _ e2, by rw [List.length_replicate], rfl⟩) ?_ ?_
  · rintro T kp i σ' H' hi hT ⟨F, c4, c5, c6, c7, c8, rfl, eF, lF, eq⟩ x H'' s3 ⟨T0, y1, y2, ex, hT0, h3, h4⟩ hT2
    obtain ⟨a, ea, rfl⟩ := nth_int h4
    obtain rfl := h3
    subst ex
    refine g_pair hT0 ?_
    have hlt := (List.getElem?_eq_some_iff.mp ea).1
    have ga := (List.getElem?_eq_some_iff.mp ea).2
    rw [List.drop_eq_getElem_cons hlt, ga, out] at eq
    have ra := rg a (List.mem_of_getElem? ea)
    refine s_when (et_test (ev_ne rfl (ev_i 5 rfl) ev_c)) (fun hb H3 s4 => ?_) (fun hb H3 s4 => ?_)
    · have ha : a ≠ 0 := by simpa using hb
      rw [if_pos ha] at eq
      have hT3 := kp.same _ _ s4 hT2
      have tk := (kp.fr _ hT3).tk mu
      have e3 := s4 _ _ (s3 _ _ eF)
      refine s_forM (ei_enumTI (ev_v 1 Ti.mono rfl (Ti.mk _ _ _ tk hy))) [l] (muts1 e3) (fun p hp => by simp) (fun j σ' H' => T H' ∧ ∃ (G : List Int) (c6 c7 : Option V), σ' = [some x1, some x2, some (.int p), some (.ref l), some (.int i), some (.int a), c6, c7, c8] ∧ H' l = some (.lst (G.map V.int)) ∧ G.length = xs.length + ys.length - 1 ∧ inn a (i + j) G (ys.drop j) = inn a i F ys)
        (fun B e => ⟨kp.same _ _ e hT3, F, _, _, rfl, e _ _ e3, lF, rfl⟩) ?_ ?_
      · rintro T' kp' j σ' H4 hj hT' ⟨hT4, G, d6, d7, rfl, eG, lG, eq2⟩ x H5 s5 ⟨T1, y1, y2, ex, hT1, h3, h4⟩ hT5
        obtain ⟨b, eb, rfl⟩ := nth_int h4
        obtain rfl := h3
        subst ex
        refine g_pair hT1 ?_
        have hlb := (List.getElem?_eq_some_iff.mp eb).1
        rw [List.drop_eq_getElem_cons hlb, (List.getElem?_eq_some_iff.mp eb).2, inn] at eq2
        have hij : i + j < G.length := by omega
        refine s_augSI (n := i + j) (z := G.getD (i + j) 0) (s5 _ _ eG) (ev_i 3 rfl) (Ev.is (ev_I0 (ev_i 4 rfl) (ev_i 6 rfl)) (by simp)) ?_ (ev_I (.inl ⟨by omega, by omega⟩) (ev_i 5 rfl) (ev_i 7 rfl)) fun H6 s6 => ?_
        · rw [List.getElem?_map, List.getD_eq_getElem?_getD, List.getElem?_eq_getElem hij]; rfl
        have hT6 := kp.same _ _ (s5.trans s6) hT4
        have e6 := s6 _ _ (s5 _ _ eG)
        refine ⟨kp'.upd _ _ _ _ (kp'.same _ _ s6 hT5) e6 trivial (by simp), kp.upd _ _ _ _ hT6 e6 trivial (by simp), G.set (i + j) (G.getD (i + j) 0 + a * b), _, _, rfl, ?_, ?_, ?_⟩
        · rw [List.map_set]; exact upd_same
        · rw [List.length_set]; exact lG
        · rw [← eq2]; rfl
      · rintro σ' H4 fr ⟨hT4, G, d6, d7, rfl, eG, lG, eq2⟩
        rw [List.drop_eq_nil_of_le (Nat.le_refl _), inn] at eq2
        exact ⟨hT4, G, _, _, _, _, _, rfl, eG, lG, by rw [eq2]; exact eq⟩
    · have ha : a = 0 := by simpa using hb
      rw [if_neg (by rw [ha]; decide)] at eq
      exact ⟨kp.same _ _ s4 hT2, F, _, _, _, _, _, rfl, s4 _ _ (s3 _ _ eF), lF, eq⟩
  · rintro σ' H' fr ⟨F, c4, c5, c6, c7, c8, rfl, eF, lF, eq⟩
    rw [List.drop_eq_nil_of_le (Nat.le_refl _), out] at eq
    have sm : Same H H' := fun a o h => fr a o (fun z => by
      rw [List.mem_singleton.mp z] at h
      rw [(s1.free hl)] at h; cases h) (s2 _ _ (s1 _ _ h))
    refine s_ret (ev_cut (xs := F.map (· % p)) (EvL.li (el_lcLI (fun x => x % p) (ev_i 3 rfl) eF (by omega) fun i x H2 hi s2 => ⟨et_yes, ev_I (show 0 < p by omega) (ev_i 8 rfl) (ev_i 2 rfl)⟩)) (by rw [List.length_map]; omega)) fun v H3 s3 h3 => q v H3 (sm.trans s3) ?_
    rw [multiplied, if_neg hne, ← eq]; exact h3
section
variable {σ : L2.St} {H : Hp} {ta tb tc td : TE} {E : XK}
theorem ev_multiplied {xs ys : List Int} {p : Int} (ha : Ev ta σ H (Ti K xs)) (hb : Ev tb σ H (Ti K ys)) (hd : Ev td σ H (isV (.int p))) (hp : PR p) (rg : Rg p xs) (h1 : xs.length ≤ 400) (h2 : ys.length ≤ 400) :
    Ev (tCall (p_multiplied K) [] E (tCons ta (tCons tb (tCons td tNil)))) σ H (Ts (multiplied xs ys p)) :=
  ev_call (xs, ys, p) (ea_cons ha (ea_cons hb (ea_cons hd ea_nil))) ⟨hp, rg, h1, h2⟩ Ts.mk.md
end
end
end Rw
end
section
set_option maxRecDepth 100000
set_option maxHeartbeats 4000000
namespace Rw
open PySem PySem.Spec PyProof.Rows L2 Rf
variable {K : PySem.W.Frag}
theorem li_of {l : Addr} {xs : List Int} {H : Hp} (h : H l = some (.lst (xs.map V.int))) : Li K xs (.ref l) H := ⟨l, rfl, SqL.of h⟩
theorem get_of {G : List Int} {i : Nat} (h : i < G.length) : G[i]? = some (G.getD i 0) := by rw [List.getD_eq_getElem?_getD, List.getElem?_eq_getElem h]; rfl
theorem ei_downN {σ : L2.St} {H : Hp} {ta tb tc : TE} {a b : Int} {N : Nat} (h1 : Ev ta σ H (isV (.int a))) (h2 : Ev tb σ H (isV (.int b))) (h3 : Ev tc σ H (isV (.int (-1)))) (ha : -100000 ≤ a ∧ a ≤ 100000) (hb : -100000 ≤ b ∧ b ≤ 100000) (hN : (a - b).toNat = N) : EvI (iRng3 (tCons ta (tCons tb (tCons tc tNil)))) σ H N (fun i => isV (.int (a - i))) [] := hN ▸ ei_down h1 h2 h3 ha hb
section
variable {P : Program} {w : World} {mg : Str → Option Value} {base : Heap}
abbrev s_divided : Stmt := topS 30
abbrev N_divided : List Str := ["one", "other", "prime", "left", "size", "back", "quotient", "at", "weight", "place", "part"]
theorem sc_divided : FnScope N_divided ["one", "other", "prime"] (defScope s_divided) := ⟨rfl, rfl, rfl, by decide +kernel, rfl, by decide +kernel, by decide +kernel⟩

def p_divided (K : PySem.W.Frag) : Sp := Pf (fun a : List Int × List Int × Int => [Ti K a.1, Ti K a.2.1, isV (.int a.2.2)]) (fun a => PR a.2.2 ∧ Rg a.2.2 a.2.1 ∧ a.2.1 ≠ [] ∧ a.1.length ≤ 900 ∧ a.2.1.length ≤ 900) (fun a => Tds [Ts (divided a.1 a.2.1 a.2.2).1, Ts (divided a.1 a.2.1 a.2.2).2])
theorem tsts_md {xs ys : List Int} : ∀ d ∈ [Ts xs, Ts ys], Md d := fun d hd => by
  rcases List.mem_cons.mp hd with e | e
  · rw [e]; exact Ts.mk.md
  · rw [List.mem_singleton.mp e]; exact Ts.mk.md
theorem ok_divided (D : Df K mg "divided" s_divided ["one", "other", "prime"]) (Bt : Bts mg) (Gb : Gbs K mg) (c_turned_over : Cal P w K mg base 2 "turned_over" p_turned_over) (c_cut : Cal P w K mg base 1 "cut" (p_cut K)) : Cal P w K mg base 3 "divided" (p_divided K) := by
  refine cal_of D sc_divided (fun vs H Q E ⟨a, _, h, _⟩ => h.len) fun f cdv A outer s H vs Q E hr ⟨⟨xs, ys, p⟩, ⟨hp, rg, hne, hx1, hy1⟩, hds, q⟩ => ?_
  dsimp only at *
  obtain ⟨x1, x2, x3, rfl, hx, hy, rfl⟩ := all2_3 hds
  have bd := hp.bd
  have ly : 0 < ys.length := List.length_pos_iff.mpr hne
  have lr := rg _ (List.mem_of_getLast? (last_of hne))
  have tb := turned_bd (n := ys.getLastD 0) hp
  refine ⟨_, (pss_cons (ps_set (i := 3) sc_divided.nd rfl (by first | exact .inl rfl | exact .inr rfl) (pe_callTy (call_listK (K := K)) (by rfl) Bt.list (by decide +kernel) (pa_cons (pv 0) pa_nil)))
      (pss_cons (ps_set (i := 4) sc_divided.nd rfl (by first | exact .inl rfl | exact .inr rfl) (pe_callB (call_lenK (K := K)) (by rfl) Bt.len PySem.boot_len (pa_cons (pv 1) pa_nil)))
      (pss_cons (ps_set (i := 5) sc_divided.nd rfl (by first | exact .inl rfl | exact .inr rfl) (pe_d c_turned_over hr (by decide) (by rfl) (pa_cons (pe_ix (ix_tupK (K := K)) (pv 1) (pe_un un_neg pe_int) (fun _ _ => rfl)) (pa_cons (pv 2) pa_nil))))
      (pss_cons (ps_set (i := 6) sc_divided.nd rfl (by first | exact .inl rfl | exact .inr rfl) (pe_op op_rep (pe_lst (pa_cons pe_int pa_nil)) (pe_callB (call_maxS rfl) (by rfl) Bt.max (by decide +kernel) (pa_cons pe_int (pa_cons (pe_op op_add (pe_op op_sub (pe_callB (call_lenK (K := K)) (by rfl) Bt.len PySem.boot_len (pa_cons (pv 0) pa_nil)) (pv 4)) pe_int) pa_nil)))))
      (pss_cons (ps_for PassesOwn.never rfl (pi_range3 (by rfl) Bt.range (pa_cons (pe_op op_sub (pe_callB (call_lenK (K := K)) (by rfl) Bt.len PySem.boot_len (pa_cons (pv 0) pa_nil)) (pv 4)) (pa_cons (pe_un un_neg pe_int) (pa_cons (pe_un un_neg pe_int) pa_nil)))) (pg_name (i := 7) sc_divided.nd rfl (by first | exact .inl rfl | exact .inr rfl)) (pss_cons (ps_set (i := 8) sc_divided.nd rfl (by first | exact .inl rfl | exact .inr rfl) (pe_op op_mod (pe_op op_mul (pe_ix (ix_listK (K := K)) (pv 3) (pe_op op_sub (pe_op op_add (pv 7) (pv 4)) pe_int) (fun _ _ => rfl)) (pv 5)) (pv 2)))
      (pss_cons (ps_asg (pv 8) (pg_sub (pv 6) (pv 7) set_list))
      (pss_one (ps_if (pt_cmpR op_ne (pv 8) pe_int (nomark _)) (pss_one (ps_for PassesOwn.never rfl (pi_enumT (by rfl) Bt.enumerate (pa_cons (pv 1) pa_nil)) (pg_tupK (K := K) (n := 2) rfl (pgs_cons (pg_name (i := 9) sc_divided.nd rfl (by first | exact .inl rfl | exact .inr rfl)) (pgs_cons (pg_name (i := 10) sc_divided.nd rfl (by first | exact .inl rfl | exact .inr rfl)) pgs_nil))) (pss_one (ps_asg (pe_op op_mod (pe_op op_sub (pe_ix (ix_listK (K := K)) (pv 3) (pe_op op_add (pv 7) (pv 9)) (fun _ _ => rfl)) (pe_op op_mul (pv 8) (pv 10))) (pv 2)) (pg_sub (pv 3) (pe_op op_add (pv 7) (pv 9)) set_list))))) pss_nil)))))
      (pss_one (ps_ret (pe_tup (pa_cons (pe_d c_cut hr (by decide) (by rfl) (pa_cons (pv 6) pa_nil)) (pa_cons (pe_d c_cut hr (by decide) (by rfl) (pa_cons (pe_slice (sl_listK (K := K)) (pv 3) po_none (po_some (pe_op op_sub (pv 4) pe_int))) pa_nil)) pa_nil)))))))))), ?_⟩
  refine q_setL (el_listT (ev_v 0 Ti.mono rfl hx)) fun l1 H1 n1 s1 e1 => ?_
  have hx := Ti.mono _ _ _ s1 hx
  have hy := Ti.mono _ _ _ s1 hy
  refine q_set (ev_lenT (ev_v 1 Ti.mono rfl hy)) fun v H2 s2 h2 => ?_
  obtain rfl := h2
  have hx := Ti.mono _ _ _ s2 hx
  have hy := Ti.mono _ _ _ s2 hy
  refine q_set (ev_turned (ev_lastTI (ev_v 1 Ti.mono rfl hy) (ev_neg ev_c) (last_of hne)) (ev_i 2 rfl) hp lr.1 lr.2) fun v H3 s3 h3 => ?_
  obtain rfl := h3
  have hx := Ti.mono _ _ _ s3 hx
  have hy := Ti.mono _ _ _ s3 hy
  generalize hbk : turnedOver (ys.getLastD 0) p = bk at tb ⊢
  refine q_setL (el_zerosI (fun H4 s4 => ev_maxI ev_c (ev_I0 (ev_I0 (ev_lenT (ev_v 0 Ti.mono rfl (Ti.mono _ _ _ s4 hx))) (ev_i 4 rfl)) ev_c)) (by split <;> omega) (by split <;> omega)) fun l2 H4 n2 s4 e2 => ?_
  generalize hN : xs.length + 1 - ys.length = N
  have ek : (if (xs.length : Int) - (ys.length : Int) + 1 > 0 then (xs.length : Int) - (ys.length : Int) + 1 else 0).toNat = N := by split <;> omega
  rw [ek] at e2
  have hx := Ti.mono _ _ _ s4 hx
  have hy := Ti.mono _ _ _ s4 hy
  have e1 := s4 _ _ (s3 _ _ (s2 _ _ e1))
  have n12 : l1 ≠ l2 := fun z => by
    have := s3 _ _ (s2 _ _ (show H1 l1 = _ by assumption))
    rw [z, n2] at this; cases this
  have mu := muts2 e1 e2
  have hc : (((xs.length : Int) - (ys.length : Int)) - (-1)).toNat = N := by omega
  refine q_forM (ei_downN (N := N) (a := (xs.length : Int) - (ys.length : Int)) (b := -1) (ev_I0 (ev_lenT (ev_v 0 Ti.mono rfl hx)) (ev_i 4 rfl)) (ev_neg ev_c) (ev_neg ev_c) (by omega) (by omega) hc) [l1, l2] mu (fun p hp => by simp) (fun i σ' H' => ∃ (L Q : List Int) (c7 c8 c9 c10 : Option V), σ' = [some x1, some x2, some (.int p), some (.ref l1), some (.int ys.length), some (.int bk), some (.ref l2), c7, c8, c9, c10] ∧ H' l1 = some (.lst (L.map V.int)) ∧ H' l2 = some (.lst (Q.map V.int)) ∧ L.length = xs.length ∧ Q.length = N ∧ dvL ys bk p (N - i) L Q = dvL ys bk p N xs (List.replicate N 0))
    (fun B e => ⟨_, _, _, _, _, _, rfl, e _ _ e1, e _ _ e2, rfl, by rw [List.length_replicate], rfl⟩) ?_ ?_
  · rintro T kp i σ' H' hi hT ⟨L, Qo, c7, c8, c9, c10, rfl, eL, eQ, lL, lQ, eq⟩ x H'' s5 rfl hT2
    obtain ⟨k, hk⟩ : ∃ k, N - i = k + 1 := ⟨N - i - 1, by omega⟩
    have hat : (xs.length : Int) - (ys.length : Int) - (i : Int) = (k : Int) := by omega
    rw [hk, dvL] at eq
    show tSeq _ _ _ (List.set _ 7 (some (V.int ((xs.length : Int) - (ys.length : Int) - (i : Int))))) H''
    rw [hat]
    have eL' := s5 _ _ eL
    refine q_set (ev_I (show 0 < p by omega) (ev_I (.inr ⟨by omega, by omega⟩) (ev_ixLI (n := k + ys.length - 1) (ev_v 3 Li.mono rfl (li_of eL')) (Ev.is (ev_I0 (ev_I0 (ev_i 7 rfl) (ev_i 4 rfl)) ev_c) (by congr 1; omega)) (get_of (by omega))) (ev_i 5 rfl)) (ev_i 2 rfl)) fun v H5 s6 h5 => ?_
    obtain rfl := h5
    generalize hw : L.getD (k + ys.length - 1) 0 * bk % p = wt at eq ⊢
    have w0 : 0 ≤ wt := hw ▸ Int.emod_nonneg _ (by omega)
    have w1 : wt < p := hw ▸ Int.emod_lt_of_pos _ (by omega)
    have eQ' := s6 _ _ (s5 _ _ eQ)
    have eL' := s6 _ _ eL'
    refine q_setIx eQ' (ev_i 8 rfl) (ev_i 6 rfl) (ev_i 7 rfl) (by rw [List.length_map]; omega) fun v H6 s7 h6 => ?_
    obtain rfl := h6
    have eL' := s7 _ _ eL'
    have hT7 : T (upd H6 l2 (.lst ((Qo.map V.int).set k (.int wt)))) := kp.upd _ _ _ _ (kp.same _ _ (s6.trans s7) hT2) (s7 _ _ eQ') trivial (by simp)
    have eL7 : (upd H6 l2 (.lst ((Qo.map V.int).set k (.int wt)))) l1 = some (.lst (L.map V.int)) := by rw [upd_ne n12]; exact eL'
    have eQ7 : (upd H6 l2 (.lst ((Qo.map V.int).set k (.int wt)))) l2 = some (.lst ((Qo.set k wt).map V.int)) := by rw [upd_same, List.map_set]
    generalize upd H6 l2 (.lst ((Qo.map V.int).set k (.int wt))) = H7 at hT7 eL7 eQ7 ⊢
    have hyT := Ti.mk _ _ _ ((kp.fr _ hT7).tk mu) hy
    refine s_when (et_test (ev_ne rfl (ev_i 8 rfl) ev_c)) (fun hb H8 s8 => ?_) (fun hb H8 s8 => ?_)
    · have hw0 : wt ≠ 0 := by simpa using hb
      rw [if_pos hw0] at eq
      have hT8 := kp.same _ _ s8 hT7
      have e8 := s8 _ _ eL7
      refine s_forM (ei_enumTI (ev_v 1 Ti.mono rfl (Ti.mono _ _ _ s8 hyT))) [l1] (muts1 e8) (fun p hp => by simp) (fun j σ' H' => T H' ∧ ∃ (G : List Int) (c9 c10 : Option V), σ' = [some x1, some x2, some (.int p), some (.ref l1), some (.int ys.length), some (.int bk), some (.ref l2), some (.int k), some (.int wt), c9, c10] ∧ H' l1 = some (.lst (G.map V.int)) ∧ H' l2 = some (.lst ((Qo.set k wt).map V.int)) ∧ G.length = xs.length ∧ innM wt p (k + j) G (ys.drop j) = innM wt p k L ys)
        (fun B e => ⟨kp.same _ _ e hT8, L, _, _, rfl, e _ _ e8, e _ _ (s8 _ _ eQ7), lL, rfl⟩) ?_ ?_
      · rintro T' kp' j σ' H4 hj hT' ⟨hT4, G, d6, d7, rfl, eG, eQ, lG, eq2⟩ x H5 s5 ⟨T1, y1, y2, ex, hT1, h3, h4⟩ hT5
        obtain ⟨b, eb, rfl⟩ := nth_int h4
        obtain rfl := h3
        subst ex
        refine g_pair hT1 ?_
        have hlb := (List.getElem?_eq_some_iff.mp eb).1
        rw [List.drop_eq_getElem_cons hlb, (List.getElem?_eq_some_iff.mp eb).2, innM] at eq2
        have hij : k + j < G.length := by omega
        refine s_setIx (n := k + j) (s5 _ _ eG) (ev_I (show 0 < p by omega) (ev_I0 (ev_ixLI (n := k + j) (ev_v 3 Li.mono rfl (li_of (s5 _ _ eG))) (Ev.is (ev_I0 (ev_i 7 rfl) (ev_i 9 rfl)) (by simp)) (get_of hij)) (ev_I (.inl ⟨by omega, by omega⟩) (ev_i 8 rfl) (ev_i 10 rfl))) (ev_i 2 rfl)) (ev_i 3 rfl) (Ev.is (ev_I0 (ev_i 7 rfl) (ev_i 9 rfl)) (by simp)) (by rw [List.length_map]; exact hij) fun v H6 s6 h6 => ?_
        obtain rfl := h6
        have hT6 := kp.same _ _ (s5.trans s6) hT4
        have e6 := s6 _ _ (s5 _ _ eG)
        refine ⟨kp'.upd _ _ _ _ (kp'.same _ _ s6 hT5) e6 trivial (by simp), kp.upd _ _ _ _ hT6 e6 trivial (by simp), G.set (k + j) ((G.getD (k + j) 0 - wt * b) % p), _, _, rfl, ?_, ?_, ?_, ?_⟩
        · rw [List.map_set]; exact upd_same
        · rw [upd_ne (Ne.symm n12)]; exact s6 _ _ (s5 _ _ eQ)
        · rw [List.length_set]; exact lG
        · rw [← eq2]; rfl
      · rintro σ' H4 fr ⟨hT4, G, d6, d7, rfl, eG, eQ, lG, eq2⟩
        rw [List.drop_eq_nil_of_le (Nat.le_refl _), innM] at eq2
        exact ⟨hT4, G, _, _, _, _, _, rfl, eG, eQ, lG, by rw [List.length_set]; exact lQ, by rw [eq2, show N - (i + 1) = k by omega]; exact eq⟩
    · have hw0 : wt = 0 := by simpa using hb
      rw [if_neg (by rw [hw0]; decide)] at eq
      exact ⟨kp.same _ _ s8 hT7, L, _, _, _, _, _, rfl, s8 _ _ eL7, s8 _ _ eQ7, lL, by rw [List.length_set]; exact lQ, by rw [show N - (i + 1) = k by omega]; exact eq⟩
  · rintro σ' H' fr ⟨L, Qo, c7, c8, c9, c10, rfl, eL, eQ, lL, lQ, eq⟩
    rw [Nat.sub_self, dvL] at eq
    have sm : Same H H' := fun a o h => fr a o (fun z => by
      rcases List.mem_cons.mp z with z | z
      · rw [z, n1] at h; cases h
      · rw [List.mem_singleton.mp z, s1.free (s2.free (s3.free n2))] at h; cases h) (s4 _ _ (s3 _ _ (s2 _ _ (s1 _ _ h))))
    refine s_ret (ev_tupS (ea_cons (ev_cut (ev_v 6 Li.mono rfl (li_of eQ)) (by omega)) (ea_cons (ev_cut (EvL.li (el_to (n := ys.length - 1) (ev_v 3 Li.mono rfl (li_of eL)) (Ev.is (ev_I0 (ev_i 4 rfl) ev_c) (by congr 1; omega)))) (by rw [List.length_take]; omega)) ea_nil))) fun v H3 s3 h3 => q v H3 (sm.trans s3) ?_
    show Tds [Ts (divided xs ys p).1, Ts (divided xs ys p).2] v H3
    simp only [divided]
    rw [hbk, hN, ← eq]; exact h3
section
variable {σ : L2.St} {H : Hp} {ta tb tc td : TE} {E : XK}
theorem ev_divided {xs ys : List Int} {p : Int} (ha : Ev ta σ H (Ti K xs)) (hb : Ev tb σ H (Ti K ys)) (hd : Ev td σ H (isV (.int p))) (hp : PR p) (rg : Rg p ys) (ne : ys ≠ []) (h1 : xs.length ≤ 900) (h2 : ys.length ≤ 900) :
    Ev (tCall (p_divided K) [] E (tCons ta (tCons tb (tCons td tNil)))) σ H (Tds [Ts (divided xs ys p).1, Ts (divided xs ys p).2]) :=
  ev_call (xs, ys, p) (ea_cons ha (ea_cons hb (ea_cons hd ea_nil))) ⟨hp, rg, ne, h1, h2⟩ (Tds.mono tsts_md)
end
end
end Rw
end
section
set_option maxRecDepth 100000
set_option maxHeartbeats 4000000
namespace Rw
open PySem PySem.Spec PyProof.Rows L2 Rf
variable {K : PySem.W.Frag}
def T3 (t : Tri) : PV := Tds [Ts t.1, Ts t.2.1, Ts t.2.2]
theorem t3_mk' {t : Tri} : ∀ d ∈ [Ts t.1, Ts t.2.1, Ts t.2.2], Mk d := fun d hd => by
  rcases List.mem_cons.mp hd with e | hd
  · rw [e]; exact Ts.mk
  rcases List.mem_cons.mp hd with e | hd
  · rw [e]; exact Ts.mk
  · rw [List.mem_singleton.mp hd]; exact Ts.mk
theorem T3.mk {t : Tri} : Mk (T3 t) := Tds.mk t3_mk'
section
variable {σ : L2.St} {H H' : Hp} {ta tb tc td te tl : TE} {t u : TT} {P P' P1 P2 P3 : PV} {i j : Int} {E : XK} {D : Ends} {tz : L2.TS}
theorem Ev.td3 {t : Tri} (h : Ev te σ H (T3 t)) : Ev te σ H (Td K [Ts t.1, Ts t.2.1, Ts t.2.2]) := h.tdd fun d hd => (t3_mk' d hd).md
theorem ev_30 {t : Tri} (h : Ev ta σ H (T3 t)) (hb : Ev tb σ H (isV (.int 0))) : Ev (tOp (rIxT K) ta tb) σ H (Ts t.1) := ev_ixT (n := 0) h.td3 hb rfl Ts.mk.md
theorem ev_31 {t : Tri} (h : Ev ta σ H (T3 t)) (hb : Ev tb σ H (isV (.int 1))) : Ev (tOp (rIxT K) ta tb) σ H (Ts t.2.1) := ev_ixT (n := 1) h.td3 hb rfl Ts.mk.md
theorem ev_32 {t : Tri} (h : Ev ta σ H (T3 t)) (hb : Ev tb σ H (isV (.int 2))) : Ev (tOp (rIxT K) ta tb) σ H (Ts t.2.2) := ev_ixT (n := 2) h.td3 hb rfl Ts.mk.md
/-- a, b = e -/
theorem s_set2 {n m : Nat} (h : Ev te σ H (Td K [P1, P2])) (k : ∀ v w H1, Same H H1 → P1 v H1 → P2 w H1 → D.nx ((σ.set n (some v)).set m (some w)) H1) : tAsg te (gTup K 2 (gCons (gName n) (gCons (gName m) gNil))) D σ H :=
  h.run H (Same.refl _) _ fun v H1 e ⟨a, vs, e1, hq, al⟩ => by
    obtain ⟨x, y, rfl, h1, h2⟩ := all2_2 al
    exact ⟨a, _, e1, hq, rfl, x, [y], rfl, y, [], rfl, rfl, k x y H1 e h1 h2⟩
theorem q_set2 {n m : Nat} (h : Ev te σ H (Td K [P1, P2])) (k : ∀ v w H1, Same H H1 → P1 v H1 → P2 w H1 → tz D ((σ.set n (some v)).set m (some w)) H1) : tSeq (tAsg te (gTup K 2 (gCons (gName n) (gCons (gName m) gNil)))) tz D σ H := s_set2 (D := { D with nx := tz D }) h k
end
theorem leftBy_len {p : Int} {one rule : List Int} (u : Ru p rule) (r : Rg p one) : Cn p (leftBy one rule p) ∧ (leftBy one rule p).length < rule.length := ⟨(leftBy_ok u r).cn, (leftBy_ok u r).lt⟩
section
variable {P : Program} {w : World} {mg : Str → Option Value} {base : Heap}
abbrev s_left_by : Stmt := topS 31
abbrev N_left_by : List Str := ["one", "rule", "prime"]
theorem sc_left_by : FnScope N_left_by ["one", "rule", "prime"] (defScope s_left_by) := ⟨rfl, rfl, rfl, by decide +kernel, rfl, by decide +kernel, by decide +kernel⟩

def p_left_by (K : PySem.W.Frag) : Sp := Pf (fun a : List Int × List Int × Int => [Ti K a.1, Ti K a.2.1, isV (.int a.2.2)]) (fun a => PR a.2.2 ∧ Rg a.2.2 a.2.1 ∧ a.2.1 ≠ [] ∧ a.1.length ≤ 900 ∧ a.2.1.length ≤ 900) (fun a => Ts (leftBy a.1 a.2.1 a.2.2))
theorem ok_left_by (D : Df K mg "left_by" s_left_by ["one", "rule", "prime"]) (Bt : Bts mg) (Gb : Gbs K mg) (c_divided : Cal P w K mg base 3 "divided" (p_divided K)) : Cal P w K mg base 4 "left_by" (p_left_by K) := by
  refine cal_of D sc_left_by (fun vs H Q E ⟨a, _, h, _⟩ => h.len) fun f cdv A outer s H vs Q E hr ⟨⟨xs, ys, p⟩, ⟨hp, rg, hne, hx1, hy1⟩, hds, q⟩ => ?_
  dsimp only at *
  obtain ⟨x1, x2, x3, rfl, hx, hy, rfl⟩ := all2_3 hds
  refine ⟨_, (pss_one (ps_ret (pe_ix (ix_tupK (K := K)) (pe_d c_divided hr (by decide) (by rfl) (pa_cons (pv 0) (pa_cons (pv 1) (pa_cons (pv 2) pa_nil)))) pe_int (fun _ _ => rfl)))), ?_⟩
  exact s_ret (ev_ixT (n := 1) ((ev_divided (ev_v 0 Ti.mono rfl hx) (ev_v 1 Ti.mono rfl hy) (ev_i 2 rfl) hp rg hne hx1 hy1).tdd tsts_md) ev_c rfl Ts.mk.md) fun v H1 e r => q v H1 e r
section
variable {σ : L2.St} {H : Hp} {ta tb tc td : TE} {E : XK}
theorem ev_left_by {xs ys : List Int} {p : Int} (ha : Ev ta σ H (Ti K xs)) (hb : Ev tb σ H (Ti K ys)) (hd : Ev td σ H (isV (.int p))) (u : Ru p ys) (h1 : xs.length ≤ 900) (h2 : ys.length ≤ 900) :
    Ev (tCall (p_left_by K) [] E (tCons ta (tCons tb (tCons td tNil)))) σ H (Ts (leftBy xs ys p)) :=
  ev_call (xs, ys, p) (ea_cons ha (ea_cons hb (ea_cons hd ea_nil))) ⟨u.pr, u.cn.rg, u.ne, h1, h2⟩ Ts.mk.md
end
abbrev s_left_raised : Stmt := topS 34
abbrev N_left_raised : List Str := ["one", "exponent", "rule", "prime", "found", "base"]
theorem sc_left_raised : FnScope N_left_raised ["one", "exponent", "rule", "prime"] (defScope s_left_raised) := ⟨rfl, rfl, rfl, by decide +kernel, rfl, by decide +kernel, by decide +kernel⟩

def p_left_raised (K : PySem.W.Frag) : Sp := Pf (fun a : List Int × Int × List Int × Int => [Ti K a.1, isV (.int a.2.1), Ti K a.2.2.1, isV (.int a.2.2.2)]) (fun a => Ru a.2.2.2 a.2.2.1 ∧ Rg a.2.2.2 a.1 ∧ 0 ≤ a.2.1 ∧ a.1.length ≤ 100 ∧ a.2.2.1.length ≤ 100) (fun a => Ts (leftRaised a.1 a.2.1 a.2.2.1 a.2.2.2))
theorem lrL_fuel (rule : List Int) (p : Int) : ∀ (k l : Nat) (f b : List Int) (e : Int), 0 ≤ e → e.toNat ≤ k → e.toNat ≤ l → lrL rule p k f b e = lrL rule p l f b e := by
  intro k
  induction k with
  | zero =>
    intro l f b e h0 h1 h2
    cases l with
    | zero => rfl
    | succ l => rw [lrL, lrL, if_neg (by omega)]
  | succ k ih =>
    intro l f b e h0 h1 h2
    cases l with
    | zero => rw [lrL, lrL, if_neg (by omega)]
    | succ l =>
      rw [lrL, lrL]
      split
      · exact ih l _ _ _ (by omega) (by omega) (by omega)
      · rfl
theorem ok_left_raised (D : Df K mg "left_raised" s_left_raised ["one", "exponent", "rule", "prime"]) (Bt : Bts mg) (Gb : Gbs K mg) (c_multiplied : Cal P w K mg base 2 "multiplied" (p_multiplied K)) (c_left_by : Cal P w K mg base 4 "left_by" (p_left_by K)) : Cal P w K mg base 5 "left_raised" (p_left_raised K) := by
  refine cal_of D sc_left_raised (fun vs H Q E ⟨a, _, h, _⟩ => h.len) fun f cdv A outer s H vs Q E hr ⟨⟨xs, e, ys, p⟩, ⟨u, rg, e0, hx1, hy1⟩, hds, q⟩ => ?_
  dsimp only at *
  obtain ⟨x1, x2, x3, x4, rfl, hx, rfl, hy, rfl⟩ := all2_4 hds
  have hp := u.pr
  have bd := hp.bd
  refine ⟨_, (pss_cons (ps_set (i := 4) sc_left_raised.nd rfl (by first | exact .inl rfl | exact .inr rfl) (pe_d c_left_by hr (by decide) (by rfl) (pa_cons (pe_tup (pa_cons pe_int pa_nil)) (pa_cons (pv 2) (pa_cons (pv 3) pa_nil)))))
      (pss_cons (ps_set (i := 5) sc_left_raised.nd rfl (by first | exact .inl rfl | exact .inr rfl) (pe_d c_left_by hr (by decide) (by rfl) (pa_cons (pv 0) (pa_cons (pv 2) (pa_cons (pv 3) pa_nil)))))
      (pss_cons (ps_while PassesOwn.never (pt_cmpR op_gt (pv 1) pe_int (nomark _)) (pss_cons (ps_if (pt_cmpR op_eq (pe_op op_mod (pv 1) pe_int) pe_int (nomark _)) (pss_one (ps_set (i := 4) sc_left_raised.nd rfl (by first | exact .inl rfl | exact .inr rfl) (pe_d c_left_by hr (by decide) (by rfl) (pa_cons (pe_d c_multiplied hr (by decide) (by rfl) (pa_cons (pv 4) (pa_cons (pv 5) (pa_cons (pv 3) pa_nil)))) (pa_cons (pv 2) (pa_cons (pv 3) pa_nil)))))) pss_nil)
      (pss_cons (ps_set (i := 5) sc_left_raised.nd rfl (by first | exact .inl rfl | exact .inr rfl) (pe_d c_left_by hr (by decide) (by rfl) (pa_cons (pe_d c_multiplied hr (by decide) (by rfl) (pa_cons (pv 5) (pa_cons (pv 5) (pa_cons (pv 3) pa_nil)))) (pa_cons (pv 2) (pa_cons (pv 3) pa_nil)))))
      (pss_one (ps_aug (i := 1) sc_left_raised.nd rfl (by first | exact .inl rfl | exact .inr rfl) pe_int ip_fdiv)))))
      (pss_one (ps_ret (pv 4)))))), ?_⟩
  refine q_set (ev_left_by (ev_t1 ev_c).ti (ev_v 2 Ti.mono rfl hy) (ev_i 3 rfl) u (by simp) (by omega)) fun v H1 s1 h1 => ?_
  have hx := Ti.mono _ _ _ s1 hx
  have hy := Ti.mono _ _ _ s1 hy
  refine q_set (ev_left_by (ev_v 0 Ti.mono rfl hx) (ev_v 2 Ti.mono rfl hy) (ev_i 3 rfl) u (by omega) (by omega)) fun v2 H2 s2 h2 => ?_
  have l1 := leftBy_len u (Cn.one hp).rg
  have l2 := leftBy_len u rg
  refine q_while (fun m σ H' => ∃ (F B : List Int) (e' : Int) (v v2 : V), σ = [some x1, some (.int e'), some x3, some (.int p), some v, some v2] ∧ Same H H' ∧ Ts F v H' ∧ Ts B v2 H' ∧ 0 ≤ e' ∧ e'.toNat = m ∧ Cn p F ∧ F.length < ys.length ∧ Cn p B ∧ B.length < ys.length ∧ lrL ys p m F B e' = leftRaised xs e ys p) e.toNat
    ⟨_, _, e, _, _, rfl, s1.trans s2, Ts.mk.md _ _ _ s2 h1, h2, e0, rfl, l1.1, l1.2, l2.1, l2.2, rfl⟩ ?_
  rintro m σ' H' ⟨F, B, e', v, v2, rfl, sm, hF, hB, e0', hm, cF, lF, cB, lB, eq⟩
  have hy' := Ti.mono _ _ _ sm (by assumption : Ti K ys x3 H)
  refine ⟨_, et_test (ev_I0 (ev_i 1 rfl) ev_c), fun hb H3 s3 => ?_, fun hb H3 s3 => ?_⟩
  · have he : 0 < e' := by simpa using hb
    obtain ⟨k, rfl⟩ : ∃ k, m = k + 1 := ⟨m - 1, by omega⟩
    rw [lrL, if_pos he] at eq
    have hF := Ts.mk.md _ _ _ s3 hF
    have hB := Ts.mk.md _ _ _ s3 hB
    have hy' := Ti.mono _ _ _ s3 hy'
    have lm := len_multiplied (p := p) F B
    have lm2 := len_multiplied (p := p) B B
    have cm := cn_multiplied hp.pos F B
    have cm2 := cn_multiplied hp.pos B B
    have hlb := leftBy_len u cm.rg
    have hlb2 := leftBy_len u cm2.rg
    refine q_ifAsg (P := Ts (leftBy (multiplied F B p) ys p)) rfl (et_test (ev_eq rfl (ev_I (show (0 : Int) < 2 by decide) (ev_i 1 rfl) ev_c) ev_c)) (fun _ => ev_left_by (ev_multiplied (ev_v 4 Ts.mk.md rfl hF).ti (ev_v 5 Ts.mk.md rfl hB).ti (ev_i 3 rfl) hp cF.rg (by omega) (by omega)).ti (ev_v 2 Ti.mono rfl hy') (ev_i 3 rfl) u (by omega) (by omega)) fun w H4 s4 hw => ?_
    have hB := Ts.mk.md _ _ _ s4 hB
    have hy' := Ti.mono _ _ _ s4 hy'
    refine q_set (ev_left_by (ev_multiplied (ev_v 5 Ts.mk.md rfl hB).ti (ev_v 5 Ts.mk.md rfl hB).ti (ev_i 3 rfl) hp cB.rg (by omega) (by omega)).ti (ev_v 2 Ti.mono rfl hy') (ev_i 3 rfl) u (by omega) (by omega)) fun w2 H5 s5 h5 => ?_
    refine s_augI (a := e') (b := 2) ⟨by decide, by decide⟩ rfl ev_c fun H6 s6 => ?_
    have sm' : Same H H6 := (((sm.trans s3).trans s4).trans s5).trans s6
    have fu := lrL_fuel ys p (e' / 2).toNat k (if e' % 2 = 1 then leftBy (multiplied F B p) ys p else F) (leftBy (multiplied B B p) ys p) (e' / 2) (by omega) (by omega) (by omega)
    refine ⟨(e' / 2).toNat, by omega, if e' % 2 = 1 then leftBy (multiplied F B p) ys p else F, _, _, w, w2, rfl, sm', ?_, Ts.mk.md _ _ _ s6 h5, by omega, rfl, ?_, ?_, hlb2.1, hlb2.2, fu.trans eq⟩
    · rcases hw with ⟨h1, h2⟩ | ⟨h1, h2⟩
      · rw [if_pos (by simpa using h1)]; exact Ts.mk.md _ _ _ (s5.trans s6) h2
      · rw [if_neg (by simpa using h1), h2]; exact Ts.mk.md _ _ _ ((s4.trans s5).trans s6) hF
    · split
      · exact hlb.1
      · exact cF
    · split
      · exact hlb.2
      · exact lF
  · refine s_ret (ev_v 4 Ts.mk.md rfl (Ts.mk.md _ _ _ s3 hF)) fun v H4 s4 h4 => q v H4 ((sm.trans s3).trans s4) ?_
    have he : ¬ 0 < e' := by simpa using hb
    rw [show m = 0 by omega, lrL] at eq
    rw [← eq]; exact h4
section
variable {σ : L2.St} {H : Hp} {ta tb tc td : TE} {E : XK}
theorem ev_left_raised {xs ys : List Int} {e p : Int} (ha : Ev ta σ H (Ti K xs)) (hc : Ev tc σ H (isV (.int e))) (hb : Ev tb σ H (Ti K ys)) (hd : Ev td σ H (isV (.int p))) (u : Ru p ys) (rg : Rg p xs) (e0 : 0 ≤ e) (h1 : xs.length ≤ 100) (h2 : ys.length ≤ 100) :
    Ev (tCall (p_left_raised K) [] E (tCons ta (tCons tc (tCons tb (tCons td tNil))))) σ H (Ts (leftRaised xs e ys p)) :=
  ev_call (xs, e, ys, p) (ea_cons ha (ea_cons hc (ea_cons hb (ea_cons hd ea_nil)))) ⟨u, rg, e0, h1, h2⟩ Ts.mk.md
end
abbrev s_put_through : Stmt := topS 35
abbrev N_put_through : List Str := ["one", "other", "rule", "prime", "found", "part"]
theorem sc_put_through : FnScope N_put_through ["one", "other", "rule", "prime"] (defScope s_put_through) := ⟨rfl, rfl, rfl, by decide +kernel, rfl, by decide +kernel, by decide +kernel⟩

def p_put_through (K : PySem.W.Frag) : Sp := Pf (fun a : List Int × List Int × List Int × Int => [Ti K a.1, Ti K a.2.1, Ti K a.2.2.1, isV (.int a.2.2.2)]) (fun a => Ru a.2.2.2 a.2.2.1 ∧ Rg a.2.2.2 a.1 ∧ Rg a.2.2.2 a.2.1 ∧ a.1.length ≤ 100 ∧ a.2.1.length ≤ 100 ∧ a.2.2.1.length ≤ 100) (fun a => Ts (putThrough a.1 a.2.1 a.2.2.1 a.2.2.2))
theorem len_cut1 (a : Int) : (cut [a]).length ≤ 1 := cut_len [a]
theorem ok_put_through (D : Df K mg "put_through" s_put_through ["one", "other", "rule", "prime"]) (Bt : Bts mg) (Gb : Gbs K mg) (c_cut : Cal P w K mg base 1 "cut" (p_cut K)) (c_blended : Cal P w K mg base 2 "blended" (p_blended K)) (c_multiplied : Cal P w K mg base 2 "multiplied" (p_multiplied K)) (c_left_by : Cal P w K mg base 4 "left_by" (p_left_by K)) : Cal P w K mg base 5 "put_through" (p_put_through K) := by
  refine cal_of D sc_put_through (fun vs H Q E ⟨a, _, h, _⟩ => h.len) fun f cdv A outer s H vs Q E hr ⟨⟨xs, ys, zs, p⟩, ⟨u, rg, rg2, hx1, hy1, hz1⟩, hds, q⟩ => ?_
  dsimp only at *
  obtain ⟨x1, x2, x3, x4, rfl, hx, hy, hz, rfl⟩ := all2_4 hds
  have hp := u.pr
  have bd := hp.bd
  have lz : 0 < zs.length := List.length_pos_iff.mpr u.ne
  refine ⟨_, (pss_cons (ps_set (i := 4) sc_put_through.nd rfl (by first | exact .inl rfl | exact .inr rfl) (pe_tup pa_nil))
      (pss_cons (ps_for PassesOwn.never rfl (pi_tup (pe_revTK (K := K) (pv 0))) (pg_name (i := 5) sc_put_through.nd rfl (by first | exact .inl rfl | exact .inr rfl)) (pss_one (ps_set (i := 4) sc_put_through.nd rfl (by first | exact .inl rfl | exact .inr rfl) (pe_d c_left_by hr (by decide) (by rfl) (pa_cons (pe_d c_blended hr (by decide) (by rfl) (pa_cons (pe_d c_multiplied hr (by decide) (by rfl) (pa_cons (pv 4) (pa_cons (pv 1) (pa_cons (pv 3) pa_nil)))) (pa_cons (pe_d c_cut hr (by decide) (by rfl) (pa_cons (pe_lst (pa_cons (pv 5) pa_nil)) pa_nil)) (pa_cons pe_int (pa_cons (pv 3) pa_nil))))) (pa_cons (pv 2) (pa_cons (pv 3) pa_nil)))))))
      (pss_one (ps_ret (pv 4))))), ?_⟩
  refine q_set ev_t0 fun v0 H1 s1 h1 => ?_
  have hx := Ti.mono _ _ _ s1 hx
  refine q_forM (ei_tupI (ev_revT (ev_v 0 Ti.mono rfl hx)).ti) [] (fun _ h => (by cases h)) (fun _ h => (by cases h)) (fun i σ' H' => ∃ (F : List Int) (v : V) (y : Option V), σ' = [some x1, some x2, some x3, some (.int p), some v, y] ∧ Same H H' ∧ Ts F v H' ∧ Cn p F ∧ F.length < zs.length ∧ (xs.reverse.drop i).foldl (ptStep ys zs p) F = putThrough xs ys zs p)
    (fun B e => ⟨[], v0, _, rfl, s1.trans e, Ts.mk.md _ _ _ e h1, Cn.nil, lz, rfl⟩) ?_ ?_
  · rintro T kp i σ' H' hi hT ⟨F, v, y, rfl, sm, hF, cF, lF, eq⟩ x H'' s2 hn hT2
    obtain ⟨z, h1, rfl⟩ := nth_int hn
    have hlt := (List.getElem?_eq_some_iff.mp h1).1
    rw [List.drop_eq_getElem_cons hlt, List.foldl_cons, (List.getElem?_eq_some_iff.mp h1).2] at eq
    have hF := Ts.mk.md _ _ _ s2 hF
    have hy := Ti.mono _ _ _ (sm.trans s2) hy
    have hz := Ti.mono _ _ _ (sm.trans s2) hz
    have lm := len_multiplied (p := p) F ys
    have lb := len_blended (p := p) (multiplied F ys p) (cut [z]) 1
    have lc := len_cut1 z
    have cb := cn_blended hp.pos (multiplied F ys p) (cut [z]) 1
    have hlb := leftBy_len u cb.rg
    refine s_set (ev_left_by (ev_blended (wt := 1) (ev_multiplied (ev_v 4 Ts.mk.md rfl hF).ti (ev_v 1 Ti.mono rfl hy) (ev_i 3 rfl) hp cF.rg (by omega) (by omega)).ti (ev_cut (xs := [z]) (EvL.li (el_one (ev_i 5 rfl))) (by simp)).ti ev_c (ev_i 3 rfl) (by omega) (by omega) (by omega) (by omega) (by omega)).ti (ev_v 2 Ti.mono rfl hz) (ev_i 3 rfl) u (by omega) (by omega)) fun v H3 s3 h3 => ?_
    exact ⟨kp.same _ _ s3 hT2, _, _, _, rfl, (sm.trans s2).trans s3, h3, hlb.1, hlb.2, eq⟩
  · rintro σ' H' fr ⟨F, v, y, rfl, sm, hF, cF, lF, eq⟩
    rw [List.drop_eq_nil_of_le (by simp)] at eq
    refine s_ret (ev_v 4 Ts.mk.md rfl hF) fun v H3 s3 h3 => q v H3 (sm.trans s3) ?_
    rw [← eq]; exact h3
section
variable {σ : L2.St} {H : Hp} {ta tb tc td : TE} {E : XK}
theorem ev_put_through {xs ys zs : List Int} {p : Int} (ha : Ev ta σ H (Ti K xs)) (hb : Ev tb σ H (Ti K ys)) (hc : Ev tc σ H (Ti K zs)) (hd : Ev td σ H (isV (.int p))) (u : Ru p zs) (rg : Rg p xs) (rg2 : Rg p ys) (h1 : xs.length ≤ 100) (h2 : ys.length ≤ 100) (h3 : zs.length ≤ 100) :
    Ev (tCall (p_put_through K) [] E (tCons ta (tCons tb (tCons tc (tCons td tNil))))) σ H (Ts (putThrough xs ys zs p)) :=
  ev_call (xs, ys, zs, p) (ea_cons ha (ea_cons hb (ea_cons hc (ea_cons hd ea_nil)))) ⟨u, rg, rg2, h1, h2, h3⟩ Ts.mk.md
end
end
end Rw
end
section
set_option maxRecDepth 100000
set_option maxHeartbeats 4000000
namespace Rw
open PySem PySem.Spec PyProof.Rows L2 Rf
variable {K : PySem.W.Frag}
section
variable {P : Program} {w : World} {mg : Str → Option Value} {base : Heap}
abbrev s_shared : Stmt := topS 33
abbrev N_shared : List Str := ["one", "other", "prime", "here", "there", "quotient", "rest", "ahead", "back", "k", "part"]
theorem sc_shared : FnScope N_shared ["one", "other", "prime"] (defScope s_shared) := ⟨rfl, rfl, rfl, by decide +kernel, rfl, by decide +kernel, by decide +kernel⟩

theorem two_items {L : List Addr} {d : Nat → PV} : (List.range 2).map d = [d 0, d 1] := rfl
theorem three_items {d : Nat → PV} : (List.range 3).map d = [d 0, d 1, d 2] := rfl
/-- a triple that may be weak -/
def T3w (K : PySem.W.Frag) (t : Tri) : PV := Td K [Ti K t.1, Ts t.2.1, Ts t.2.2]
theorem t3w_mk' {t : Tri} : ∀ d ∈ [Ti K t.1, Ts t.2.1, Ts t.2.2], Mk d := fun d hd => by
  rcases List.mem_cons.mp hd with e | hd
  · rw [e]; exact Ti.mk
  rcases List.mem_cons.mp hd with e | hd
  · rw [e]; exact Ts.mk
  · rw [List.mem_singleton.mp hd]; exact Ts.mk
/-- ds: the triple's first is a tuple as given, or a new one -/
def T3p (K : PySem.W.Frag) (t : Tri) : PV := Tds [Ti K t.1, Ts t.2.1, Ts t.2.2]
theorem T3p.mk {t : Tri} : Mk (T3p K t) := Tds.mk t3w_mk'
/-- a tuple, tracked unless it is empty -/
def Tq (K : PySem.W.Frag) (l : List Int) : PV := fun v H => Ti K l v H ∧ (l ≠ [] → Ts l v H)
theorem Tq.mk {l : List Int} : Mk (Tq K l) := fun v H H' e ⟨a, b⟩ => ⟨Ti.mk v H H' e a, fun n => Ts.mk v H H' e (b n)⟩
def T3f (K : PySem.W.Frag) (t : Tri) : PV := Tds [Tq K t.1, Ts t.2.1, Ts t.2.2]
theorem t3f_mk' {t : Tri} : ∀ d ∈ [Tq K t.1, Ts t.2.1, Ts t.2.2], Mk d := fun d hd => by
  rcases List.mem_cons.mp hd with e | hd
  · rw [e]; exact Tq.mk
  rcases List.mem_cons.mp hd with e | hd
  · rw [e]; exact Ts.mk
  · rw [List.mem_singleton.mp hd]; exact Ts.mk
theorem T3f.mk {t : Tri} : Mk (T3f K t) := Tds.mk t3f_mk'
section
variable {σ : L2.St} {H H' : Hp} {ta tb tc td te tl : TE}
theorem Ev.td3f {t : Tri} (h : Ev te σ H (T3f K t)) : Ev te σ H (Td K [Tq K t.1, Ts t.2.1, Ts t.2.2]) := h.tdd fun d hd => (t3f_mk' d hd).md
theorem ev_f0 {t : Tri} (h : Ev ta σ H (T3f K t)) (hb : Ev tb σ H (isV (.int 0))) : Ev (tOp (rIxT K) ta tb) σ H (Tq K t.1) := ev_ixT (n := 0) h.td3f hb rfl Tq.mk.md
theorem ev_f1 {t : Tri} (h : Ev ta σ H (T3f K t)) (hb : Ev tb σ H (isV (.int 1))) : Ev (tOp (rIxT K) ta tb) σ H (Ts t.2.1) := ev_ixT (n := 1) h.td3f hb rfl Ts.mk.md
theorem ev_f2 {t : Tri} (h : Ev ta σ H (T3f K t)) (hb : Ev tb σ H (isV (.int 2))) : Ev (tOp (rIxT K) ta tb) σ H (Ts t.2.2) := ev_ixT (n := 2) h.td3f hb rfl Ts.mk.md
theorem Ev.tq {l : List Int} (h : Ev te σ H (Tq K l)) : Ev te σ H (Ti K l) := h.to Ti.mono fun _ _ q => q.1
end
def p_shared (K : PySem.W.Frag) : Sp := Pf (fun a : List Int × List Int × Int => [Ti K a.1, Ti K a.2.1, isV (.int a.2.2)]) (fun a => PR a.2.2 ∧ Cn a.2.2 a.1 ∧ Cn a.2.2 a.2.1 ∧ a.1.length ≤ 100 ∧ a.2.1.length ≤ 100) (fun a => T3f K (shared a.1 a.2.1 a.2.2))
section
variable {σ : L2.St} {H H' : Hp} {ta tb tc td te tl : TE}
theorem Ev.td3p {t : Tri} (h : Ev te σ H (T3p K t)) : Ev te σ H (Td K [Ti K t.1, Ts t.2.1, Ts t.2.2]) := h.tdd fun d hd => (t3w_mk' d hd).md
theorem ev_p0 {t : Tri} (h : Ev ta σ H (T3p K t)) (hb : Ev tb σ H (isV (.int 0))) : Ev (tOp (rIxT K) ta tb) σ H (Ti K t.1) := ev_ixT (n := 0) h.td3p hb rfl Ti.mono
theorem ev_p1 {t : Tri} (h : Ev ta σ H (T3p K t)) (hb : Ev tb σ H (isV (.int 1))) : Ev (tOp (rIxT K) ta tb) σ H (Ts t.2.1) := ev_ixT (n := 1) h.td3p hb rfl Ts.mk.md
theorem ev_p2 {t : Tri} (h : Ev ta σ H (T3p K t)) (hb : Ev tb σ H (isV (.int 2))) : Ev (tOp (rIxT K) ta tb) σ H (Ts t.2.2) := ev_ixT (n := 2) h.td3p hb rfl Ts.mk.md
end
theorem ok_shared (D : Df K mg "shared" s_shared ["one", "other", "prime"]) (Bt : Bts mg) (Gb : Gbs K mg) (c_turned_over : Cal P w K mg base 2 "turned_over" p_turned_over) (c_less : Cal P w K mg base 3 "less" (p_less K)) (c_scaled : Cal P w K mg base 2 "scaled" (p_scaled K)) (c_multiplied : Cal P w K mg base 2 "multiplied" (p_multiplied K)) (c_divided : Cal P w K mg base 3 "divided" (p_divided K)) : Cal P w K mg base 4 "shared" (p_shared K) := by
  refine cal_of D sc_shared (fun vs H Q E ⟨a, _, h, _⟩ => h.len) fun f cdv A outer s H vs Q E hr ⟨⟨xs, ys, p⟩, ⟨hp, cx, cy, hx1, hy1⟩, hds, q⟩ => ?_
  dsimp only at *
  obtain ⟨x1, x2, x3, rfl, hx, hy, rfl⟩ := all2_3 hds
  have bd := hp.bd
  refine ⟨_, (pss_cons (ps_asg (pe_tup (pa_cons (pe_tup (pa_cons (pv 0) (pa_cons (pe_tup (pa_cons pe_int pa_nil)) (pa_cons (pe_tup pa_nil) pa_nil)))) (pa_cons (pe_tup (pa_cons (pv 1) (pa_cons (pe_tup pa_nil) (pa_cons (pe_tup (pa_cons pe_int pa_nil)) pa_nil)))) pa_nil))) (pg_tupK (K := K) (n := 2) rfl (pgs_cons (pg_name (i := 3) sc_shared.nd rfl (by first | exact .inl rfl | exact .inr rfl)) (pgs_cons (pg_name (i := 4) sc_shared.nd rfl (by first | exact .inl rfl | exact .inr rfl)) pgs_nil))))
      (pss_cons (ps_while PassesOwn.never (pt_cmpR (op_neDK (K := K) hr.units) (pe_ix (ix_tupK (K := K)) (pv 4) pe_int (fun _ _ => rfl)) (pe_tup pa_nil) (nomark _)) (pss_cons (ps_asg (pe_d c_divided hr (by decide) (by rfl) (pa_cons (pe_ix (ix_tupK (K := K)) (pv 3) pe_int (fun _ _ => rfl)) (pa_cons (pe_ix (ix_tupK (K := K)) (pv 4) pe_int (fun _ _ => rfl)) (pa_cons (pv 2) pa_nil)))) (pg_tupK (K := K) (n := 2) rfl (pgs_cons (pg_name (i := 5) sc_shared.nd rfl (by first | exact .inl rfl | exact .inr rfl)) (pgs_cons (pg_name (i := 6) sc_shared.nd rfl (by first | exact .inl rfl | exact .inr rfl)) pgs_nil))))
      (pss_cons (ps_setLc (i := 7) (own := [("k", 9)]) rfl sc_shared.nd rfl rfl (sw_true rfl rfl rfl (by decide +kernel)) (pi_tup (pe_tup (pa_cons pe_int (pa_cons pe_int pa_nil)))) (blkOk_by (N := N_shared) (sc := defScope s_shared) (by decide +kernel)) (fun _ _ _ _ _ => (pg_name (i := 9) sc_shared.nd rfl (by first | exact .inl rfl | exact .inr rfl))) (fun _ _ _ _ _ => pts_nil) (fun _ _ _ _ _ => (pe_d c_less hr (by decide) (by rfl) (pa_cons (pe_ix (ix_tupK (K := K)) (pv 3) (pv 9) (fun _ _ => rfl)) (pa_cons (pe_d c_multiplied hr (by decide) (by rfl) (pa_cons (pv 5) (pa_cons (pe_ix (ix_tupK (K := K)) (pv 4) (pv 9) (fun _ _ => rfl)) (pa_cons (pv 2) pa_nil)))) (pa_cons (pv 2) pa_nil))))))
      (pss_one (ps_asg (pe_tup (pa_cons (pv 4) (pa_cons (pe_tup (pa_cons (pv 6) (pa_cons (pe_ix (ix_listK (K := K)) (pv 7) pe_int (fun _ _ => rfl)) (pa_cons (pe_ix (ix_listK (K := K)) (pv 7) pe_int (fun _ _ => rfl)) pa_nil)))) pa_nil))) (pg_tupK (K := K) (n := 2) rfl (pgs_cons (pg_name (i := 3) sc_shared.nd rfl (by first | exact .inl rfl | exact .inr rfl)) (pgs_cons (pg_name (i := 4) sc_shared.nd rfl (by first | exact .inl rfl | exact .inr rfl)) pgs_nil))))))))
      (pss_cons (ps_if (pt_cmpR (op_eqDK (K := K) hr.units) (pe_ix (ix_tupK (K := K)) (pv 3) pe_int (fun _ _ => rfl)) (pe_tup pa_nil) (nomark _)) (pss_one (ps_ret (pv 3))) pss_nil)
      (pss_cons (ps_set (i := 8) sc_shared.nd rfl (by first | exact .inl rfl | exact .inr rfl) (pe_d c_turned_over hr (by decide) (by rfl) (pa_cons (pe_ix (ix_tupK (K := K)) (pe_ix (ix_tupK (K := K)) (pv 3) pe_int (fun _ _ => rfl)) (pe_un un_neg pe_int) (fun _ _ => rfl)) (pa_cons (pv 2) pa_nil))))
      (pss_one (ps_ret (pe_callTy (call_tupK (K := K)) (by rfl) Bt.tuple (by decide +kernel) (pa_cons (pe_lc (own := [("part", 10)]) rfl sc_shared.nd (pi_tup (pv 3)) (blkOk_by (N := N_shared) (sc := defScope s_shared) (by decide +kernel)) (fun _ _ _ _ _ => (pg_name (i := 10) sc_shared.nd rfl (by first | exact .inl rfl | exact .inr rfl))) (fun _ _ _ _ _ => pts_nil) (fun _ _ _ _ _ => (pe_d c_scaled hr (by decide) (by rfl) (pa_cons (pv 10) (pa_cons (pv 8) (pa_cons (pv 2) pa_nil)))))) pa_nil)))))))), ?_⟩
  refine q_set2 (P1 := T3p K (xs, [1], [])) (P2 := T3p K (ys, [], [1])) ((ev_tupS (ea_cons (ev_tupS (ea_cons (ev_v 0 Ti.mono rfl hx) (ea_cons (ev_t1 ev_c) (ea_cons ev_t0 ea_nil)))) (ea_cons (ev_tupS (ea_cons (ev_v 1 Ti.mono rfl hy) (ea_cons ev_t0 (ea_cons (ev_t1 ev_c) ea_nil)))) ea_nil))).tdd ?_) fun v1 v2 H1 s1 h1 h2 => ?_
  · intro d hd
    rcases List.mem_cons.mp hd with e | hd
    · rw [e]; exact (T3p.mk (t := (xs, [1], []))).md
    · rw [List.mem_singleton.mp hd]; exact (T3p.mk (t := (ys, [], [1]))).md
  have e1 : tp p [1] = 1 := by rw [tp_cons, tp_nil, Zp.mk_one, Poly.C_one]; grind
  generalize hN : max xs.length ys.length + 1 = N
  refine q_while (fun m σ H' => ∃ (here there : Tri) (v1 v2 : V) (c5 c6 c7 c8 c9 c10 : Option V), σ = [some x1, some x2, some (.int p), some v1, some v2, c5, c6, c7, c8, c9, c10] ∧ Same H H' ∧ T3p K here v1 H' ∧ T3p K there v2 H' ∧ there.1.length + 1 = m ∧ here.1.length ≤ 100 ∧ there.1.length ≤ 100 ∧
      Tr p (tp p xs) (tp p ys) N here ∧ Tr p (tp p xs) (tp p ys) N there ∧ there.2.1.length + here.1.length ≤ N ∧ there.2.2.length + here.1.length ≤ N ∧ here.2.1.length + there.1.length ≤ N ∧ here.2.2.length + there.1.length ≤ N ∧ (∃ k, there.1.length < k ∧ shL p k here there = shL p (ys.length + 1) (xs, [1], []) (ys, [], [1]))) (ys.length + 1)
    ⟨(xs, [1], []), (ys, [], [1]), v1, v2, _, _, _, _, _, _, rfl, s1, h1, h2, rfl, hx1, hy1, ?_, ?_, ?_, ?_, ?_, ?_, ⟨_, Nat.lt_succ_self _, rfl⟩⟩ ?_
  · refine ⟨?_, cx, Cn.one hp, Cn.nil, ?_, ?_⟩
    · show tp p xs = tp p [1] * tp p xs + tp p [] * tp p ys
      rw [e1, tp_nil]; grind
    · show 1 ≤ _; omega
    · exact Nat.zero_le _
  · refine ⟨?_, cy, Cn.nil, Cn.one hp, ?_, ?_⟩
    · show tp p ys = tp p [] * tp p xs + tp p [1] * tp p ys
      rw [e1, tp_nil]; grind
    · exact Nat.zero_le _
    · show 1 ≤ _; omega
  · show 0 + xs.length ≤ _; omega
  · show 1 + xs.length ≤ _; omega
  · show 1 + ys.length ≤ _; omega
  · show 0 + ys.length ≤ _; omega
  rintro m σ' H' ⟨here, there, v1, v2, c5, c6, c7, c8, c9, c10, rfl, sm, hh, ht, hm, lh, lt, th, tt, a2, a3, b2, b3, k, hk, eq⟩
  refine ⟨_, et_test (ev_neT (ev_p0 (ev_v 4 T3p.mk.md rfl ht) ev_c) ev_t0.ti), fun hb H3 s3 => ?_, fun hb H3 s3 => ?_⟩
  · have ne : there.1 ≠ [] := by simpa using hb
    have hh := T3p.mk.md _ _ _ s3 hh
    have ht := T3p.mk.md _ _ _ s3 ht
    have Dk := div_ok hp tt.c1 ne th.c1.rg
    have tn2 := tt.n2
    have tn3 := tt.n3
    have hn2 := th.n2
    have hn3 := th.n3
    have dl1 := Dk.l1
    have ltp : 0 < there.1.length := List.length_pos_iff.mpr ne
    refine q_set2 ((ev_divided (ev_p0 (ev_v 3 T3p.mk.md rfl hh) ev_c) (ev_p0 (ev_v 4 T3p.mk.md rfl ht) ev_c) (ev_i 2 rfl) hp tt.c1.rg ne (by omega) (by omega)).tdd tsts_md) fun w1 w2 H4 s4 h4 h5 => ?_
    have hh := T3p.mk.md _ _ _ s4 hh
    have ht := T3p.mk.md _ _ _ s4 ht
    have lm2 := len_multiplied (p := p) (divided here.1 there.1 p).1 there.2.1
    have lm3 := len_multiplied (p := p) (divided here.1 there.1 p).1 there.2.2
    have el := eld_lc (te := tCall (p_less K) [] E0 (tCons (tOp (rIxT K) (tVar 3) (tVar 9)) (tCons (tCall (p_multiplied K) [] E0 (tCons (tVar 5) (tCons (tOp (rIxT K) (tVar 4) (tVar 9)) (tCons (tVar 2) tNil)))) (tCons (tVar 2) tNil)))) (tt := tYes) (g := gName 9) (vs := [9]) (σ := [some x1, some x2, some (.int p), some v1, some v2, some w1, some w2, c7, c8, c9, c10]) (H := H4) (ei_tupI (K := K) (ev_t2 (z := 1) (y := 2) ev_c ev_c).ti) (by decide) (fun _ => true) (fun i => Ts (if i = 0 then less here.2.1 (multiplied (divided here.1 there.1 p).1 there.2.1 p) p else less here.2.2 (multiplied (divided here.1 there.1 p).1 there.2.2 p) p)) (fun i _ => Ts.mk) ?_
    · rw [given_all] at el
      refine q_setD el fun l us H5 n5 s5 e5 al => ?_
      have hh := T3p.mk.md _ _ _ s5 hh
      have ht := T3p.mk.md _ _ _ s5 ht
      have h5 := Ts.mk.md _ _ _ s5 h5
      have hld : Ld K [Ts (less here.2.1 (multiplied (divided here.1 there.1 p).1 there.2.1 p) p), Ts (less here.2.2 (multiplied (divided here.1 there.1 p).1 there.2.2 p) p)] (.ref l) H5 := ⟨l, us, rfl, SqL.of e5, al⟩
      have lmd := Ld.mono (K := K) (tsts_md (xs := less here.2.1 (multiplied (divided here.1 there.1 p).1 there.2.1 p) p) (ys := less here.2.2 (multiplied (divided here.1 there.1 p).1 there.2.2 p) p))
      obtain ⟨r1, r2, r3, r4, r5, r6, r7⟩ := sh_step hp th tt ne a2 a3 b2 b3
      have k1 : Ev (tTup (tCons (tVar 6) (tCons (tOp (rIxL K) (tVar 7) (tC (.int 0))) (tCons (tOp (rIxL K) (tVar 7) (tC (.int 1))) tNil)))) [some x1, some x2, some (.int p), some v1, some v2, some w1, some w2, some (.ref l), c8, c9, c10] H5 (T3p K (shStep here there p)) :=
        (ev_tupS (ea_cons (ev_v 6 Ts.mk.md rfl h5) (ea_cons (ev_ixL (n := 0) (ev_v 7 lmd rfl hld) ev_c rfl Ts.mk.md) (ea_cons (ev_ixL (n := 1) (ev_v 7 lmd rfl hld) ev_c rfl Ts.mk.md) ea_nil)))).to T3p.mk.md fun v H1 ⟨a, vs, e1, e2, e3⟩ => by
          obtain ⟨y1, y2, y3, rfl, z1, z2, z3⟩ := all2_3 e3
          exact ⟨a, _, e1, e2, z1.ti, z2, z3, trivial⟩
      refine s_set2 (P1 := T3p K there) (P2 := T3p K (shStep here there p)) ((ev_tupS (ea_cons (ev_v 4 T3p.mk.md rfl ht) (ea_cons k1 ea_nil))).tdd ?_) fun u1 u2 H6 s6 h6 h7 => ?_
      · intro d hd
        rcases List.mem_cons.mp hd with e | hd
        · rw [e]; exact T3p.mk.md
        · rw [List.mem_singleton.mp hd]; exact T3p.mk.md
      obtain ⟨k, rfl⟩ : ∃ k', k = k' + 1 := ⟨k - 1, by omega⟩
      rw [shL, if_neg ne] at eq
      exact ⟨(shStep here there p).1.length + 1, by omega, there, shStep here there p, u1, u2, _, _, _, _, _, _, rfl, (((sm.trans s3).trans s4).trans s5).trans s6, h6, h7, rfl, lt, by omega, tt, r1, r3, r4, r5, r6, k, by omega, eq⟩
    · rintro i x H5 hi s5 hn
      obtain ⟨z, hz, rfl⟩ := nth_int hn
      have hh := T3p.mk.md _ _ _ s5 hh
      have ht := T3p.mk.md _ _ _ s5 ht
      have h4 := Ts.mk.md _ _ _ s5 h4
      refine ⟨_, fun k hk => hk, rfl, et_yes, fun _ => ?_⟩
      have hi : i = 0 ∨ i = 1 := by
        have : i < 2 := hi
        omega
      rcases hi with rfl | rfl
      · obtain rfl : 1 = z := by simpa using hz
        exact ev_less (ev_p1 (ev_v 3 T3p.mk.md rfl hh) (ev_i 9 rfl)).ti (ev_multiplied (ev_v 5 Ts.mk.md rfl h4).ti (ev_p1 (ev_v 4 T3p.mk.md rfl ht) (ev_i 9 rfl)).ti (ev_i 2 rfl) hp Dk.c1.rg (by omega) (by omega)).ti (ev_i 2 rfl) hp (by omega) (by omega)
      · obtain rfl : 2 = z := by simpa using hz
        exact ev_less (ev_p2 (ev_v 3 T3p.mk.md rfl hh) (ev_i 9 rfl)).ti (ev_multiplied (ev_v 5 Ts.mk.md rfl h4).ti (ev_p2 (ev_v 4 T3p.mk.md rfl ht) (ev_i 9 rfl)).ti (ev_i 2 rfl) hp Dk.c1.rg (by omega) (by omega)).ti (ev_i 2 rfl) hp (by omega) (by omega)
  · have e0 : there.1 = [] := by simpa using hb
    have hh := T3p.mk.md _ _ _ s3 hh
    obtain ⟨k, rfl⟩ : ∃ k', k = k' + 1 := ⟨k - 1, by omega⟩
    rw [shL, if_pos e0] at eq
    have hn2 := th.n2
    have hn3 := th.n3
    refine q_when (et_test (ev_eqT (ev_p0 (ev_v 3 T3p.mk.md rfl hh) ev_c) ev_t0.ti)) (fun hb H4 s4 => ?_) (fun hb H4 s4 => ?_)
    · have e1 : here.1 = [] := by simpa using hb
      refine s_ret (ev_v 3 T3p.mk.md rfl (T3p.mk.md _ _ _ s4 hh)) fun v H5 s5 ⟨b, vs, g1, g2, g3⟩ => q v H5 (((sm.trans s3).trans s4).trans s5) ?_
      obtain ⟨y1, y2, y3, rfl, z1, z2, z3⟩ := all2_3 g3
      rw [shared, ← eq, shEnd, if_pos e1]; exact ⟨b, _, g1, g2, ⟨z1, fun n => (n e1).elim⟩, z2, z3, trivial⟩
    · have ne : here.1 ≠ [] := by simpa using hb
      have hh := T3p.mk.md _ _ _ s4 hh
      have lr := th.c1.rg _ (List.mem_of_getLast? (last_of ne))
      have tb := turned_bd (n := here.1.getLastD 0) hp
      refine q_set (ev_turned (ev_lastTI (ev_p0 (ev_v 3 T3p.mk.md rfl hh) ev_c) (ev_neg ev_c) (last_of ne)) (ev_i 2 rfl) hp lr.1 lr.2) fun v H5 s5 h5 => ?_
      obtain rfl := h5
      generalize hbk : turnedOver (here.1.getLastD 0) p = bk at tb ⊢
      have hh := T3p.mk.md _ _ _ s5 hh
      refine s_ret (P := T3f K (shEnd here p)) ((ev_tupleDS (ds := [Ts (scaled here.1 bk p), Ts (scaled here.2.1 bk p), Ts (scaled here.2.2 bk p)]) (ElD.ld ?_ ?_) ?_).to T3f.mk.md ?_) fun v H6 s6 h6 => q v H6 ((((sm.trans s3).trans s4).trans s5).trans s6) ?_
      · have z := ei_tup (K := K) (ev_v (σ := [some x1, some x2, some (.int p), some v1, some v2, c5, c6, c7, some (.int bk), c9, c10]) 3 (T3p.mk (K := K)).md rfl hh).td3p t3w_mk'
        have := eld_lc (te := tCall (p_scaled K) [] E0 (tCons (tVar 10) (tCons (tVar 8) (tCons (tVar 2) tNil)))) (tt := tYes) (g := gName 10) (vs := [10]) z (by show 3 ≤ 50000; decide) (fun _ => true) (fun i => Ts (scaled (if i = 0 then here.1 else if i = 1 then here.2.1 else here.2.2) bk p)) (fun i _ => Ts.mk) ?_
        · rw [given_all] at this
          exact this
        · rintro i x H7 hi s7 ⟨d, hd, hdx⟩
          refine ⟨_, fun k hk => hk, rfl, et_yes, fun _ => ?_⟩
          have hi : i = 0 ∨ i = 1 ∨ i = 2 := by
            have : i < 3 := hi
            omega
          rcases hi with rfl | rfl | rfl
          · obtain rfl : Ti K here.1 = d := Option.some.inj hd
            exact ev_scaled (ev_v 10 Ti.mono rfl hdx) (ev_i 8 rfl) (ev_i 2 rfl) hp (by show here.1.length ≤ 500; omega) tb.1 tb.2
          · obtain rfl : Ts here.2.1 = d := Option.some.inj hd
            exact ev_scaled (ev_v 10 Ts.mk.md rfl hdx).ti (ev_i 8 rfl) (ev_i 2 rfl) hp (by show here.2.1.length ≤ 500; omega) tb.1 tb.2
          · obtain rfl : Ts here.2.2 = d := Option.some.inj hd
            exact ev_scaled (ev_v 10 Ts.mk.md rfl hdx).ti (ev_i 8 rfl) (ev_i 2 rfl) hp (by show here.2.2.length ≤ 500; omega) tb.1 tb.2
      · exact fun d hd => (t3_mk' (t := (scaled here.1 bk p, scaled here.2.1 bk p, scaled here.2.2 bk p)) d hd).md
      · exact fun d hd => (t3_mk' (t := (scaled here.1 bk p, scaled here.2.1 bk p, scaled here.2.2 bk p)) d hd).md
      · intro v H1 ⟨a, vs, e1, e2, e3⟩
        obtain ⟨y1, y2, y3, rfl, z1, z2, z3⟩ := all2_3 e3
        rw [shEnd, if_neg ne, hbk]; exact ⟨a, _, e1, e2, ⟨z1.ti, fun _ => z1⟩, z2, z3, trivial⟩
      · rw [shared, ← eq]; exact h6
section
variable {σ : L2.St} {H : Hp} {ta tb tc td : TE} {E : XK}
theorem ev_shared {xs ys : List Int} {p : Int} (ha : Ev ta σ H (Ti K xs)) (hb : Ev tb σ H (Ti K ys)) (hd : Ev td σ H (isV (.int p))) (hp : PR p) (cx : Cn p xs) (cy : Cn p ys) (h1 : xs.length ≤ 100) (h2 : ys.length ≤ 100) :
    Ev (tCall (p_shared K) [] E (tCons ta (tCons tb (tCons td tNil)))) σ H (T3f K (shared xs ys p)) :=
  ev_call (xs, ys, p) (ea_cons ha (ea_cons hb (ea_cons hd ea_nil))) ⟨hp, cx, cy, h1, h2⟩ T3f.mk.md
end
end
end Rw
end
section
set_option maxRecDepth 100000
set_option maxHeartbeats 4000000
namespace Rw
open PySem PySem.Spec PyProof.Rows L2 Rf
variable {K : PySem.W.Frag}
/-! ### dicts of int to tuple -/
def mkK (t : Tab) (vs : List V) : List (Key × V) := List.zipWith (fun e v => ((Sum.inl (e.1 : Int) : Key), v)) t vs
def TabV (t : Tab) (kvs : List (Key × V)) (H : Hp) : Prop := ∃ vs, All2 (t.map fun e => Ts e.2) vs H ∧ kvs = mkK t vs
def Dk (t : Tab) : PV := fun v H => ∃ d kvs, v = .ref d ∧ H d = some (.dK kvs) ∧ TabV t kvs H
theorem tsl_mk {t : Tab} : ∀ d ∈ t.map (fun e => Ts e.2), Mk d := fun d hd => by
  obtain ⟨e, _, z⟩ := List.mem_map.mp hd
  rw [← z]; exact Ts.mk
theorem TabV.mk {t : Tab} {kvs : List (Key × V)} {H H' : Hp} (e : Tk H H') (h : TabV t kvs H) : TabV t kvs H' := by
  obtain ⟨vs, a, b⟩ := h
  exact ⟨vs, a.mk e tsl_mk, b⟩
theorem Dk.md {t : Tab} : Md (Dk t) := fun _ _ _ e ⟨d, kvs, a, b, c⟩ => ⟨d, kvs, a, e _ _ b, c.mk (Tk.of e)⟩
theorem TabV.len {t : Tab} {kvs : List (Key × V)} {H : Hp} (h : TabV t kvs H) : kvs.length = t.length := by
  obtain ⟨vs, a, rfl⟩ := h
  have := a.len
  rw [List.length_map] at this
  rw [mkK, List.length_zipWith, this, Nat.min_self]
theorem key_inj {a b : Nat} (h : (Sum.inl (a : Int) : Key) = Sum.inl (b : Int)) : a = b := by
  have := Sum.inl.inj h
  omega
theorem valV_mk : ∀ (t : Tab) (vs : List V), vs.length = t.length → (t.map (·.1)).Nodup → ∀ (i : Nat) (e : Nat × List Int) (v : V), t[i]? = some e → vs[i]? = some v → valV (mkK t vs) (Sum.inl (e.1 : Int)) = some v
  | [], _, _, _, i, e, v, h, _ => by simp at h
  | e0 :: t, [], hl, _, _, _, _, _, _ => by simp at hl
  | e0 :: t, v0 :: vs, hl, nd, i, e, v, h1, h2 => by
    rw [List.map_cons, List.nodup_cons] at nd
    show ((mkK (e0 :: t) (v0 :: vs)).find? _).map _ = _
    rw [show mkK (e0 :: t) (v0 :: vs) = (Sum.inl (e0.1 : Int), v0) :: mkK t vs from rfl, List.find?_cons]
    cases i with
    | zero =>
      obtain rfl : e0 = e := Option.some.inj h1
      obtain rfl : v0 = v := Option.some.inj h2
      simp
    | succ i =>
      have ne : e0.1 ≠ e.1 := fun z => nd.1 (z ▸ List.mem_map.mpr ⟨e, List.mem_of_getElem? (show t[i]? = some e from h1), rfl⟩)
      have : decide ((Sum.inl (e0.1 : Int) : Key) = Sum.inl (e.1 : Int)) = false := decide_eq_false fun z => ne (key_inj z)
      simp only [this]
      exact valV_mk t vs (by simpa using hl) nd.2 i e v h1 h2
theorem valV_no : ∀ (t : Tab) (vs : List V) (k : Nat), vs.length = t.length → (valV (mkK t vs) (Sum.inl (k : Int))).isSome = t.any fun e => e.1 == k
  | [], _, k, _ => rfl
  | e0 :: t, [], k, hl => by simp at hl
  | e0 :: t, v0 :: vs, k, hl => by
    rw [List.any_cons, ← valV_no t vs k (by simpa using hl)]
    show (((mkK (e0 :: t) (v0 :: vs)).find? _).map _).isSome = _
    rw [show mkK (e0 :: t) (v0 :: vs) = (Sum.inl (e0.1 : Int), v0) :: mkK t vs from rfl, List.find?_cons]
    by_cases h : e0.1 = k
    · subst h; simp
    · have : decide ((Sum.inl (e0.1 : Int) : Key) = Sum.inl (k : Int)) = false := decide_eq_false fun z => h (key_inj z)
      simp only [this]
      rw [show (e0.1 == k) = false from by simpa using h]
      rfl
theorem TabV.at {t : Tab} {kvs : List (Key × V)} {H : Hp} (h : TabV t kvs H) (nd : (t.map (·.1)).Nodup) {i : Nat} {k : Key} {v : V} (q : kvs[i]? = some (k, v)) : ∃ e, t[i]? = some e ∧ k = .inl (e.1 : Int) ∧ Ts e.2 v H ∧ valV kvs (.inl (e.1 : Int)) = some v := by
  obtain ⟨vs, a, rfl⟩ := h
  have hl := a.len
  rw [List.length_map] at hl
  have hi := (List.getElem?_eq_some_iff.mp q).1
  rw [mkK, List.length_zipWith] at hi
  have h1 : t[i]? = some t[i] := List.getElem?_eq_getElem (by omega)
  have h2 : vs[i]? = some vs[i] := List.getElem?_eq_getElem (by omega)
  have q2 := q
  rw [mkK, List.getElem?_zipWith, h1, h2] at q2
  have q3 := Option.some.inj q2
  obtain ⟨d, h3, h4⟩ := a.get' h2
  rw [List.getElem?_map, h1] at h3
  have h5 : Ts t[i].2 = d := Option.some.inj h3
  refine ⟨t[i], h1, (congrArg Prod.fst q3).symm, ?_, ?_⟩
  · have e9 : vs[i] = v := congrArg Prod.snd q3
    rw [← e9, h5]; exact h4
  · rw [valV_mk t vs hl nd i _ _ h1 h2]; exact congrArg some (congrArg Prod.snd q3)
theorem TabV.lookup {t : Tab} {kvs : List (Key × V)} {H : Hp} (h : TabV t kvs H) (nd : (t.map (·.1)).Nodup) {e : Nat × List Int} (he : e ∈ t) : ∃ v, Ts e.2 v H ∧ valV kvs (.inl (e.1 : Int)) = some v := by
  obtain ⟨vs, a, rfl⟩ := h
  obtain ⟨i, hi⟩ := List.getElem?_of_mem he
  obtain ⟨v, h1, h2⟩ := a.get (i := i) (d := Ts e.2) (by rw [List.getElem?_map, hi]; rfl)
  have hl := a.len
  rw [List.length_map] at hl
  exact ⟨v, h2, valV_mk t vs hl nd i e v hi h1⟩
theorem putK_new : ∀ (t : Tab) (vs : List V) (k : Nat) (v : V), vs.length = t.length → k ∉ t.map (·.1) → putK (mkK t vs) (Sum.inl (k : Int)) v = mkK t vs ++ [(Sum.inl (k : Int), v)] := fun t vs k v hl hk => by
  have : (mkK t vs).any (fun kv => decide (kv.1 = (Sum.inl (k : Int) : Key))) = false := by
    rw [List.any_eq_false]
    intro x hx
    obtain ⟨i, hi⟩ := List.getElem?_of_mem hx
    have hlt := (List.getElem?_eq_some_iff.mp hi).1
    rw [mkK, List.length_zipWith] at hlt
    rw [mkK, List.getElem?_zipWith, List.getElem?_eq_getElem (show i < t.length by omega), List.getElem?_eq_getElem (show i < vs.length by omega)] at hi
    have := Option.some.inj hi
    rw [← this]
    intro z
    have z2 := key_inj (of_decide_eq_true z)
    exact hk (List.mem_map.mpr ⟨_, List.getElem_mem (show i < t.length by omega), z2⟩)
  unfold putK
  rw [this]; rfl
theorem mkK_app (t : Tab) (vs : List V) (e : Nat × List Int) (v : V) (hl : vs.length = t.length) : mkK (t ++ [e]) (vs ++ [v]) = mkK t vs ++ [(Sum.inl (e.1 : Int), v)] := by
  rw [mkK, List.zipWith_append (by rw [hl])]; rfl
/-! ### while a dict is walked -/
theorem tk_lock {H : Hp} {d : Addr} {od : Obj} {kvs : List (Key × V)} (h : H d = some (.dK kvs)) : Tk H (upd H d (.frz od (.dK kvs))) := Tk.upd h trivial
theorem tk_unlock {H : Hp} {d : Addr} {od : Obj} {kvs : List (Key × V)} (h : H d = some (.frz od (.dK kvs))) : Tk H (upd H d (.dK kvs)) := by
  have n1 : ∀ a xs, H a = some (.tup xs) → a ≠ d := fun a xs e z => by rw [z, h] at e; cases e
  have n2 : ∀ a ob xs, H a = some (.frz ob (.tup xs)) → a ≠ d := fun a ob xs e z => by rw [z, h] at e; cases e
  refine ⟨fun a xs q => ?_, fun a xs q => by rw [upd_ne (n1 a xs q)]; exact q⟩
  rcases q with q | ⟨ob, q⟩
  · exact .inl (by rw [upd_ne (n1 a xs q)]; exact q)
  · exact .inr ⟨ob, by rw [upd_ne (n2 a ob xs q)]; exact q⟩
theorem fr_lock {M : List Addr} {H H' : Hp} {d : Addr} {o : HO} {kvs : List (Key × V)} (h : H d = some (.dK kvs)) (f : Fr M (upd H d o) H') : Fr M H (upd H' d (.dK kvs)) := fun a ob n e => by
  by_cases z : a = d
  · subst z
    rw [upd_same]; rw [h] at e; exact e
  · rw [upd_ne z]
    exact f a ob n (by rw [upd_ne z]; exact e)
section
variable {σ : L2.St} {H H' : Hp} {ta tb tc te tl td ty : TE} {t u : TT} {P P' P1 P2 P3 : PV} {r : R2}
theorem iter_k {d : Addr} {o : Obj} {kvs : List (Key × V)} : Iter (Itk d o kvs) kvs.length (fun H => H d = some (.frz o (.dK kvs))) (fun i x _ => ∃ k v, kvs[i]? = some (k, v) ∧ x = kV k) where
  go := fun i H hi h => ⟨h, hi⟩
  stop := fun H h => ⟨h, Nat.le_refl _⟩
  yld := fun i H x H' hi h ⟨e, q⟩ => by rw [e]; exact ⟨Same.refl _, q⟩
theorem src_k {d : Addr} {o : Obj} {kvs : List (Key × V)} {H : Hp} : Src H [d] (fun H => H d = some (.frz o (.dK kvs))) :=
  ⟨fun H3 H4 e h => e _ _ h, fun H3 p o o' h _ _ _ n => by rw [upd_ne (fun z => n (by rw [z]; exact List.mem_singleton.mpr rfl))]; exact h⟩
theorem ei_keys {d : Addr} {o : Obj} {kvs : List (Key × V)} (h : Ev td σ H (isV (.ref d))) (hd : H d = some (.frz o (.dK kvs))) : EvI (iKeys td) σ H kvs.length (fun i x _ => ∃ k v, kvs[i]? = some (k, v) ∧ x = kV k) [d] := fun H1 e R q =>
  h.run H1 e _ fun x H2 e2 p => ⟨d, o, p, .inl ⟨kvs, e2 _ _ (e _ _ hd), q _ _ H2 e2 (e2 _ _ (e _ _ hd)) src_k iter_k⟩⟩
theorem ev_dget {d : Addr} {kvs : List (Key × V)} {k : Int} {v : V} (h1 : Ev td σ H (isV (.ref d))) (h2 : Ev ty σ H (isV (.int k))) (hd : Rd H d (.dK kvs)) (hv : valV kvs (.inl k) = some v) (m : Md P) (p : P v H) : Ev (tDGet td ty) σ H P :=
  ⟨m, fun H1 e Q q => h1.run H1 e _ fun x H2 e2 p1 => h2.run H2 (e.trans e2) _ fun y H3 e3 p2 => by
    have e4 := (e.trans e2).trans e3
    exact ⟨d, v, p1, .inl ⟨kvs, .inl k, Same.rd e4 hd, p2, hv.symm⟩, q v H3 (e2.trans e3) (m _ _ _ e4 p)⟩⟩
/-- for k in d, a statement -/
theorem s_forKeys {n : Nat} {g : TG} {tu : L2.TS} {D : Ends} {d : Addr} {kvs : List (Key × V)} (hσ : σ[n]? = some (some (.ref d))) (hd : H d = some (.dK kvs)) (M : List Addr) (hM : Muts M H) (hdM : d ∉ M) (I : Nat → L2.St → Hp → Prop)
    (h0 : ∀ od B, Same (upd H d (.frz od (.dK kvs))) B → I 0 σ B)
    (hs : ∀ od (T : Hp → Prop), Keep M (upd H d (.frz od (.dK kvs))) T → ∀ i σ' H' k v, kvs[i]? = some (k, v) → T H' → I i σ' H' → ∀ H'', Same H' H'' → T H'' → ∀ rt bk, g (kV k) σ' H'' fun σ2 H2 => tu ⟨fun σ3 H3 => T H3 ∧ I (i + 1) σ3 H3, rt, bk, fun σ3 H3 => T H3 ∧ I (i + 1) σ3 H3⟩ σ2 H2)
    (hdone : ∀ od σ' H', Fr M (upd H d (.frz od (.dK kvs))) H' → I kvs.length σ' H' → D.nx σ' (upd H' d (.dK kvs))) : tLock (tFor (iKeys (tVar n)) g tu) D σ H := by
  refine ⟨d, .dK kvs, hd, trivial, fun od => ?_⟩
  have hf : (upd H d (.frz od (.dK kvs))) d = some (.frz od (.dK kvs)) := upd_same
  refine s_forM (ei_keys (ev_i n hσ) hf) M (fun p hp => ?_) (fun p hp z => hdM ((List.mem_singleton.mp z) ▸ hp)) I (h0 od) ?_ ?_
  · obtain ⟨o, h1, h2⟩ := hM p hp
    exact ⟨o, by rw [upd_ne (fun z => hdM (by rw [← z]; exact hp))]; exact h1, h2⟩
  · rintro T kp i σ' H' hi hT hI x H'' s2 ⟨k, v, h1, rfl⟩ hT2
    exact hs od T kp i σ' H' k v h1 hT hI H'' s2 hT2 _ _
  · intro σ' H' fr hI
    exact ⟨fr d _ hdM hf, hdone od σ' H' fr hI⟩
theorem q_forKeys {n : Nat} {g : TG} {tu tz : L2.TS} {D : Ends} {d : Addr} {kvs : List (Key × V)} (hσ : σ[n]? = some (some (.ref d))) (hd : H d = some (.dK kvs)) (M : List Addr) (hM : Muts M H) (hdM : d ∉ M) (I : Nat → L2.St → Hp → Prop)
    (h0 : ∀ od B, Same (upd H d (.frz od (.dK kvs))) B → I 0 σ B)
    (hs : ∀ od (T : Hp → Prop), Keep M (upd H d (.frz od (.dK kvs))) T → ∀ i σ' H' k v, kvs[i]? = some (k, v) → T H' → I i σ' H' → ∀ H'', Same H' H'' → T H'' → ∀ rt bk, g (kV k) σ' H'' fun σ2 H2 => tu ⟨fun σ3 H3 => T H3 ∧ I (i + 1) σ3 H3, rt, bk, fun σ3 H3 => T H3 ∧ I (i + 1) σ3 H3⟩ σ2 H2)
    (hdone : ∀ od σ' H', Fr M (upd H d (.frz od (.dK kvs))) H' → I kvs.length σ' H' → tz D σ' (upd H' d (.dK kvs))) : tSeq (tLock (tFor (iKeys (tVar n)) g tu)) tz D σ H :=
  s_forKeys (D := { D with nx := tz D }) hσ hd M hM hdM I h0 hs hdone
/-- {k: e for k in d} -/
theorem ed_dc {n m : Nat} {d : Addr} {t t' : Tab} {kvs : List (Key × V)} (hσ : σ[n]? = some (some (.ref d))) (hd : H d = some (.dK kvs)) (ht : TabV t kvs H) (nd : (t.map (·.1)).Nodup) (hl : t.length ≤ 50000) (hk : t'.map (·.1) = t.map (·.1))
    (hs : ∀ od (i : Nat) k v (e e' : Nat × List Int) H', kvs[i]? = some (k, v) → t[i]? = some e → t'[i]? = some e' → k = .inl (e.1 : Int) → Same (upd H d (.frz od (.dK kvs))) H' → Ts e.2 v H' → Rd H' d (.dK kvs) → valV kvs (.inl (e.1 : Int)) = some v → Ev te ((wipe σ [m]).set m (some (kV k))) H' (Ts e'.2))
    (hw : ∀ v, wipe ((wipe σ [m]).set m (some v)) [m] = wipe σ [m]) (hv : ∀ v, ((wipe σ [m]).set m (some v))[m]? = some (some v)) (Q : VK)
    (q : ∀ D kvs' H', H D = none → Same H H' → H' D = some (.dK kvs') → TabV t' kvs' H' → Q (.ref D) H') : tLockE (tDc (iKeys (tVar n)) (gName m) tYes (tVar m) te [m]) σ H Q := by
  refine ⟨d, .dK kvs, hd, trivial, fun od => ?_⟩
  have hf : (upd H d (.frz od (.dK kvs))) d = some (.frz od (.dK kvs)) := upd_same
  have tl := tk_lock (od := od) hd
  have hlen := ht.len
  have hlen' : t'.length = t.length := by have := congrArg List.length hk; simpa using this
  refine ei_keys (ev_i n hσ) hf _ (Same.refl _) _ fun J S H2 e2 s2 src it D hD => ?_
  have hDd : D ≠ d := fun z => by
    have := e2 _ _ hf
    rw [← z, hD] at this; cases this
  refine ⟨fun i mm H' => mm = kvs.length - i ∧ i ≤ kvs.length ∧ Same H2 H' ∧ ∃ kk, H' D = some (.dK kk) ∧ TabV (t'.take i) kk H', ⟨kvs.length, by simp, Nat.zero_le _, Same.new hD, [], upd_same, [], trivial, rfl⟩, ?_⟩
  rintro i mm H' ⟨rfl, hi, e3, kk, hkk, ha⟩
  have q' := src.same H2 H' e3 s2
  by_cases hlt : i < kvs.length
  · refine .inr ⟨it.go i H' hlt q', fun H3 => Same H2 H3 ∧ ∃ kk, H3 D = some (.dK kk) ∧ TabV (t'.take (i + 1)) kk H3, fun H3 p' => ⟨kvs.length - (i + 1), by omega, rfl, hlt, p'⟩, fun x H'' y => ?_⟩
    obtain ⟨a, k, v, h1, rfl⟩ := it.yld i H' x H'' hlt q' y
    obtain ⟨e, h2, h3, h4, h5⟩ := ht.at nd h1
    have h6 : t'[i]? = some t'[i] := List.getElem?_eq_getElem (by omega)
    have s3 : Same (upd H d (.frz od (.dK kvs))) H'' := (e2.trans e3).trans a
    have rd : Rd H'' d (.dK kvs) := .inr ⟨od, s3 _ _ hf⟩
    have ek : t'[i].1 = e.1 := by
      have := congrArg (fun l : List Nat => l[i]?) hk
      simp only [List.getElem?_map, h2, h6] at this
      exact Option.some.inj this
    refine ⟨hw _, ?_⟩
    refine ⟨_, hv _, ?_⟩
    refine (hs od i k v e t'[i] H'' h1 h2 h6 h3 s3 (Ts.mk _ _ _ (tl.trans (Tk.of s3)) h4) rd h5).run H'' (Same.refl _) _ fun z H5 e5 p => ⟨kk, k, rfl, e5 _ _ (a _ _ hkk), sz_lt (by have := ha.len; rw [List.length_take] at this; omega), Same.mut ((e3.trans a).trans e5) hD, _, upd_same, ?_⟩
    obtain ⟨vs, av, rfl⟩ := ha
    have hlv := av.len
    rw [List.length_map] at hlv
    have nk : e.1 ∉ (t'.take i).map (·.1) := fun z => by
      rw [List.map_take, hk] at z
      obtain ⟨j, hj⟩ := List.getElem?_of_mem z
      have hji := (List.getElem?_eq_some_iff.mp hj).1
      rw [List.length_take] at hji
      rw [List.getElem?_take_of_lt (by omega)] at hj
      have h7 : (t.map (·.1))[i]? = some e.1 := by rw [List.getElem?_map, h2]; rfl
      have hji2 : j < (t.map (·.1)).length := by omega
      have hiL : i < (t.map (·.1)).length := (List.getElem?_eq_some_iff.mp h7).1
      have := List.pairwise_iff_getElem.mp nd j i hji2 hiL (by omega)
      exact this (by rw [(List.getElem?_eq_some_iff.mp hj).2, (List.getElem?_eq_some_iff.mp h7).2])
    rw [h3, putK_new _ _ _ _ hlv nk]
    have tk : Tk H5 (upd H5 D (.dK (mkK (t'.take i) vs ++ [(Sum.inl (e.1 : Int), z)]))) := Tk.upd (e5 _ _ (a _ _ hkk)) trivial
    refine ⟨vs ++ [z], ?_, ?_⟩
    · rw [List.take_add_one, h6, List.map_append]
      exact All2.app (av.mk (((Tk.of a).trans (Tk.of e5)).trans tk) tsl_mk) ⟨Ts.mk _ _ _ tk p, trivial⟩
    · rw [List.take_add_one, h6]
      show _ = mkK (t'.take i ++ [t'[i]]) (vs ++ [z])
      rw [mkK_app _ _ _ _ hlv, ek]
  · have e4 : i = kvs.length := by omega
    subst e4
    refine .inl ⟨it.stop H' q', ?_⟩
    have hf' := e3 _ _ (e2 _ _ hf)
    refine ⟨hf', q D kk _ ?_ ?_ ?_ ?_⟩
    · have := e2.free hD
      rw [upd_ne hDd] at this; exact this
    · intro a ob h
      by_cases z : a = d
      · subst z
        rw [upd_same]; rw [hd] at h; exact h
      · rw [upd_ne z]
        exact e3 _ _ (e2 _ _ (by rw [upd_ne z]; exact h))
    · rw [upd_ne hDd]; exact hkk
    · rw [show t'.take kvs.length = t' from List.take_of_length_le (by omega)] at ha
      exact ha.mk (tk_unlock hf')
end
end Rw
end
section
set_option maxRecDepth 100000
set_option maxHeartbeats 4000000
namespace Rw
open PySem PySem.Spec PyProof.Rows L2 Rf
variable {K : PySem.W.Frag}
section
variable {σ : L2.St} {H H' : Hp} {ta tb tc te tl : TE} {t u : TT} {P P' P1 P2 P3 : PV} {tt : TT}
/-- a comprehension that gives the described things, one for each -/
theorem eld_lcD {wi : L2.TI} {g : TG} {vs : List Nat} {n : Nat} {P : Nat → PV} {L : List Addr} (ds : List PV) (he : EvI wi σ H n P L) (hn : n ≤ 50000) (hl : ds.length = n) (mk : ∀ d ∈ ds, Mk d)
    (hs : ∀ (i : Nat) x H1 d, ds[i]? = some d → Same H H1 → P i x H1 → ∃ τ : L2.St, (∀ k : L2.St → Hp → Prop, k τ H1 → g x (wipe σ vs) H1 k) ∧ wipe τ vs = wipe σ vs ∧ EvT tt τ H1 true ∧ Ev te τ H1 d) :
    ElD (tLc wi g tt te vs) σ H ds := by
  have gd : ∀ i d, ds[i]? = some d → ds.getD i (fun _ _ => True) = d := fun i d h => by rw [List.getD_eq_getElem?_getD, h]; rfl
  have := eld_lc he hn (fun _ => true) (fun i => ds.getD i (fun _ _ => True)) (fun i hi => by
    have h : ds[i]? = some ds[i] := List.getElem?_eq_getElem (by omega)
    rw [gd _ _ h]; exact mk _ (List.getElem_mem _)) fun i x H1 hi a b => by
    have h : ds[i]? = some ds[i] := List.getElem?_eq_getElem (by omega)
    obtain ⟨τ, h1, h2, h3, h4⟩ := hs i x H1 _ h a b
    exact ⟨τ, h1, h2, h3, fun _ => by rw [gd _ _ h]; exact h4⟩
  rw [given_all, show (List.range n).map (fun i => ds.getD i (fun _ _ => True)) = ds by
    apply List.ext_getElem
    · rw [List.length_map, List.length_range, hl]
    · intro i h1 h2
      rw [List.getElem_map, List.getElem_range]
      exact gd _ _ (List.getElem?_eq_getElem h2)] at this
  exact this
theorem all2_bls {H : Hp} : ∀ {bs : List Bool} {vs : List V}, All2 (bs.map fun b => isV (.bl b)) vs H → vs = bs.map V.bl
  | [], [], _ => rfl
  | b :: bs, v :: vs, h => by rw [List.map_cons, show v = _ from h.1, all2_bls h.2]
  | [], _ :: _, h => h.elim
  | _ :: _, [], h => h.elim
theorem bls_mk {bs : List Bool} : ∀ d ∈ bs.map (fun b => isV (.bl b)), Mk d := fun d hd => by
  obtain ⟨x, _, e⟩ := List.mem_map.mp hd
  rw [← e]; exact mk_isV
theorem ev_all {bs : List Bool} (h : ElD te σ H (bs.map fun b => isV (.bl b))) : Ev (tCB (rAll K) (tCons te tNil)) σ H (isV (.bl (bs.all id))) :=
  ⟨md_isV, fun H1 e Q q => h H1 e _ fun p vs H2 hp e2 h2 a => ⟨p, bs, rfl, by rw [← all2_bls a]; exact SqL.of h2, q _ _ e2 rfl⟩⟩
theorem ev_any {bs : List Bool} (h : ElD te σ H (bs.map fun b => isV (.bl b))) : Ev (tCB (rAny K) (tCons te tNil)) σ H (isV (.bl (bs.any id))) :=
  ⟨md_isV, fun H1 e Q q => h H1 e _ fun p vs H2 hp e2 h2 a => ⟨p, bs, rfl, by rw [← all2_bls a]; exact SqL.of h2, q _ _ e2 rfl⟩⟩
end
/-- bools of a tuple of ints -/
theorem el_lcTB {σ : L2.St} {H : Hp} {te tl : TE} {tt : TT} {n : Nat} {xs : List Int} (f : Int → Bool) (h : Ev tl σ H (Ti K xs)) (hl : xs.length ≤ 50000) (hs : ∀ (i : Nat) (x : Int) H1, xs[i]? = some x → Same H H1 → EvT tt ((wipe σ [n]).set n (some (.int x))) H1 true ∧ Ev te ((wipe σ [n]).set n (some (.int x))) H1 (isV (.bl (f x))))
    (hw : ∀ v, wipe ((wipe σ [n]).set n (some v)) [n] = wipe σ [n] := by intro _; rfl) : ElD (tLc (iTup K tl) (gName n) tt te [n]) σ H ((xs.map f).map fun b => isV (.bl b)) := by
  refine eld_lcD _ (ei_tupI h) hl (by rw [List.length_map, List.length_map]) bls_mk ?_
  intro i x H1 d hd e hx
  obtain ⟨z, h1, rfl⟩ := nth_int hx
  obtain ⟨a, b⟩ := hs i z H1 h1 e
  rw [List.map_map, List.getElem?_map, h1] at hd
  obtain rfl : isV (.bl (f z)) = d := Option.some.inj hd
  exact ⟨_, fun k hk => hk, hw _, a, b⟩
/-! sorted keys -/
theorem insN_pw (a : Nat × List Int) : ∀ {t : Tab}, t.Pairwise (fun x y => x.1 ≤ y.1) → (insN a t).Pairwise (fun x y => x.1 ≤ y.1)
  | [], _ => by rw [insN]; exact List.pairwise_singleton _ _
  | b :: t, h => by
    rw [insN]
    rw [List.pairwise_cons] at h
    split
    · rename_i q
      refine List.pairwise_cons.mpr ⟨fun x hx => ?_, List.pairwise_cons.mpr h⟩
      rcases List.mem_cons.mp hx with e | e
      · rw [e]; exact q
      · exact Nat.le_trans q (h.1 x e)
    · rename_i q
      refine List.pairwise_cons.mpr ⟨fun x hx => ?_, insN_pw a h.2⟩
      rcases List.mem_cons.mp ((insN_perm a t).mem_iff.mp hx) with e | e
      · rw [e]; omega
      · exact h.1 x e
theorem sortN_pw : ∀ t : Tab, (sortN t).Pairwise (fun x y => x.1 ≤ y.1)
  | [] => List.Pairwise.nil
  | a :: t => insN_pw a (sortN_pw t)
def rSortDI : List V → Hp → VK → Prop := fun xs H Q => ∃ (a : Addr) (kvs : List (Key × V)) (ks : List Int), xs = [.ref a] ∧ Rd H a (.dK kvs) ∧ kvs.map (·.1) = ks.map Sum.inl ∧ ks.length < 64 ∧
    ∀ (ys : List Int) (p : Addr), ys.Perm ks → ys.Pairwise (· ≤ ·) → H p = none → Q (.ref p) (upd H p (.lst (ys.map V.int)))
theorem call_sortDI {X : Cx} (h : X.calm = true) : CallR X (.builtin "sorted") rSortDI := call_sortedDI h
theorem mkK_keys : ∀ (t : Tab) (vs : List V), vs.length = t.length → (mkK t vs).map (·.1) = (t.map fun e => (e.1 : Int)).map Sum.inl
  | [], _, _ => rfl
  | e :: t, [], h => by simp at h
  | e :: t, v :: vs, h => by
    show (Sum.inl (e.1 : Int) : Key) :: (mkK t vs).map (·.1) = _
    rw [mkK_keys t vs (by simpa using h)]; rfl
theorem el_sortD {σ : L2.St} {H : Hp} {ta : TE} {t : Tab} {d : Addr} {kvs : List (Key × V)} (ha : Ev ta σ H (isV (.ref d))) (hd : H d = some (.dK kvs)) (ht : TabV t kvs H) (h64 : t.length < 64) : EvL (tCB rSortDI (tCons ta tNil)) σ H (((sortN t).map fun e => (e.1 : Int)).map V.int) := fun H1 e Q q =>
  ha.run H1 e _ fun v H2 e2 p => ⟨d, kvs, t.map fun e => (e.1 : Int), by rw [show v = _ from p], .inl (e2 _ _ (e _ _ hd)), by
    obtain ⟨vs, a, rfl⟩ := ht
    have := a.len
    rw [List.length_map] at this
    exact mkK_keys t vs this, by rw [List.length_map]; exact h64, fun ys l h1 h2 h3 => by
    have : ys = (sortN t).map fun e => (e.1 : Int) := List.Perm.eq_of_pairwise (le := (· ≤ ·)) (fun a b _ _ x y => Int.le_antisymm x y) h2 (List.pairwise_map.mpr ((sortN_pw t).imp fun h => by omega)) (h1.trans ((sortN_perm t).map _).symm)
    rw [this]
    exact q l _ (e2.free h3) (e2.trans (Same.new h3)) upd_same⟩
section
variable {P : Program} {w : World} {mg : Str → Option Value} {base : Heap}
abbrev s_is_poly : Stmt := topS 22
abbrev N_is_poly : List Str := ["thing", "prime", "part"]
theorem sc_is_poly : FnScope N_is_poly ["thing", "prime"] (defScope s_is_poly) := ⟨rfl, rfl, rfl, by decide +kernel, rfl, by decide +kernel, by decide +kernel⟩

def p_is_poly (K : PySem.W.Frag) : Sp := Pf (fun a : List Int × Int => [Ti K a.1, isV (.int a.2)]) (fun a => a.1.length ≤ 5000) (fun a => isV (.bl (isPoly a.1 a.2)))
theorem ok_is_poly (D : Df K mg "is_poly" s_is_poly ["thing", "prime"]) (Bt : Bts mg) (Gb : Gbs K mg) (c_is_rest : Cal P w K mg base 1 "is_rest" p_is_rest) : Cal P w K mg base 2 "is_poly" (p_is_poly K) := by
  refine cal_of D sc_is_poly (fun vs H Q E ⟨a, _, h, _⟩ => h.len) fun f cdv A outer s H vs Q E hr ⟨⟨xs, p⟩, hl, hds, q⟩ => ?_
  dsimp only at *
  obtain ⟨x1, x2, rfl, hx, rfl⟩ := all2_2 hds
  refine ⟨_, (pss_cons (ps_if ((pw_or (pt_cmpR op_gt (pe_callB (call_lenK (K := K)) (by rfl) Bt.len PySem.boot_len (pa_cons (pv 0) pa_nil)) (pe_glob (v := .int 25) (by rfl) Gb.MOST_PLACES ⟨_, rfl⟩) (nomark _)) (pw_or1 (pt_not (pt_val (pe_callB (cr_allK (K := K) rfl) (by rfl) Bt.all (by decide +kernel) (pa_cons (pe_lc (own := [("part", 2)]) rfl sc_is_poly.nd (pi_tup (pv 0)) (blkOk_by (N := N_is_poly) (sc := defScope s_is_poly) (by decide +kernel)) (fun _ _ _ _ _ => (pg_name (i := 2) sc_is_poly.nd rfl (by first | exact .inl rfl | exact .inr rfl))) (fun _ _ _ _ _ => pts_nil) (fun _ _ _ _ _ => (pe_d c_is_rest hr (by decide) (by rfl) (pa_cons (pv 2) (pa_cons (pv 1) pa_nil))))) pa_nil))))))).pt (pss_one (ps_ret pe_bl)) pss_nil)
      (pss_one (ps_ret (pe_or (pe_cmpR (op_eqDK (K := K) hr.units) (pv 0) (pe_tup pa_nil) (nomark _)) (pe_one (pe_cmpR op_ne (pe_ix (ix_tupK (K := K)) (pv 0) (pe_un un_neg pe_int) (fun _ _ => rfl)) pe_int (nomark _))))))), ?_⟩
  refine q_when (b := decide (25 < (xs.length : Int)) || !((xs.map fun a => decide (0 ≤ a) && decide (a < p)).all id)) (et_or (et_test (Ev.is (ev_I0 (ev_lenT (ev_v 0 Ti.mono rfl hx)) ev_c) rfl)) fun _ => et_not (et_test (ev_all (el_lcTB (fun a => decide (0 ≤ a) && decide (a < p)) (ev_v 0 Ti.mono rfl hx) (by omega) fun i x H1 hi s1 => ⟨et_yes, ev_isrest (ev_i 2 rfl) (ev_i 1 rfl)⟩)))) (fun hb H1 s1 => ?_) (fun hb H1 s1 => ?_)
  · refine s_ret ev_c fun v H2 s2 h2 => q v H2 (s1.trans s2) ?_
    rw [isPoly, if_pos]
    · exact h2
    · simp at hb
      rcases hb with hb | ⟨a, h1, h2⟩
      · exact .inl (by omega)
      · refine .inr fun z => ?_
        have := of_decide_eq_true (List.all_eq_true.mp z a h1)
        exact absurd (h2 this.1) (by omega)
  · have hx := Ti.mono _ _ _ s1 hx
    refine s_ret (P := isV (.bl (decide (xs = []) || !decide (V.int (xs.getLastD 0) = V.int 0)))) (ev_orV (ev_eqT (ev_v 0 Ti.mono rfl hx) ev_t0.ti) fun hne => ev_ne rfl (ev_lastTI (ev_v 0 Ti.mono rfl hx) (ev_neg ev_c) (last_of (by simpa using hne))) ev_c) fun v H2 s2 h2 => q v H2 (s1.trans s2) ?_
    rw [isPoly, if_neg]
    · have : (decide (xs = []) || !decide (V.int (xs.getLastD 0) = V.int 0)) = (decide (xs = []) || decide (xs.getLastD 0 ≠ 0)) := by
        congr 1
        by_cases h : xs.getLastD 0 = 0
        · rw [h]; simp
        · simp [h]
      rw [← this]; exact h2
    · simp at hb
      rintro (h | h)
      · omega
      · apply h
        rw [List.all_eq_true]
        intro a ha
        exact decide_eq_true (hb.2 a ha)
abbrev s_need_polys : Stmt := topS 23
abbrev N_need_polys : List Str := ["some", "prime", "one"]
theorem sc_need_polys : FnScope N_need_polys ["some", "prime"] (defScope s_need_polys) := ⟨rfl, rfl, rfl, by decide +kernel, rfl, by decide +kernel, by decide +kernel⟩

def p_need_polys (K : PySem.W.Frag) : Sp := Pf (fun a : List Int × Int => [Td K [Ti K a.1], isV (.int a.2)]) (fun a => PR a.2 ∧ a.1.length ≤ 5000 ∧ isPoly a.1 a.2 = true) (fun a => isV .non)
theorem ti1_mk {l : List Int} : ∀ d ∈ [Ti K l], Mk d := fun d hd => by rw [List.mem_singleton.mp hd]; exact Ti.mk
section
variable {σ : L2.St} {H : Hp} {ta tb tc td : TE} {E : XK}
theorem ev_is_poly {xs : List Int} {p : Int} (ha : Ev ta σ H (Ti K xs)) (hb : Ev tb σ H (isV (.int p))) (hl : xs.length ≤ 5000) : Ev (tCall (p_is_poly K) [] E (tCons ta (tCons tb tNil))) σ H (isV (.bl (isPoly xs p))) :=
  ev_call (xs, p) (ea_cons ha (ea_cons hb ea_nil)) hl md_isV
end
theorem ok_need_polys (D : Df K mg "need_polys" s_need_polys ["some", "prime"]) (Bt : Bts mg) (Gb : Gbs K mg) (c_need_prime : Cal P w K mg base 2 "need_prime" p_need_prime) (c_is_poly : Cal P w K mg base 2 "is_poly" (p_is_poly K)) : Cal P w K mg base 3 "need_polys" (p_need_polys K) := by
  refine cal_of D sc_need_polys (fun vs H Q E ⟨a, _, h, _⟩ => h.len) fun f cdv A outer s H vs Q E hr ⟨⟨xs, p⟩, ⟨hp, hl, ho⟩, hds, q⟩ => ?_
  dsimp only at *
  obtain ⟨x1, x2, rfl, hx, rfl⟩ := all2_2 hds
  refine ⟨_, (pss_cons (ps_expr (pe_d c_need_prime hr (by decide) (by rfl) (pa_cons (pv 1) pa_nil)))
      (pss_one (ps_if (pt_not (pt_val (pe_callB (cr_allK (K := K) rfl) (by rfl) Bt.all (by decide +kernel) (pa_cons (pe_lc (own := [("one", 2)]) rfl sc_need_polys.nd (pi_tup (pv 0)) (blkOk_by (N := N_need_polys) (sc := defScope s_need_polys) (by decide +kernel)) (fun _ _ _ _ _ => (pg_name (i := 2) sc_need_polys.nd rfl (by first | exact .inl rfl | exact .inr rfl))) (fun _ _ _ _ _ => pts_nil) (fun _ _ _ _ _ => (pe_d c_is_poly hr (by decide) (by rfl) (pa_cons (pv 2) (pa_cons (pv 1) pa_nil))))) pa_nil)))) (pss_one ps_never) pss_nil))), ?_⟩
  have tm := Td.mono (K := K) (fun d hd => (ti1_mk (K := K) (l := xs) d hd).md)
  refine q_drop (ev_needp (ev_i 1 rfl) hp) fun H1 s1 => ?_
  have hx := tm _ _ _ s1 hx
  refine s_when (b := !([isPoly xs p].all id)) (et_not (et_test (ev_all (bs := [isPoly xs p]) ?_))) (fun hb => ?_) fun hb H2 s2 => q _ H2 (s1.trans s2) rfl
  · refine eld_lcD _ (ei_tup (ev_v 0 tm rfl hx) ti1_mk) (by show 1 ≤ 50000; decide) rfl bls_mk ?_
    rintro i x H2 d hd s2 ⟨d2, h2, h3⟩
    cases i with
    | zero =>
      obtain rfl : isV (.bl (isPoly xs p)) = d := Option.some.inj hd
      obtain rfl : Ti K xs = d2 := Option.some.inj h2
      exact ⟨_, fun k hk => hk, rfl, et_yes, ev_is_poly (ev_v 2 Ti.mono rfl h3) (ev_i 1 rfl) hl⟩
    | succ i => simp at hd
  · rw [ho] at hb; cases hb
section
variable {σ : L2.St} {H : Hp} {ta tb tc td : TE} {E : XK}
theorem ev_need_polys {xs : List Int} {p : Int} (ha : Ev ta σ H (Ti K xs)) (hb : Ev tb σ H (isV (.int p))) (hp : PR p) (hl : xs.length ≤ 5000) (ho : isPoly xs p = true) : Ev (tCall (p_need_polys K) [] E (tCons (tTup (tCons ta tNil)) (tCons tb tNil))) σ H (isV .non) :=
  ev_call (xs, p) (ea_cons (ev_tup (ea_cons ha ea_nil)) (ea_cons hb ea_nil)) ⟨hp, hl, ho⟩ md_isV
end
abbrev s_lessened : Stmt := topS 14
abbrev N_lessened : List Str := ["row", "other", "weight", "prime", "a", "b"]
theorem sc_lessened : FnScope N_lessened ["row", "other", "weight", "prime"] (defScope s_lessened) := ⟨rfl, rfl, rfl, by decide +kernel, rfl, by decide +kernel, by decide +kernel⟩

def p_lessened (K : PySem.W.Frag) : Sp := Pf (fun a : List Int × List Int × Int × Int => [Ts a.1, Ts a.2.1, isV (.int a.2.2.1), isV (.int a.2.2.2)]) (fun a => PR a.2.2.2 ∧ 0 ≤ a.2.2.1 ∧ a.2.2.1 < a.2.2.2 ∧ a.1.length = a.2.1.length ∧ a.1.length ≤ 1000) (fun a => Ts (lessened a.1 a.2.1 a.2.2.1 a.2.2.2))
theorem ok_lessened (D : Df K mg "lessened" s_lessened ["row", "other", "weight", "prime"]) (Bt : Bts mg) (Gb : Gbs K mg)  : Cal P w K mg base 1 "lessened" (p_lessened K) := by
  refine cal_of D sc_lessened (fun vs H Q E ⟨a, _, h, _⟩ => h.len) fun f cdv A outer s H vs Q E hr ⟨⟨xs, ys, wt, p⟩, ⟨hp, w0, w1, hl, hl2⟩, hds, q⟩ => ?_
  dsimp only at *
  obtain ⟨x1, x2, x3, x4, rfl, hx, hy, rfl, rfl⟩ := all2_4 hds
  have bd := hp.bd
  refine ⟨_, (pss_cons (ps_if (pt_cmpR op_eq (pv 2) pe_int (nomark _)) (pss_one (ps_ret (pv 0))) pss_nil)
      (pss_one (ps_ret (pe_callTy (call_tupK (K := K)) (by rfl) Bt.tuple (by decide +kernel) (pa_cons (pe_lc (own := [("a", 4), ("b", 5)]) rfl sc_lessened.nd (RZ.pi_zipA (by rfl) Bt.zip (pa_cons (pv 0) (pa_cons (pv 1) pa_nil))) (blkOk_by (N := N_lessened) (sc := defScope s_lessened) (by decide +kernel)) (fun _ _ _ _ _ => (pg_tupK (K := K) (n := 2) rfl (pgs_cons (pg_name (i := 4) sc_lessened.nd rfl (by first | exact .inl rfl | exact .inr rfl)) (pgs_cons (pg_name (i := 5) sc_lessened.nd rfl (by first | exact .inl rfl | exact .inr rfl)) pgs_nil)))) (fun _ _ _ _ _ => pts_nil) (fun _ _ _ _ _ => (pe_op op_mod (pe_op op_sub (pv 4) (pe_op op_mul (pv 2) (pv 5))) (pv 3)))) pa_nil))))), ?_⟩
  refine q_when (et_test (ev_eq rfl (ev_i 2 rfl) ev_c)) (fun hb H1 s1 => ?_) (fun hb H1 s1 => ?_)
  · have : wt = 0 := by simpa using hb
    refine s_ret (ev_v 0 Ts.mk.md rfl (Ts.mk.md _ _ _ s1 hx)) fun v H2 s2 h2 => q v H2 (s1.trans s2) ?_
    rw [Rf.lessened, if_pos this]; exact h2
  · have : wt ≠ 0 := by simpa using hb
    have hx := Ts.mk.md _ _ _ s1 hx
    have hy := Ts.mk.md _ _ _ s1 hy
    refine s_ret (ev_tupleS (xs := List.zipWith (fun a b => (a - wt * b) % p) xs ys) (EvL.li ?_)) fun v H2 s2 h2 => q v H2 (s1.trans s2) (by rw [Rf.lessened, if_neg this]; exact h2)
    refine el_lcI _ (ei_zipTI (ev_v 0 Ts.mk.md rfl hx).ti (ev_v 1 Ts.mk.md rfl hy).ti hl) (by omega) (by rw [List.length_zipWith]; omega) ?_
    rintro i x H2 hi s2 ⟨T, y1, y2, ex, hT, h3, h4⟩
    obtain ⟨a, ea, rfl⟩ := nth_int h3
    obtain ⟨b, eb, rfl⟩ := nth_int h4
    subst ex
    refine ⟨_, fun k hk => g_pair hT hk, rfl, et_yes, ?_⟩
    rw [getD_zip ea eb]
    exact ev_I (show 0 < p by omega) (ev_I0 (ev_i 4 rfl) (ev_I (.inl ⟨by omega, by omega⟩) (ev_i 2 rfl) (ev_i 5 rfl))) (ev_i 3 rfl)
section
variable {σ : L2.St} {H : Hp} {ta tb tc td : TE} {E : XK}
theorem ev_lessened {n : Nat} {xs ys : List Int} {wt p : Int} (ha : Ev ta σ H (Ts xs)) (hb : Ev tb σ H (Ts ys)) (hc : Ev tc σ H (isV (.int wt))) (hd : Ev td σ H (isV (.int p))) (hp : PR p) (w0 : 0 ≤ wt) (w1 : wt < p) (r1 : Row p n xs) (r2 : Row p n ys) (hn : n ≤ 1000) :
    Ev (tCall (p_lessened K) [] E (tCons ta (tCons tb (tCons tc (tCons td tNil))))) σ H (Ts (lessened xs ys wt p)) :=
  ev_call (xs, ys, wt, p) (ea_cons ha (ea_cons hb (ea_cons hc (ea_cons hd ea_nil)))) ⟨hp, w0, w1, r1.len.trans r2.len.symm, by rw [r1.len]; exact hn⟩ Ts.mk.md
end
abbrev s_lowered : Stmt := topS 15
abbrev N_lowered : List Str := ["row", "found", "prime", "at"]
theorem sc_lowered : FnScope N_lowered ["row", "found", "prime"] (defScope s_lowered) := ⟨rfl, rfl, rfl, by decide +kernel, rfl, by decide +kernel, by decide +kernel⟩

def p_lowered (K : PySem.W.Frag) : Sp := Pf (fun a : List Int × Tab × Int × Nat => [Ts a.1, Dk a.2.1, isV (.int a.2.2.1)]) (fun a => PR a.2.2.1 ∧ Ech a.2.2.1 a.2.2.2 a.2.1 ∧ Row a.2.2.1 a.2.2.2 a.1 ∧ a.2.2.2 ≤ 1000) (fun a => Ts (lowered a.1 a.2.1 a.2.2.1))
theorem ok_lowered (D : Df K mg "lowered" s_lowered ["row", "found", "prime"]) (Bt : Bts mg) (Gb : Gbs K mg) (c_lessened : Cal P w K mg base 1 "lessened" (p_lessened K)) : Cal P w K mg base 2 "lowered" (p_lowered K) := by
  refine cal_of D sc_lowered (fun vs H Q E ⟨a, _, h, _⟩ => h.len) fun f cdv A outer s H vs Q E hr ⟨⟨xs, t, p, n⟩, ⟨hp, ec, rw0, hn⟩, hds, q⟩ => ?_
  dsimp only at *
  obtain ⟨x1, x2, x3, rfl, hx, ⟨d, kvs, rfl, hd, ht⟩, rfl⟩ := all2_3 hds
  have bd := hp.bd
  refine ⟨_, (pss_cons (ps_lock (ps_for PassesOwn.never rfl (pi_keys (pv 1)) (pg_name (i := 3) sc_lowered.nd rfl (by first | exact .inl rfl | exact .inr rfl)) (pss_one (ps_set (i := 0) sc_lowered.nd rfl (by first | exact .inl rfl | exact .inr rfl) (pe_d c_lessened hr (by decide) (by rfl) (pa_cons (pv 0) (pa_cons (pe_dget (hu_of hr) (pv 1) (pv 3) (fun _ _ => rfl)) (pa_cons (pe_ix (ix_tupK (K := K)) (pv 0) (pv 3) (fun _ _ => rfl)) (pa_cons (pv 2) pa_nil)))))))))
      (pss_one (ps_ret (pv 0)))), ?_⟩
  refine q_forKeys (n := 1) rfl hd [] (fun _ h => (by cases h)) (by simp) (fun i σ' H' => ∃ (r : List Int) (v : V) (y : Option V), σ' = [some v, some (.ref d), some (.int p), y] ∧ Ts r v H' ∧ Row p n r ∧ lowered r (t.drop i) p = lowered xs t p)
    (fun od B e => ⟨xs, x1, _, rfl, Ts.mk _ _ _ ((tk_lock hd).trans (Tk.of e)) hx, rw0, rfl⟩) ?_ ?_
  · rintro od T kp i σ' H' k v hk hT ⟨r, v2, y, rfl, hr', rr, eq⟩ H'' s2 hT2 rt bk
    obtain ⟨e, h2, rfl, h4, h5⟩ := ht.at ec.nd hk
    have fr := kp.fr _ hT2
    have hf : H'' d = some (.frz od (.dK kvs)) := fr d _ (by simp) upd_same
    have sm : Same (upd H d (.frz od (.dK kvs))) H'' := fun a o h => fr a o (by simp) h
    have h4' := Ts.mk _ _ _ ((tk_lock (od := od) hd).trans (Tk.of sm)) h4
    have hr'' := Ts.mk.md _ _ _ s2 hr'
    have he := List.mem_of_getElem? h2
    have hlt := (List.getElem?_eq_some_iff.mp h2).1
    have wv := rr.at hp.pos e.1
    have lt := ec.lt e he
    rw [List.drop_eq_getElem_cons hlt, (List.getElem?_eq_some_iff.mp h2).2] at eq
    refine s_set (ev_lessened (n := n) (wt := r.getD e.1 0) (ev_v 0 Ts.mk.md rfl hr'') (ev_dget (ev_i 1 rfl) (ev_i 3 rfl) (.inr ⟨od, hf⟩) h5 Ts.mk.md h4') (ev_ixTI (n := e.1) (ev_v 0 Ts.mk.md rfl hr'').ti (ev_i 3 rfl) (get_of (by rw [rr.len]; exact lt))) (ev_i 2 rfl) hp wv.1 wv.2 rr (ec.row e he) hn) fun v3 H3 s3 h3 => ?_
    exact ⟨kp.same _ _ s3 hT2, _, _, _, rfl, h3, row_less hp.pos rr (ec.row e he) _, eq⟩
  · rintro od σ' H' fr ⟨r, v, y, rfl, hr', rr, eq⟩
    rw [ht.len, List.drop_eq_nil_of_le (Nat.le_refl _)] at eq
    have hf : H' d = some (.frz od (.dK kvs)) := fr d _ (by simp) upd_same
    have sm : Same H (upd H' d (.dK kvs)) := fun a o h => fr_lock hd fr a o (by simp) h
    refine s_ret (ev_v 0 Ts.mk.md rfl (Ts.mk _ _ _ (tk_unlock hf) hr')) fun v H3 s3 h3 => q v H3 (sm.trans s3) ?_
    rw [← eq]; exact h3
section
variable {σ : L2.St} {H : Hp} {ta tb tc td : TE} {E : XK}
theorem ev_lowered {n : Nat} {xs : List Int} {t : Tab} {p : Int} (ha : Ev ta σ H (Ts xs)) (hb : Ev tb σ H (Dk t)) (hd : Ev td σ H (isV (.int p))) (hp : PR p) (ec : Ech p n t) (r1 : Row p n xs) (hn : n ≤ 1000) :
    Ev (tCall (p_lowered K) [] E (tCons ta (tCons tb (tCons td tNil)))) σ H (Ts (lowered xs t p)) :=
  ev_call (xs, t, p, n) (ea_cons ha (ea_cons hb (ea_cons hd ea_nil))) ⟨hp, ec, r1, hn⟩ Ts.mk.md
end
abbrev s_in_order : Stmt := topS 17
abbrev N_in_order : List Str := ["found", "at"]
theorem sc_in_order : FnScope N_in_order ["found"] (defScope s_in_order) := ⟨rfl, rfl, rfl, by decide +kernel, rfl, by decide +kernel, by decide +kernel⟩

def p_in_order (K : PySem.W.Frag) : Sp := PfL (fun a : Tab => [Dk a]) (fun a => (a.map (·.1)).Nodup ∧ a.length < 64) (fun a => (inOrder a).map Ts)
theorem ok_in_order (D : Df K mg "in_order" s_in_order ["found"]) (Bt : Bts mg) (Gb : Gbs K mg)  : Cal P w K mg base 1 "in_order" (p_in_order K) := by
  refine cal_of D sc_in_order (fun vs H Q E ⟨a, _, h, _⟩ => h.len) fun f cdv A outer s H vs Q E hr ⟨t, ⟨nd, h64⟩, hds, q⟩ => ?_
  dsimp only at *
  obtain ⟨x1, rfl, ⟨d, kvs, rfl, hd, ht⟩⟩ := all2_1 hds
  refine ⟨_, (pss_one (ps_ret (pe_lc (own := [("at", 1)]) rfl sc_in_order.nd (pi_list (pe_callB (call_sortDI rfl) (by rfl) Bt.sorted (by decide +kernel) (pa_cons (pv 0) pa_nil))) (blkOk_by (N := N_in_order) (sc := defScope s_in_order) (by decide +kernel)) (fun _ _ _ _ _ => (pg_name (i := 1) sc_in_order.nd rfl (by first | exact .inl rfl | exact .inr rfl))) (fun _ _ _ _ _ => pts_nil) (fun _ _ _ _ _ => (pe_dget (hu_of hr) (pv 0) (pv 1) (fun _ _ => rfl)))))), ?_⟩
  have sl := (sortN_perm t).length_eq
  refine s_retD (ds := (inOrder t).map Ts) (eld_lcD _ (ei_new (el_sortD (ev_i 0 rfl) hd ht h64).eld ints_mk) ?_ ?_ ?_ ?_) fun p vs H1 h1 s1 h2 h3 => q p vs H1 h1 s1 h2 h3
  · rw [List.length_map, List.length_map, sl]; omega
  · rw [List.length_map, List.length_map, List.length_map, inOrder, List.length_map]
  · intro x hx
    obtain ⟨l, _, e⟩ := List.mem_map.mp hx
    rw [← e]; exact Ts.mk
  · rintro i x H1 dd h1 s1 hx
    obtain ⟨z, hz, rfl⟩ := nth_int hx
    rw [List.getElem?_map] at hz
    cases he : (sortN t)[i]? with
    | none => rw [he] at hz; cases hz
    | some e =>
      rw [he] at hz
      obtain rfl : (e.1 : Int) = z := Option.some.inj hz
      rw [List.getElem?_map, inOrder, List.getElem?_map, he] at h1
      obtain rfl : Ts e.2 = dd := Option.some.inj h1
      have hm : e ∈ t := (sortN_perm t).mem_iff.mp (List.mem_of_getElem? he)
      obtain ⟨v, h4, h5⟩ := ht.lookup nd hm
      exact ⟨_, fun k hk => hk, rfl, et_yes, ev_dget (ev_i 0 rfl) (ev_i 1 rfl) (.inl (s1 _ _ hd)) h5 Ts.mk.md (Ts.mk.md _ _ _ s1 h4)⟩
section
variable {σ : L2.St} {H : Hp} {ta tb tc td : TE} {E : XK}
theorem el_in_order {t : Tab} (hb : Ev tb σ H (Dk t)) (nd : (t.map (·.1)).Nodup) (h64 : t.length < 64) :
    ElD (tCall (p_in_order K) [] E (tCons tb tNil)) σ H ((inOrder t).map Ts) := ev_callL t (ea_cons hb ea_nil) ⟨nd, h64⟩
end
end
end Rw
end
section
set_option maxRecDepth 100000
set_option maxHeartbeats 4000000
namespace Rw
open PySem PySem.Spec PyProof.Rows L2 Rf
variable {K : PySem.W.Frag}
theorem shaped_list (xs : List Int) : SeqAt.shaped (.list (xs.map PyData.int)) = true := by
  unfold SeqAt.shaped
  rw [PyData.canLay0, lay_ints, PyData.depth, depth_ints]; rfl
theorem dp_li {xs : List Int} {v : V} {H : Hp} (h : Li K xs v H) : Dp K H v (.list (xs.map PyData.int)) := by
  obtain ⟨a, e, q⟩ := h
  rw [e]; exact .lst q dp_ints
section
variable {σ : L2.St} {H H' : Hp} {ta tb tc td ty tv te tl : TE} {t u : TT} {P P' P1 P2 P3 : PV} {D : Ends} {tz : L2.TS}
theorem ev_neL {xs ys : List Int} (ha : Ev ta σ H (Li K xs)) (hb : Ev tb σ H (Li K ys)) : Ev (tOp (rNeD K) ta tb) σ H (isV (.bl (!decide (xs = ys)))) :=
  ev_op md_isV ha hb fun x y H1 _ p1 p2 Q q => ⟨_, _, dp_li p1, dp_li p2, shaped_list xs, shaped_list ys, q _ H1 (Same.refl _) (by rw [PyData.eqv, eqvAll_ints]; rfl)⟩
theorem q_dnew {n : Nat} (k : ∀ p H1, H p = none → Same H H1 → H1 p = some (.dK []) → tz D (σ.set n (some (.ref p))) H1) : tSeq (tAsg tDNewK (gName n)) tz D σ H := fun p hp => k p _ hp (Same.new hp) upd_same
theorem q_dnewT {n : Nat} (k : ∀ p H1, H p = none → Same H H1 → H1 p = some (.dT []) → tz D (σ.set n (some (.ref p))) H1) : tSeq (tAsg tDNewT (gName n)) tz D σ H := fun p hp => k p _ hp (Same.new hp) upd_same
theorem q_setE {n : Nat} {t' : Tab} (h : ∀ Q : VK, (∀ Dd kvs' H', H Dd = none → Same H H' → H' Dd = some (.dK kvs') → TabV t' kvs' H' → Q (.ref Dd) H') → te σ H Q)
    (k : ∀ Dd kvs' H', H Dd = none → Same H H' → H' Dd = some (.dK kvs') → TabV t' kvs' H' → tz D (σ.set n (some (.ref Dd))) H') : tSeq (tAsg te (gName n)) tz D σ H := h _ k
theorem s_dput {d : Addr} {kvs : List (Key × V)} {k : Int} (hd : H d = some (.dK kvs)) (hv : Ev tv σ H P) (ho : Ev td σ H (isV (.ref d))) (hi : Ev ty σ H (isV (.int k))) (hz : kvs.length < 100000)
    (q : ∀ v H1, Same H H1 → P v H1 → D.nx σ (upd H1 d (.dK (putK kvs (.inl k) v)))) : sDPut td ty tv D σ H :=
  hv.run H (Same.refl _) _ fun v H1 e1 p => ho.run H1 e1 _ fun x H2 e2 p2 => hi.run H2 (e1.trans e2) _ fun y H3 e3 p3 => ⟨d, _, p2, .inl ⟨kvs, .inl k, e3 _ _ (e2 _ _ (e1 _ _ hd)), p3, sz_lt hz, rfl⟩, q v H3 ((e1.trans e2).trans e3) (hv.md v _ _ (e2.trans e3) p)⟩
end
theorem given_spots (L : List Int) : given L.length (fun i => decide (L.getD i 0 ≠ 0)) (fun i => isV (.int (i : Int))) = ((spots L).map fun k : Nat => (k : Int)).map fun x => isV (.int x) := by
  have h : L.zipIdx = (List.range L.length).map fun i => (L.getD i 0, i) := by
    apply List.ext_getElem
    · rw [List.length_zipIdx, List.length_map, List.length_range]
    · intro i h1 h2
      rw [List.getElem_zipIdx, List.getElem_map, List.getElem_range]
      rw [List.length_zipIdx] at h1
      rw [List.getD_eq_getElem?_getD, List.getElem?_eq_getElem h1]; simp
  rw [given, spots, h, List.filter_map, List.map_map, List.map_map, List.map_map]
  rfl
theorem stStep_len (p : Int) (t : Tab) (row : List Int) : (stStep p t row).length ≤ t.length + 1 := by
  have tp_len : ∀ (t : Tab) (k : Nat) (v : List Int), (tput t k v).length ≤ t.length + 1 := by
    intro t k v
    induction t with
    | nil => exact Nat.le_refl _
    | cons e t ih => rw [tput]; split <;> simp <;> omega
  rw [stStep]
  simp only []
  split
  · omega
  · refine Nat.le_trans (tp_len _ _ _) ?_
    rw [List.length_map]; exact Nat.le_refl _
theorem stSteps_len (p : Int) : ∀ (rows : List (List Int)) (t : Tab), (rows.foldl (stStep p) t).length ≤ t.length + rows.length
  | [], t => Nat.le_refl _
  | r :: rows, t => by
    rw [List.foldl_cons, List.length_cons]
    have h1 := stSteps_len p rows (stStep p t r)
    have h2 := stStep_len p t r
    omega
theorem ts_md {rows : List (List Int)} : ∀ d ∈ rows.map Ts, Mk d := fun d hd => by
  obtain ⟨l, _, e⟩ := List.mem_map.mp hd
  rw [← e]; exact Ts.mk
section
variable {P : Program} {w : World} {mg : Str → Option Value} {base : Heap}
abbrev s_steps_of : Stmt := topS 16
abbrev N_steps_of : List Str := ["rows", "prime", "found", "row", "left", "spots", "step", "back", "at", "one"]
theorem sc_steps_of : FnScope N_steps_of ["rows", "prime"] (defScope s_steps_of) := ⟨rfl, rfl, rfl, by decide +kernel, rfl, by decide +kernel, by decide +kernel⟩

def p_steps_of (K : PySem.W.Frag) : Sp := Pf (fun a : List (List Int) × Int × Nat => [Ld K (a.1.map Ts), isV (.int a.2.1)]) (fun a => PR a.2.1 ∧ (∀ r ∈ a.1, Row a.2.1 a.2.2 r) ∧ a.1.length ≤ 60 ∧ a.2.2 ≤ 1000) (fun a => Dk (stepsOf a.1 a.2.1))
theorem ok_steps_of (D : Df K mg "steps_of" s_steps_of ["rows", "prime"]) (Bt : Bts mg) (Gb : Gbs K mg) (c_turned_over : Cal P w K mg base 2 "turned_over" p_turned_over) (c_lessened : Cal P w K mg base 1 "lessened" (p_lessened K)) (c_lowered : Cal P w K mg base 2 "lowered" (p_lowered K)) : Cal P w K mg base 3 "steps_of" (p_steps_of K) := by
  refine cal_of D sc_steps_of (fun vs H Q E ⟨a, _, h, _⟩ => h.len) fun f cdv A outer s H vs Q E hr ⟨⟨rows, p, n⟩, ⟨hp, hr0, hl, hn⟩, hds, q⟩ => ?_
  dsimp only at *
  obtain ⟨x1, x2, rfl, ⟨a, us, rfl, ha, hus⟩, rfl⟩ := all2_2 hds
  have bd := hp.bd
  refine ⟨_, (pss_cons (ps_set (i := 2) sc_steps_of.nd rfl (by first | exact .inl rfl | exact .inr rfl) pe_dnewK)
      (pss_cons (ps_for PassesOwn.never rfl (pi_list (pv 0)) (pg_name (i := 3) sc_steps_of.nd rfl (by first | exact .inl rfl | exact .inr rfl)) (pss_cons (ps_set (i := 4) sc_steps_of.nd rfl (by first | exact .inl rfl | exact .inr rfl) (pe_d c_lowered hr (by decide) (by rfl) (pa_cons (pv 3) (pa_cons (pv 2) (pa_cons (pv 1) pa_nil)))))
      (pss_cons (ps_setLc (i := 5) (own := [("at", 8), ("one", 9)]) rfl sc_steps_of.nd rfl rfl (sw_true rfl rfl rfl (by decide +kernel)) (pi_enumT (by rfl) Bt.enumerate (pa_cons (pv 4) pa_nil)) (blkOk_by (N := N_steps_of) (sc := defScope s_steps_of) (by decide +kernel)) (fun _ _ _ _ _ => (pg_tupK (K := K) (n := 2) rfl (pgs_cons (pg_name (i := 8) sc_steps_of.nd rfl (by first | exact .inl rfl | exact .inr rfl)) (pgs_cons (pg_name (i := 9) sc_steps_of.nd rfl (by first | exact .inl rfl | exact .inr rfl)) pgs_nil)))) (fun _ _ _ _ _ => (pts_one (pt_cmpR op_ne (pv 9) pe_int (nomark _)))) (fun _ _ _ _ _ => (pv 8)))
      (pss_one (ps_if (pt_cmpR (op_neDK (K := K) hr.units) (pv 5) (pe_lst pa_nil) (nomark _)) (pss_cons (ps_set (i := 6) sc_steps_of.nd rfl (by first | exact .inl rfl | exact .inr rfl) (pe_ix (ix_listK (K := K)) (pv 5) pe_int (fun _ _ => rfl)))
      (pss_cons (ps_set (i := 7) sc_steps_of.nd rfl (by first | exact .inl rfl | exact .inr rfl) (pe_d c_turned_over hr (by decide) (by rfl) (pa_cons (pe_ix (ix_tupK (K := K)) (pv 4) (pv 6) (fun _ _ => rfl)) (pa_cons (pv 1) pa_nil))))
      (pss_cons (ps_set (i := 4) sc_steps_of.nd rfl (by first | exact .inl rfl | exact .inr rfl) (pe_callTy (call_tupK (K := K)) (by rfl) Bt.tuple (by decide +kernel) (pa_cons (pe_lc (own := [("one", 9)]) rfl sc_steps_of.nd (pi_tup (pv 4)) (blkOk_by (N := N_steps_of) (sc := defScope s_steps_of) (by decide +kernel)) (fun _ _ _ _ _ => (pg_name (i := 9) sc_steps_of.nd rfl (by first | exact .inl rfl | exact .inr rfl))) (fun _ _ _ _ _ => pts_nil) (fun _ _ _ _ _ => (pe_op op_mod (pe_op op_mul (pv 9) (pv 7)) (pv 1)))) pa_nil)))
      (pss_cons (ps_set (i := 2) sc_steps_of.nd rfl (by first | exact .inl rfl | exact .inr rfl) (pe_lock (pe_dc (own := [("at", 8)]) rfl sc_steps_of.nd (pi_keys (pv 2)) (blkOk_by (N := N_steps_of) (sc := defScope s_steps_of) (by decide +kernel)) (fun _ _ _ _ _ => (pg_name (i := 8) sc_steps_of.nd rfl (by first | exact .inl rfl | exact .inr rfl))) (fun _ _ _ _ _ => pts_nil) (fun _ _ _ _ _ => (pv 8)) (fun _ _ _ _ _ => (pe_d c_lessened hr (by decide) (by rfl) (pa_cons (pe_dget (hu_of hr) (pv 2) (pv 8) (fun _ _ => rfl)) (pa_cons (pv 4) (pa_cons (pe_ix (ix_tupK (K := K)) (pe_dget (hu_of hr) (pv 2) (pv 8) (fun _ _ => rfl)) (pv 6) (fun _ _ => rfl)) (pa_cons (pv 1) pa_nil)))))))))
      (pss_one (ps_dput (hu_of hr) (pv 2) (pv 6) (pv 4) rfl)))))) pss_nil)))))
      (pss_one (ps_ret (pv 2))))), ?_⟩
  refine q_dnew fun d0 H1 hd0 s1 e1 => ?_
  have hus1 := hus.mono s1 fun d hd => (ts_md d hd).md
  refine q_forM (ei_lst (ev_i 0 rfl) (s1.seq ha) hus1 ts_md) [] (fun _ h => (by cases h)) (fun _ h => (by cases h)) (fun i σ' H' => ∃ (t : Tab) (d : Addr) (kvs : List (Key × V)) (c3 c4 c5 c6 c7 c8 c9 : Option V), σ' = [some (.ref a), some (.int p), some (.ref d), c3, c4, c5, c6, c7, c8, c9] ∧ Same H H' ∧ H' d = some (.dK kvs) ∧ TabV t kvs H' ∧ Ech p n t ∧ t.length ≤ i ∧ (rows.drop i).foldl (stStep p) t = stepsOf rows p)
    (fun B e => ⟨[], d0, [], _, _, _, _, _, _, _, rfl, s1.trans e, e _ _ e1, ⟨[], trivial, rfl⟩, ech_nil, Nat.le_refl _, rfl⟩) ?_ ?_
  · rintro T kp i σ' H' hi hT ⟨t, d, kvs, c3, c4, c5, c6, c7, c8, c9, rfl, sm, hd, ht, ec, tl, eq⟩ x H'' s2 hx hT2
    rw [List.length_map] at hi
    obtain ⟨row, hrow, hxt⟩ := nth_map hx
    have hm := List.mem_of_getElem? hrow
    have rr := hr0 row hm
    rw [List.drop_eq_getElem_cons hi, (List.getElem?_eq_some_iff.mp hrow).2, List.foldl_cons] at eq
    obtain ⟨ec2, _⟩ := step_ok hp ec rr
    obtain ⟨rl, -, hz⟩ := low_ok hp ec (S := fun _ => True) ⟨trivial, fun _ _ _ _ => trivial, fun _ _ _ => trivial⟩ (fun _ _ => trivial) t row (fun e he => he) ec.nd rr
    have sl := stStep_len p t row
    have hd2 := s2 _ _ hd
    have ht2 := ht.mk (Tk.of s2)
    refine q_set (ev_lowered (n := n) (ev_v 3 Ts.mk.md rfl hxt) (ev_v 2 Dk.md rfl ⟨d, kvs, rfl, hd2, ht2⟩) (ev_i 1 rfl) hp ec rr hn) fun v4 H3 s3 h4 => ?_
    have key := ec2
    have hz' : ∀ e ∈ t, (lowered row t p).getD e.1 0 = 0 := fun e he => (hz e he).1 (List.mem_map.mpr ⟨e, he, rfl⟩)
    have eqS : stStep p t row = match spots (lowered row t p) with
      | [] => t
      | step :: _ => tput (t.map fun e => (e.1, lessened e.2 ((lowered row t p).map fun x => x * turnedOver ((lowered row t p).getD step 0) p % p) (e.2.getD step 0) p)) step ((lowered row t p).map fun x => x * turnedOver ((lowered row t p).getD step 0) p % p) := rfl
    generalize hL : lowered row t p = L at *
    have sp : ElD (tLc (iEnumT K (tCons (tVar 4) tNil)) (gTup K 2 (gCons (gName 8) (gCons (gName 9) gNil))) (tTest (tOp rNe (tVar 9) (tC (.int 0)))) (tVar 8) [8, 9]) [some (.ref a), some (.int p), some (.ref d), some x, some v4, c5, c6, c7, c8, c9] H3 (((spots L).map fun k : Nat => (k : Int)).map fun x => isV (.int x)) := by
      rw [← given_spots]
      refine eld_lc (ei_enumTI (ev_v 4 Ts.mk.md rfl h4).ti) (by rw [rl.len]; omega) _ _ (fun _ _ => mk_isV) ?_
      rintro i x H2 hi s2 ⟨T, y1, y2, ex, hT, h3, h4⟩
      obtain ⟨b, eb, rfl⟩ := nth_int h4
      obtain rfl := h3
      subst ex
      rw [getD_of eb]
      exact ⟨_, fun k hk => g_pair hT hk, rfl, (et_test (ev_ne rfl (ev_i 9 rfl) ev_c)).is (by simp), fun _ => ev_i 8 rfl⟩
    refine q_setL sp.ints fun l5 H4 n5 s4 e5 => ?_
    have li5 : Li K ((spots L).map fun k : Nat => (k : Int)) (.ref l5) H4 := ⟨l5, rfl, SqL.of e5⟩
    refine s_when (et_test (ev_neL (ev_v 5 Li.mono rfl li5) (EvL.li (xs := []) el_nil))) (fun hb H5 s5 => ?_) (fun hb H5 s5 => ?_)
    · cases hS : spots L with
      | nil => rw [hS] at hb; simp at hb
      | cons s ss =>
        rw [hS] at eqS li5
        simp only [] at eqS
        obtain ⟨hs1, hs0⟩ := spots_cons hS
        have as := rl.at hp.pos s
        have li5 := Li.mono _ _ _ s5 li5
        have h4 := Ts.mk.md _ _ _ (s4.trans s5) h4
        refine q_set (ev_ixLI (n := 0) (z := (s : Int)) (ev_v 5 Li.mono rfl li5) ev_c rfl) fun v6 H6 s6 h6 => ?_
        obtain rfl := h6
        have h4 := Ts.mk.md _ _ _ s6 h4
        refine q_set (ev_turned (ev_ixTI (n := s) (ev_v 4 Ts.mk.md rfl h4).ti (ev_i 6 rfl) (get_of hs1)) (ev_i 1 rfl) hp as.1 as.2) fun v7 H7 s7 h7 => ?_
        obtain rfl := h7
        have tb := turned_bd (n := L.getD s 0) hp
        generalize hbk : turnedOver (L.getD s 0) p = bk at *
        have h4 := Ts.mk.md _ _ _ s7 h4
        refine q_set (ev_tupleS (xs := L.map fun x => x * bk % p) (EvL.li (el_lcTI (fun x => x * bk % p) (ev_v 4 Ts.mk.md rfl h4).ti (by rw [rl.len]; omega) fun i x H8 hi s8 => ⟨et_yes, ev_I (show 0 < p by omega) (ev_I (.inr ⟨by omega, by omega⟩) (ev_i 9 rfl) (ev_i 7 rfl)) (ev_i 1 rfl)⟩))) fun w4 H8 s8 g4 => ?_
        have m1 := (map_at hp.pos rl bk).1
        generalize hL2 : (L.map fun x => x * bk % p) = L2 at *
        have s38 : Same H3 H8 := (((s4.trans s5).trans s6).trans s7).trans s8
        have hd8 := s38 _ _ (s3 _ _ hd2)
        have ht8 := ht2.mk (Tk.of (s3.trans s38))
        refine q_setE (ed_dc (n := 2) (m := 8) (t' := t.map fun e => (e.1, lessened e.2 L2 (e.2.getD s 0) p)) rfl hd8 ht8 ec.nd (by omega) (by rw [List.map_map]; rfl) ?_ (fun _ => rfl) (fun _ => rfl)) fun Dd kvs' H9 hD s9 e9 t9 => ?_
        · intro od j k v e e' H9 h1 h2 h3 hk s9 hv rd hvv
          subst hk
          have he := List.mem_of_getElem? h2
          rw [List.getElem?_map, h2] at h3
          obtain rfl : (e.1, lessened e.2 L2 (e.2.getD s 0) p) = e' := Option.some.inj h3
          have re := ec.row e he
          have we := re.at hp.pos s
          have g4' := Ts.mk _ _ _ ((tk_lock (od := od) hd8).trans (Tk.of s9)) g4
          exact ev_lessened (n := n) (ev_dget (ev_i 2 rfl) (ev_i 8 rfl) rd hvv Ts.mk.md hv) (ev_v 4 Ts.mk.md rfl g4') (ev_ixTI (n := s) (ev_dget (ev_i 2 rfl) (ev_i 8 rfl) rd hvv Ts.mk.md hv).ti (ev_i 6 rfl) (get_of (by rw [re.len]; have := rl.len; omega))) (ev_i 1 rfl) hp we.1 we.2 re m1 hn
        · have sn : s ∉ (t.map fun e => (e.1, lessened e.2 L2 (e.2.getD s 0) p)).map (·.1) := fun q => by
            rw [List.map_map] at q
            obtain ⟨e, he, ee⟩ := List.mem_map.mp q
            have ee : e.1 = s := ee
            have := hz' e he
            rw [ee] at this; exact hs0 this
          refine s_dput e9 (ev_v 4 Ts.mk.md rfl (Ts.mk.md _ _ _ s9 g4)) (ev_i 2 rfl) (ev_i 6 rfl) (by rw [t9.len, List.length_map]; omega) fun v H10 s10 h10 => ?_
          have sF : Same H8 (upd H10 Dd (.dK (putK kvs' (.inl (s : Int)) v))) := Same.mut (s9.trans s10) hD
          have sA : Same H'' (upd H10 Dd (.dK (putK kvs' (.inl (s : Int)) v))) := (s3.trans s38).trans sF
          obtain ⟨vs9, a9, rfl⟩ := t9
          have l9 := a9.len
          rw [List.length_map, List.length_map] at l9
          have tkk : Tk H10 (upd H10 Dd (.dK (putK (mkK (t.map fun e => (e.1, lessened e.2 L2 (e.2.getD s 0) p)) vs9) (.inl (s : Int)) v))) := Tk.upd (s10 _ _ e9) trivial
          refine ⟨kp.same _ _ sA hT2, stStep p t row, Dd, _, _, _, _, _, _, _, _, rfl, (sm.trans s2).trans sA, upd_same, ?_, ec2, by omega, eq⟩
          rw [eqS, tput_new _ _ _ sn]
          refine ⟨vs9 ++ [v], ?_, ?_⟩
          · rw [List.map_append]
            exact All2.app (a9.mk ((Tk.of s10).trans tkk) tsl_mk) ⟨Ts.mk _ _ _ tkk h10, trivial⟩
          · rw [mkK_app _ _ _ _ (by rw [List.length_map]; exact l9), putK_new _ _ _ _ (by rw [List.length_map]; exact l9) sn]
    · have hS : spots L = [] := by simpa using hb
      rw [hS] at eqS
      simp only [] at eqS
      have sA : Same H'' H5 := (s3.trans s4).trans s5
      refine ⟨kp.same _ _ sA hT2, t, d, kvs, _, _, _, _, _, _, _, rfl, (sm.trans s2).trans sA, sA _ _ hd2, ht2.mk (Tk.of sA), ec, by omega, by rw [← eqS]; exact eq⟩
  · rintro σ' H' fr ⟨t, d, kvs, c3, c4, c5, c6, c7, c8, c9, rfl, sm, hd, ht, ec, tl, eq⟩
    rw [List.length_map, List.drop_eq_nil_of_le (Nat.le_refl _)] at eq
    refine s_ret (ev_v 2 Dk.md rfl ⟨d, kvs, rfl, hd, ht⟩) fun v H2 s2 h2 => q v H2 (sm.trans s2) ?_
    rw [← eq]; exact h2
section
variable {σ : L2.St} {H : Hp} {ta tb tc td : TE} {E : XK}
theorem ev_steps_of {n : Nat} {rows : List (List Int)} {p : Int} (ha : Ev ta σ H (Ld K (rows.map Ts))) (hb : Ev tb σ H (isV (.int p))) (hp : PR p) (hr : ∀ r ∈ rows, Row p n r) (hl : rows.length ≤ 60) (hn : n ≤ 1000) : Ev (tCall (p_steps_of K) [] E (tCons ta (tCons tb tNil))) σ H (Dk (stepsOf rows p)) :=
  ev_call (rows, p, n) (ea_cons ha (ea_cons hb ea_nil)) ⟨hp, hr, hl, hn⟩ Dk.md
end
end
end Rw
end
section
set_option maxRecDepth 100000
set_option maxHeartbeats 4000000
namespace Rw
open PySem PySem.Spec PyProof.Rows L2 Rf
variable {K : PySem.W.Frag}
theorem given_map (n : Nat) (f : Nat → Bool) : given n f (fun i => isV (.int (i : Int))) = (((List.range n).filter f).map fun k : Nat => (k : Int)).map fun x => isV (.int x) := by
  rw [given, List.map_map]; rfl
theorem free_len (p : Int) (free : Nat) : ∀ (t : Tab) (l : List Int), (t.foldl (fun numbers e => numbers.set e.1 ((0 - e.2.getD free 0) % p)) l).length = l.length
  | [], l => rfl
  | e :: t, l => by rw [List.foldl_cons, free_len p free t, List.length_set]
section
variable {σ : L2.St} {H H' : Hp} {ta tb tc td ty tv te tl : TE} {D : Ends} {tz : L2.TS}
theorem ev_dnotin {d : Addr} {t : Tab} {kvs : List (Key × V)} {k : Nat} (h2 : Ev ty σ H (isV (.int k))) (h1 : Ev td σ H (isV (.ref d))) (hd : H d = some (.dK kvs)) (ht : TabV t kvs H) : Ev (tDNotIn ty td) σ H (isV (.bl (!(t.any fun e => e.1 == k)))) :=
  ⟨md_isV, fun H1 e Q q => h2.run H1 e _ fun y H2 e2 p2 => h1.run H2 (e.trans e2) _ fun x H3 e3 p1 => by
    refine ⟨d, valV kvs (.inl (k : Int)), p1, .inl ⟨kvs, .inl (k : Int), .inl (e3 _ _ (e2 _ _ (e _ _ hd))), p2, rfl⟩, ?_⟩
    obtain ⟨vs, a, rfl⟩ := ht
    have := a.len
    rw [List.length_map] at this
    rw [valV_no t vs k this]
    exact q _ H3 (e2.trans e3) rfl⟩
end
section
variable {P : Program} {w : World} {mg : Str → Option Value} {base : Heap}
abbrev s_idle_of : Stmt := topS 18
abbrev N_idle_of : List Str := ["rows", "width", "prime", "found", "some", "at", "free", "numbers"]
theorem sc_idle_of : FnScope N_idle_of ["rows", "width", "prime"] (defScope s_idle_of) := ⟨rfl, rfl, rfl, by decide +kernel, rfl, by decide +kernel, by decide +kernel⟩

def p_idle_of (K : PySem.W.Frag) : Sp := PfL (fun a : List (List Int) × Nat × Int => [Ld K (a.1.map Ts), isV (.int a.2.1), isV (.int a.2.2)]) (fun a => PR a.2.2 ∧ (∀ r ∈ a.1, Row a.2.2 a.2.1 r) ∧ a.1.length ≤ 60 ∧ a.2.1 ≤ 60) (fun a => (idleOf a.1 a.2.1 a.2.2).map Ts)
theorem ok_idle_of (D : Df K mg "idle_of" s_idle_of ["rows", "width", "prime"]) (Bt : Bts mg) (Gb : Gbs K mg) (c_steps_of : Cal P w K mg base 3 "steps_of" (p_steps_of K)) (c_in_order : Cal P w K mg base 1 "in_order" (p_in_order K)) : Cal P w K mg base 4 "idle_of" (p_idle_of K) := by
  refine cal_of D sc_idle_of (fun vs H Q E ⟨a, _, h, _⟩ => h.len) fun f cdv A outer s H vs Q E hr ⟨⟨rows, n, p⟩, ⟨hp, hr0, hl, hn⟩, hds, q⟩ => ?_
  dsimp only at *
  obtain ⟨x1, x2, x3, rfl, hx, rfl, rfl⟩ := all2_3 hds
  have bd := hp.bd
  refine ⟨_, (pss_cons (ps_set (i := 3) sc_idle_of.nd rfl (by first | exact .inl rfl | exact .inr rfl) (pe_d c_steps_of hr (by decide) (by rfl) (pa_cons (pv 0) (pa_cons (pv 2) pa_nil))))
      (pss_cons (ps_set (i := 4) sc_idle_of.nd rfl (by first | exact .inl rfl | exact .inr rfl) (pe_lst pa_nil))
      (pss_cons (ps_for PassesOwn.never rfl (pi_list (pe_lc (own := [("at", 5)]) rfl sc_idle_of.nd (pi_range1 (by rfl) Bt.range (pa_cons (pv 1) pa_nil)) (blkOk_by (N := N_idle_of) (sc := defScope s_idle_of) (by decide +kernel)) (fun _ _ _ _ _ => (pg_name (i := 5) sc_idle_of.nd rfl (by first | exact .inl rfl | exact .inr rfl))) (fun _ _ _ _ _ => (pts_one (pt_cmp (pc_dnotin (hu_of hr) (pv 5) (pv 3))))) (fun _ _ _ _ _ => (pv 5)))) (pg_name (i := 6) sc_idle_of.nd rfl (by first | exact .inl rfl | exact .inr rfl)) (pss_cons (ps_set (i := 7) sc_idle_of.nd rfl (by first | exact .inl rfl | exact .inr rfl) (pe_op op_rep (pe_lst (pa_cons pe_int pa_nil)) (pv 1)))
      (pss_cons (ps_asg pe_int (pg_sub (pv 7) (pv 6) set_list))
      (pss_cons (ps_lock (ps_for PassesOwn.never rfl (pi_keys (pv 3)) (pg_name (i := 5) sc_idle_of.nd rfl (by first | exact .inl rfl | exact .inr rfl)) (pss_one (ps_asg (pe_op op_mod (pe_op op_sub pe_int (pe_ix (ix_tupK (K := K)) (pe_dget (hu_of hr) (pv 3) (pv 5) (fun _ _ => rfl)) (pv 6) (fun _ _ => rfl))) (pv 2)) (pg_sub (pv 7) (pv 5) set_list)))))
      (pss_one (ps_expr (pe_bm PySem.F.plainAttrs_list PySem.F.slot_list_append PySem.F.type_list_append mt_append (pv 4) (pa_cons (pe_callTy (call_tupK (K := K)) (by rfl) Bt.tuple (by decide +kernel) (pa_cons (pv 7) pa_nil)) pa_nil))))))))
      (pss_one (ps_ret (pe_d c_in_order hr (by decide) (by rfl) (pa_cons (pe_d c_steps_of hr (by decide) (by rfl) (pa_cons (pv 4) (pa_cons (pv 2) pa_nil))) pa_nil))))))), ?_⟩
  have lm := Ld.mono (K := K) (fun d hd => (ts_md (rows := rows) d hd).md)
  refine q_set (ev_steps_of (n := n) (ev_v 0 lm rfl hx) (ev_i 2 rfl) hp hr0 hl (by omega)) fun v3 H1 s1 h1 => ?_
  obtain ⟨d, kvs, rfl, hd, ht⟩ := h1
  obtain ⟨ec, _⟩ := stepsOf_ok hp hr0
  have hio : idleOf rows n p = inOrder (stepsOf (((List.range n).filter fun k => !((stepsOf rows p).any fun e => e.1 == k)).map (freeRow (stepsOf rows p) n p)) p) := rfl
  generalize stepsOf rows p = t at *
  refine q_setL el_nil fun l4 H2 n4 s2 e4 => ?_
  have hd2 := s2 _ _ hd
  have ht2 := ht.mk (Tk.of s2)
  have hd4 : d ≠ l4 := fun z => by rw [z, n4] at hd; cases hd
  have hfr : ∀ k ∈ (List.range n).filter (fun k => !(t.any fun e => e.1 == k)), k < n ∧ k ∉ t.map (·.1) := fun k hk => by
    obtain ⟨h1, h2⟩ := List.mem_filter.mp hk
    refine ⟨List.mem_range.mp h1, fun q => ?_⟩
    obtain ⟨e, he, ee⟩ := List.mem_map.mp q
    have : (t.any fun e => e.1 == k) = true := List.any_eq_true.mpr ⟨e, he, by simpa using ee⟩
    rw [this] at h2; cases h2
  have fl : ((List.range n).filter (fun k => !(t.any fun e => e.1 == k))).length ≤ n := by
    have := List.length_filter_le (fun k => !(t.any fun e => e.1 == k)) (List.range n)
    rw [List.length_range] at this; exact this
  have sp : ElD (tLc (iRng1 (tCons (tVar 1) tNil)) (gName 5) (tTest (tDNotIn (tVar 5) (tVar 3))) (tVar 5) [5]) [some x1, some (.int n), some (.int p), some (.ref d), some (.ref l4), none, none, none] H2 ((((List.range n).filter (fun k => !(t.any fun e => e.1 == k))).map fun k : Nat => (k : Int)).map fun x => isV (.int x)) := by
    rw [← given_map]
    refine eld_lc (ei_range (ev_i 1 rfl) (by omega)) (by omega) _ _ (fun _ _ => mk_isV) ?_
    rintro i x H3 hi s3 rfl
    exact ⟨_, fun k hk => hk, rfl, et_test (ev_dnotin (ev_i 5 rfl) (ev_i 3 rfl) (s3 _ _ hd2) (ht2.mk (Tk.of s3))), fun _ => ev_i 5 rfl⟩
  generalize hF : (List.range n).filter (fun k => !(t.any fun e => e.1 == k)) = F at *
  refine q_forM (ei_new sp ints_mk) [l4] (muts1 e4) (fun p hp => by simp) (fun i σ' H' => ∃ (vs : List V) (c5 c6 c7 : Option V), σ' = [some x1, some (.int n), some (.int p), some (.ref d), some (.ref l4), c5, c6, c7] ∧ H' l4 = some (.lst vs) ∧ All2 (((F.take i).map (freeRow t n p)).map Ts) vs H')
    (fun B e => ⟨[], _, _, _, rfl, e _ _ e4, trivial⟩) ?_ ?_
  · rintro T kp i σ' H' hi hT ⟨vs, c5, c6, c7, rfl, el4, al⟩ x H'' s3 hx hT2
    rw [List.length_map, List.length_map] at hi
    obtain ⟨z, hz, rfl⟩ := nth_int hx
    rw [List.getElem?_map, List.getElem?_eq_getElem hi] at hz
    obtain rfl : ((F[i] : Nat) : Int) = z := Option.some.inj hz
    have hFi := hfr F[i] (List.getElem_mem hi)
    generalize hfree : F[i] = free at *
    have hd5 : H'' d = some (.dK kvs) := kp.fr _ hT2 d _ (by simpa using hd4) hd2
    have ht5 := ht2.mk ((kp.fr _ hT2).tk (muts1 e4))
    refine q_setL (el_zeros (n := n) (fun H1 s1 => ev_i 1 rfl) (by omega)) fun l7 H6 n7 s6 e7 => ?_
    refine q_setIx e7 ev_c (ev_i 7 rfl) (ev_i 6 rfl) (by rw [List.length_map, List.length_replicate]; exact hFi.1) fun v H7 s7 hv => ?_
    obtain rfl := hv
    have n74 : l7 ≠ l4 := fun q => by
      have := s3 _ _ el4
      rw [← q, n7] at this; cases this
    have n7d : d ≠ l7 := fun q => by rw [q, n7] at hd5; cases hd5
    have s78 : Same H'' (upd H7 l7 (.lst (((List.replicate n (0 : Int)).map V.int).set free (.int 1)))) := Same.mut (s6.trans s7) n7
    have e8 : (upd H7 l7 (.lst (((List.replicate n (0 : Int)).map V.int).set free (.int 1)))) l7 = some (.lst (((List.replicate n (0 : Int)).set free 1).map V.int)) := by rw [upd_same, List.map_set]
    generalize upd H7 l7 (.lst (((List.replicate n (0 : Int)).map V.int).set free (.int 1))) = H8 at s78 e8 ⊢
    have hd8 := s78 _ _ hd5
    have ht8 := ht5.mk (Tk.of s78)
    refine q_forKeys (n := 3) rfl hd8 [l7] (muts1 e8) (by simpa using n7d) (fun j σ' H' => ∃ (L : List Int) (y : Option V), σ' = [some x1, some (.int n), some (.int p), some (.ref d), some (.ref l4), y, some (.int free), some (.ref l7)] ∧ H' l7 = some (.lst (L.map V.int)) ∧ L.length = n ∧ (t.drop j).foldl (fun numbers e => numbers.set e.1 ((0 - e.2.getD free 0) % p)) L = freeRow t n p free)
      (fun od B e => ⟨_, _, rfl, e _ _ (by rw [upd_ne (Ne.symm n7d)]; exact e8), by simp, rfl⟩) ?_ ?_
    · rintro od T2 kp2 j σ' H9 k v hk hT9 ⟨L, y, rfl, eL, lL, eq⟩ H10 s10 hT10 rt bk
      obtain ⟨e, h2, rfl, h4, h5⟩ := ht8.at ec.nd hk
      have fr := kp2.fr _ hT10
      have hf : H10 d = some (.frz od (.dK kvs)) := fr d _ (by simpa using n7d) upd_same
      have mu8 : Muts [l7] (upd H8 d (.frz od (.dK kvs))) := fun p hp => by
        rw [List.mem_singleton.mp hp]
        exact ⟨.lst (((List.replicate n (0 : Int)).set free 1).map V.int), by rw [upd_ne (Ne.symm n7d)]; exact e8, trivial⟩
      have h4' := Ts.mk _ _ _ ((tk_lock (od := od) hd8).trans (fr.tk mu8)) h4
      have he := List.mem_of_getElem? h2
      have hlt := (List.getElem?_eq_some_iff.mp h2).1
      have lt := ec.lt e he
      have re := ec.row e he
      rw [List.drop_eq_getElem_cons hlt, (List.getElem?_eq_some_iff.mp h2).2, List.foldl_cons] at eq
      refine s_setIx (n := e.1) (s10 _ _ eL) (ev_I (show 0 < p by omega) (ev_I0 ev_c (ev_ixTI (n := free) (ev_dget (ev_i 3 rfl) (ev_i 5 rfl) (.inr ⟨od, hf⟩) h5 Ts.mk.md h4').ti (ev_i 6 rfl) (get_of (by rw [re.len]; exact hFi.1)))) (ev_i 2 rfl)) (ev_i 7 rfl) (ev_i 5 rfl) (by rw [List.length_map]; omega) fun v H11 s11 h11 => ?_
      obtain rfl := h11
      have e11 := s11 _ _ (s10 _ _ eL)
      exact ⟨kp2.upd _ _ _ _ (kp2.same _ _ s11 hT10) e11 trivial (by simp), _, _, rfl, by rw [upd_same, ← List.map_set], by rw [List.length_set]; exact lL, eq⟩
    · rintro od σ' H9 fr ⟨L, y, rfl, eL, lL, eq⟩
      rw [ht8.len, List.drop_eq_nil_of_le (Nat.le_refl _)] at eq
      have hL : L = freeRow t n p free := eq
      have hf : H9 d = some (.frz od (.dK kvs)) := fr d _ (by simpa using n7d) upd_same
      have f9 : Fr [l7] H8 (upd H9 d (.dK kvs)) := fr_lock hd8 fr
      have sA : Same H'' (upd H9 d (.dK kvs)) := fun a o h => f9 a o (fun z => by
        rw [List.mem_singleton.mp z, n7] at h; cases h) (s78 _ _ h)
      have eL9 : (upd H9 d (.dK kvs)) l7 = some (.lst (L.map V.int)) := by rw [upd_ne (Ne.symm n7d)]; exact eL
      generalize upd H9 d (.dK kvs) = H12 at sA eL9 f9 ⊢
      have e4' := sA _ _ (s3 _ _ el4)
      refine s_app e4' (ev_i 4 rfl) (ev_tupleS (ev_v 7 Li.mono rfl (li_of eL9))) (by rw [al.len, List.length_map, List.length_map, List.length_take]; omega) fun v H13 s13 h13 => ?_
      have e13 := s13 _ _ e4'
      have tk13 : Tk H13 (upd H13 l4 (.lst (vs ++ [v]))) := Tk.upd e13 trivial
      refine ⟨kp.upd _ _ _ _ (kp.same _ _ (sA.trans s13) hT2) e13 trivial (by simp), _, _, _, _, rfl, upd_same, ?_⟩
      rw [List.take_add_one, List.getElem?_eq_getElem hi, hfree, List.map_append, List.map_append]
      refine All2.app (al.mk (((Tk.of s3).trans (Tk.of (sA.trans s13))).trans tk13) ts_md) ⟨?_, trivial⟩
      rw [← hL]; exact Ts.mk _ _ _ tk13 h13
  · rintro σ' H' fr ⟨vs, c5, c6, c7, rfl, el4, al⟩
    rw [List.length_map, List.length_map, List.take_length] at al
    have sm : Same H H' := fun a o h => fr a o (fun z => by
      rw [List.mem_singleton.mp z, s1.free n4] at h; cases h) (s2 _ _ (s1 _ _ h))
    have hrows : ∀ r ∈ F.map (freeRow t n p), Row p n r := fun r hr => by
      obtain ⟨k, hk, e⟩ := List.mem_map.mp hr
      rw [← e]; exact (freeRow_ok hp ec (hfr k hk).1 (hfr k hk).2).row
    obtain ⟨ec2, _⟩ := stepsOf_ok hp hrows
    have sl := stSteps_len p (F.map (freeRow t n p)) []
    rw [List.length_map] at sl
    refine s_retD (el_in_order (ev_steps_of (n := n) (ev_v 4 (Ld.mono fun d hd => (ts_md d hd).md) rfl ⟨l4, vs, rfl, SqL.of el4, al⟩) (ev_i 2 rfl) hp hrows (by rw [List.length_map]; omega) (by omega)) ec2.nd (by show (List.foldl (stStep p) [] _).length < 64; simp at sl; omega)) fun l vs H1 h1 s1' h2 h3 => q l vs H1 (sm.free h1) (sm.trans s1') h2 ?_
    rw [hio]; exact h3
section
variable {σ : L2.St} {H : Hp} {ta tb tc td : TE} {E : XK}
theorem el_idle_of {n : Nat} {rows : List (List Int)} {p : Int} (ha : Ev ta σ H (Ld K (rows.map Ts))) (hc : Ev tc σ H (isV (.int n))) (hb : Ev tb σ H (isV (.int p))) (hp : PR p) (hr : ∀ r ∈ rows, Row p n r) (hl : rows.length ≤ 60) (hn : n ≤ 60) : ElD (tCall (p_idle_of K) [] E (tCons ta (tCons tc (tCons tb tNil)))) σ H ((idleOf rows n p).map Ts) :=
  ev_callL (rows, n, p) (ea_cons ha (ea_cons hc (ea_cons hb ea_nil))) ⟨hp, hr, hl, hn⟩
end
end
end Rw
end
section
set_option maxRecDepth 100000
set_option maxHeartbeats 4000000
namespace Rw
open PySem PySem.Spec PyProof.Rows L2 Rf
variable {K : PySem.W.Frag}
theorem pi_listK {X : Cx} {l tg : Expr} {tl : TE} (hl : PE X l tl) (h : X.K = K := by rfl) : PI X tg l (iList K tl) := h ▸ pi_list hl
theorem idle_len (rows : List (List Int)) (n : Nat) (p : Int) : (idleOf rows n p).length ≤ n := by
  rw [idleOf]
  rw [inOrder_len, stepsOf]
  refine Nat.le_trans (stSteps_len p _ []) ?_
  rw [List.length_map]
  have := List.length_filter_le (fun k => !((stepsOf rows p).any fun e => e.1 == k)) (List.range n)
  rw [List.length_range] at this
  simpa using this
theorem plL_next (step rule : List Int) (p : Int) : ∀ (k : Nat) (cur : List Int) (i : Nat), i + 1 ≤ k → ∃ l, (plL step rule p k cur)[i]? = some l ∧ (plL step rule p k cur)[i + 1]? = some (leftBy (multiplied l step p) rule p)
  | 0, _, _, h => by omega
  | k + 1, cur, 0, h => by
    refine ⟨cur, by rw [plL]; rfl, ?_⟩
    rw [plL, List.getElem?_cons_succ]
    cases k <;> rfl
  | k + 1, cur, i + 1, h => by
    rw [plL, List.getElem?_cons_succ, List.getElem?_cons_succ]
    exact plL_next step rule p k _ i (by omega)
theorem take_snoc {α : Type} {l : List α} {i : Nat} {a : α} (h : l[i]? = some a) : l.take (i + 1) = l.take i ++ [a] := by rw [List.take_add_one, h]; rfl
section
variable {σ : L2.St} {H H' : Hp} {ta tb tc td ty tv te tl : TE} {D : Ends} {tz : L2.TS}
theorem ev_plain {mg : Str → Option Value} (Gb : Gbs K mg) : Ev (tC (.ref Gb.aX)) σ H (Ti K [0, 1]) := ev_cP Ti.mono ⟨_, rfl, Gb.sX H⟩
end
/-- a list that is not l -/
def Lx (l : Addr) (im : List Int) : PV := fun v H => ∃ a, v = .ref a ∧ a ≠ l ∧ H a = some (.lst (im.map V.int))
theorem Lx.md {l : Addr} {im : List Int} : Md (Lx l im) := fun _ _ _ e ⟨a, b, c, d⟩ => ⟨a, b, c, e _ _ d⟩
theorem all2_lx_upd {l : Addr} {o : HO} {H : Hp} : ∀ {ims : List (List Int)} {vs : List V}, All2 (ims.map (Lx l)) vs H → All2 (ims.map (Lx l)) vs (upd H l o)
  | [], [], _ => trivial
  | im :: ims, v :: vs, ⟨⟨a, b, c, d⟩, h⟩ => ⟨⟨a, b, c, by rw [upd_ne c]; exact d⟩, all2_lx_upd h⟩
  | [], _ :: _, h => h.elim
  | _ :: _, [], h => h.elim
theorem lx_md {l : Addr} {ims : List (List Int)} : ∀ d ∈ ims.map (Lx l), Md d := fun d hd => by
  obtain ⟨x, _, e⟩ := List.mem_map.mp hd
  rw [← e]; exact Lx.md
theorem all2_isV {H : Hp} : ∀ {vs : List V}, All2 (vs.map isV) vs H
  | [] => trivial
  | v :: vs => ⟨rfl, all2_isV⟩
theorem isV_mk {vs : List V} : ∀ d ∈ vs.map isV, Mk d := fun d hd => by
  obtain ⟨x, _, e⟩ := List.mem_map.mp hd
  rw [← e]; exact mk_isV
theorem EvL.lx {σ : L2.St} {H : Hp} {te : TE} {xs : List Int} {l : Addr} {o : HO} (hl : H l = some o) (h : EvL te σ H (xs.map V.int)) : Ev te σ H (Lx l xs) := ⟨Lx.md, fun H1 e Q q => h H1 e Q fun p H2 hp e2 h2 => q _ H2 e2 ⟨p, rfl, fun z => (by
  have := e _ _ hl
  rw [← z, hp] at this; cases this), h2⟩⟩
section
variable {σ : L2.St} {H H' : Hp} {ta tb tc td ty tv te tl : TE} {D : Ends} {tz : L2.TS}
theorem ev_toT {xs : List Int} {n : Nat} (ha : Ev ta σ H (Ts xs)) (hn : Ev tb σ H (isV (.int n))) : Ev (tSl (rSlA K) ta tNoPart (tPart tb)) σ H (Ts (xs.take n)) :=
  ⟨Ts.mk.md, fun H1 e Q q => ha.run H1 e _ fun v H2 e2 p => by
    obtain ⟨a, e3, h3⟩ := p
    refine hn.run H2 (e.trans e2) _ fun w H3 e4 p2 => ?_
    refine ⟨n, p2, a, _, e3, SqT.of (e4 _ _ h3), fun hw => ?_, fun _ p hp => ?_⟩
    · rw [HT.sIx_none, HT.sIx_nat, List.length_map] at hw
      refine q _ H3 (e2.trans e4) ⟨a, rfl, ?_⟩
      rw [List.take_of_length_le (by omega)]; exact e4 _ _ h3
    · refine q _ _ ((e2.trans e4).trans (Same.new hp)) ⟨p, rfl, ?_⟩
      rw [cutV_to, ← List.map_take]; exact upd_same⟩
theorem ev_tupleT {xs : List Int} (ha : Ev ta σ H (Ts xs)) : Ev (tCB (rTupS K) (tCons ta tNil)) σ H (Ts xs) :=
  ⟨Ts.mk.md, fun H1 e Q q => ha.run H1 e _ fun v H2 e2 ⟨a, e3, h⟩ => ⟨a, _, by rw [e3], .inr ⟨SqT.of h, q _ H2 e2 ⟨a, rfl, h⟩⟩⟩⟩
end
section
variable {P : Program} {w : World} {mg : Str → Option Value} {base : Heap}
def p_cutT : Sp := Pf (fun a : List Int => [Ts a]) (fun a => a.length ≤ 1000) (fun a => Ts (cut a))
theorem ev_cutT {σ : L2.St} {H : Hp} {ta : TE} {E : XK} {xs : List Int} (ha : Ev ta σ H (Ts xs)) (hl : xs.length ≤ 1000) : Ev (tCall p_cutT [] E (tCons ta tNil)) σ H (Ts (cut xs)) :=
  ev_call xs (ea_cons ha ea_nil) hl Ts.mk.md
theorem ok_cutT (D : Df K mg "cut" s_cut ["numbers"]) (Bt : Bts mg) : Cal P w K mg base 1 "cut" p_cutT := by
  refine cal_of D sc_cut (fun vs H Q E ⟨a, _, h, _⟩ => h.len) fun f cdv A outer s H vs Q E hr ⟨xs, hl, hds, q⟩ => ?_
  dsimp only at *
  obtain ⟨x1, rfl, hx⟩ := all2_1 hds
  refine ⟨_, (pss_cons (ps_set (i := 1) sc_cut.nd rfl (by first | exact .inl rfl | exact .inr rfl) (pe_callB (call_lenK (K := K)) (by rfl) Bt.len PySem.boot_len (pa_cons (pv 0) pa_nil)))
      (pss_cons (ps_while PassesOwn.never ((pw_and (pt_cmpR op_gt (pv 1) pe_int (nomark _)) (pw_and1 (pt_cmpR op_eq (pe_ix (ix_tupK (K := K)) (pv 0) (pe_op op_sub (pv 1) pe_int) (fun _ _ => rfl)) pe_int (nomark _))))).pt (pss_one (ps_aug (i := 1) sc_cut.nd rfl (by first | exact .inl rfl | exact .inr rfl) pe_int ip_sub)))
      (pss_one (ps_ret (pe_callTy (call_tupK (K := K)) (by rfl) Bt.tuple (by decide +kernel) (pa_cons (pe_slice (sl_tupAK (K := K)) (pv 0) po_none (po_some (pv 1))) pa_nil)))))), ?_⟩
  refine q_set (ev_lenT (ev_v 0 Ts.mk.md rfl hx).ti) fun v H1 s1 h1 => ?_
  obtain rfl := h1
  refine q_while (fun m σ H' => σ = [some x1, some (.int m)] ∧ Same H H' ∧ m ≤ xs.length ∧ cut (xs.take m) = cut xs) xs.length ⟨rfl, s1, Nat.le_refl _, by rw [List.take_length]⟩ ?_
  rintro m σ' H' ⟨rfl, sm, hm, eq⟩
  have hx' := Ts.mk.md _ _ _ sm hx
  refine ⟨decide (0 < (m : Int)) && decide (xs.getD (m - 1) 0 = 0), et_and (et_test (ev_I0 (ev_i 1 rfl) ev_c)) (fun h => ?_), fun hb H3 s3 => ?_, fun hb H3 s3 => ?_⟩
  · have hm0 : 0 < m := by simpa using h
    refine et_test (Ev.is (ev_eq (x := .int (xs.getD (m - 1) 0)) (y := .int 0) rfl (ev_ixTI (n := m - 1) (ev_v 0 Ts.mk.md rfl hx').ti ((ev_I0 (ev_i 1 rfl) ev_c).is (by show V.int _ = V.int _; congr 1; omega)) ?_) ev_c) ?_)
    · rw [List.getD_eq_getElem?_getD, List.getElem?_eq_getElem (by omega)]; rfl
    · simp
  · simp only [Bool.and_eq_true, decide_eq_true_eq] at hb
    obtain ⟨h0, h1⟩ := hb
    obtain ⟨k, rfl⟩ : ∃ k, m = k + 1 := ⟨m - 1, by omega⟩
    refine s_aug (a := ((k + 1 : Nat) : Int)) (b := 1) rfl ev_c fun H4 s4 => ⟨k, by omega, by simp, (sm.trans s3).trans s4, by omega, ?_⟩
    rw [← eq, List.take_add_one]
    rw [Nat.add_sub_cancel, List.getD_eq_getElem?_getD, List.getElem?_eq_getElem (by omega)] at h1
    rw [List.getElem?_eq_getElem (by omega), show xs[k] = 0 from h1]
    exact (cut_snoc0 _).symm
  · refine s_ret (ev_tupleT (ev_toT (n := m) (ev_v 0 Ts.mk.md rfl (Ts.mk.md _ _ _ s3 hx')) (ev_i 1 rfl))) fun v H4 s4 h4 => q v H4 ((sm.trans s3).trans s4) ?_
    rw [← eq]
    cases m with
    | zero => rw [List.take_zero] at h4 ⊢; exact h4
    | succ k =>
      simp only [Bool.and_eq_false_iff, decide_eq_false_iff_not] at hb
      have hne : xs.getD k 0 ≠ 0 := by
        rcases hb with hb | hb
        · omega
        · exact hb
      rw [List.getD_eq_getElem?_getD, List.getElem?_eq_getElem (by omega)] at hne
      replace hne : xs[k] ≠ 0 := hne
      have e2 : xs.take (k + 1) = xs.take k ++ [xs[k]] := by rw [List.take_add_one, List.getElem?_eq_getElem (by omega)]; rfl
      rw [e2] at h4 ⊢
      rw [cut_snoc hne]; exact h4
end
section
variable {P : Program} {w : World} {mg : Str → Option Value} {base : Heap}
abbrev s_powers_left : Stmt := topS 39
abbrev N_powers_left : List Str := ["rule", "prime", "step", "found"]
theorem sc_powers_left : FnScope N_powers_left ["rule", "prime"] (defScope s_powers_left) := ⟨rfl, rfl, rfl, by decide +kernel, rfl, by decide +kernel, by decide +kernel⟩

def p_powers_left (K : PySem.W.Frag) : Sp := PfL (fun a : List Int × Int => [Ti K a.1, isV (.int a.2)]) (fun a => Ru a.2 a.1 ∧ 2 ≤ a.1.length ∧ a.1.length ≤ 50) (fun a => (powersLeft a.1 a.2).map Ts)
theorem ok_powers_left (D : Df K mg "powers_left" s_powers_left ["rule", "prime"]) (Bt : Bts mg) (Gb : Gbs K mg) (c_multiplied : Cal P w K mg base 2 "multiplied" (p_multiplied K)) (c_left_by : Cal P w K mg base 4 "left_by" (p_left_by K)) (c_left_raised : Cal P w K mg base 5 "left_raised" (p_left_raised K)) : Cal P w K mg base 6 "powers_left" (p_powers_left K) := by
  refine cal_of D sc_powers_left (fun vs H Q E ⟨a, _, h, _⟩ => h.len) fun f cdv A outer s H vs Q E hr ⟨⟨rule, p⟩, ⟨u, h2, hl⟩, hds, q⟩ => ?_
  dsimp only at *
  obtain ⟨x1, x2, rfl, hx, rfl⟩ := all2_2 hds
  have hp := u.pr
  have bd := hp.bd
  obtain ⟨pl, po⟩ := powers_ok u h2
  refine ⟨_, (pss_cons (ps_set (i := 2) sc_powers_left.nd rfl (by first | exact .inl rfl | exact .inr rfl) (pe_d c_left_raised hr (by decide) (by rfl) (pa_cons (pe_glob (v := .ref Gb.aX) (by rfl) Gb.PLAIN_X rfl) (pa_cons (pv 1) (pa_cons (pv 0) (pa_cons (pv 1) pa_nil))))))
      (pss_cons (ps_set (i := 3) sc_powers_left.nd rfl (by first | exact .inl rfl | exact .inr rfl) (pe_lst (pa_cons (pe_d c_left_by hr (by decide) (by rfl) (pa_cons (pe_tup (pa_cons pe_int pa_nil)) (pa_cons (pv 0) (pa_cons (pv 1) pa_nil)))) pa_nil)))
      (pss_cons (ps_while PassesOwn.never (pt_cmpR op_lt (pe_callB (call_lenK (K := K)) (by rfl) Bt.len PySem.boot_len (pa_cons (pv 3) pa_nil)) (pe_op op_sub (pe_callB (call_lenK (K := K)) (by rfl) Bt.len PySem.boot_len (pa_cons (pv 0) pa_nil)) pe_int) (nomark _)) (pss_one (ps_expr (pe_bm PySem.F.plainAttrs_list PySem.F.slot_list_append PySem.F.type_list_append mt_append (pv 3) (pa_cons (pe_d c_left_by hr (by decide) (by rfl) (pa_cons (pe_d c_multiplied hr (by decide) (by rfl) (pa_cons (pe_ix (ix_listK (K := K)) (pv 3) (pe_un un_neg pe_int) (fun _ _ => rfl)) (pa_cons (pv 2) (pa_cons (pv 1) pa_nil)))) (pa_cons (pv 0) (pa_cons (pv 1) pa_nil)))) pa_nil)))))
      (pss_one (ps_ret (pv 3)))))), ?_⟩
  refine q_set (ev_left_raised (ev_plain Gb) (ev_i 1 rfl) (ev_v 0 Ti.mono rfl hx) (ev_i 1 rfl) u (Cn.X hp).rg (by omega) (by simp) (by omega)) fun v2 H1 s1 h1 => ?_
  have hx := Ti.mono _ _ _ s1 hx
  have st := leftRaised_ok u (Cn.X hp).rg (show 0 ≤ p by omega)
  have pn := fun i (hi : i + 1 ≤ rule.length - 2) => plL_next (leftRaised [0, 1] p rule p) rule p (rule.length - 2) (leftBy [1] rule p) i hi
  have p0 : (powersLeft rule p)[0]? = some (leftBy [1] rule p) := by
    rw [powersLeft]; cases rule.length - 2 <;> rfl
  change ∀ i, i + 1 ≤ rule.length - 2 → ∃ l, (powersLeft rule p)[i]? = some l ∧ (powersLeft rule p)[i + 1]? = some (leftBy (multiplied l (leftRaised [0, 1] p rule p) p) rule p) at pn
  refine q_setD (eld_lst (ea_cons (ev_left_by (ev_t1 ev_c).ti (ev_v 0 Ti.mono rfl hx) (ev_i 1 rfl) u (by simp) (by omega)) ea_nil)) fun l us H2 n2 s2 e2 al => ?_
  have hx := Ti.mono _ _ _ s2 hx
  have h1 := Ts.mk.md _ _ _ s2 h1
  refine q_while (fun m σ H' => ∃ vs, σ = [some x1, some (.int p), some v2, some (.ref l)] ∧ Tk H2 H' ∧ Fr [l] H2 H' ∧ H' l = some (.lst vs) ∧ m + 1 ≤ rule.length ∧ 1 ≤ rule.length - 1 - m ∧ All2 (((powersLeft rule p).take (rule.length - 1 - m)).map Ts) vs H') (rule.length - 2)
    ⟨us, rfl, Tk.refl _, Fr.refl _, e2, by omega, by omega, by
      rw [show rule.length - 1 - (rule.length - 2) = 0 + 1 by omega, take_snoc p0]
      exact al⟩ ?_
  rintro m σ' H' ⟨vs, rfl, tk, fr, el, hm, hm2, av⟩
  have hx := Ti.mk _ _ _ tk hx
  have h1 := Ts.mk _ _ _ tk h1
  have avl := av.len
  rw [List.length_map, List.length_take, pl] at avl
  have hld : ∀ H3, Same H' H3 → Ld K (((powersLeft rule p).take (rule.length - 1 - m)).map Ts) (.ref l) H3 := fun H3 s3 => ⟨l, vs, rfl, SqL.of (s3 _ _ el), av.mono s3 fun d hd => (ts_md d hd).md⟩
  have lmd := Ld.mono (K := K) (fun d hd => (ts_md (rows := (powersLeft rule p).take (rule.length - 1 - m)) d hd).md)
  refine ⟨decide (0 < m), Ev.is (x := .bl (decide (((((powersLeft rule p).take (rule.length - 1 - m)).map Ts).length : Int) < (rule.length : Int) - 1))) ?_ ?_ |> et_test, fun hb H3 s3 => ?_, fun hb H3 s3 => ?_⟩
  · exact ev_I0 (ev_lenLD (ev_v 3 lmd rfl (hld _ (Same.refl _)))) (ev_I0 (ev_lenT (ev_v 0 Ti.mono rfl hx)) ev_c)
  · rw [List.length_map, List.length_take, pl]
    congr 1
    apply decide_eq_decide.mpr
    omega
  · have hm0 : 0 < m := by simpa using hb
    obtain ⟨c, hc1, hc2⟩ := pn (rule.length - 1 - m - 1) (by omega)
    rw [show rule.length - 1 - m - 1 + 1 = rule.length - 1 - m by omega] at hc2
    have hrm := po _ _ hc1
    have cl := hrm.cn
    have ll := hrm.lt
    have lm := len_multiplied (p := p) c (leftRaised [0, 1] p rule p)
    have sl := st.lt
    have hlast : (((powersLeft rule p).take (rule.length - 1 - m)).map Ts).getLast? = some (Ts c) := by
      rw [show rule.length - 1 - m = (rule.length - 1 - m - 1) + 1 by omega, take_snoc hc1, List.map_append]
      simp
    refine s_app (s3 _ _ el) (ev_i 3 rfl) (ev_left_by (ev_multiplied (ev_lastL (ev_v 3 lmd rfl (hld _ s3)) (ev_neg ev_c) hlast Ts.mk.md).ti (ev_v 2 Ts.mk.md rfl (Ts.mk.md _ _ _ s3 h1)).ti (ev_i 1 rfl) hp cl.rg (by omega) (by omega)).ti (ev_v 0 Ti.mono rfl (Ti.mono _ _ _ s3 hx)) (ev_i 1 rfl) u (by omega) (by omega)) (by omega) fun v H4 s4 h4 => ?_
    have e4 := s4 _ _ (s3 _ _ el)
    have tk4 : Tk H4 (upd H4 l (.lst (vs ++ [v]))) := Tk.upd e4 trivial
    refine ⟨m - 1, by omega, _, rfl, (tk.trans (Tk.of (s3.trans s4))).trans tk4, (fr.trans (Fr.of (s3.trans s4))).trans (Fr.upd (by simp)), upd_same, by omega, by omega, ?_⟩
    rw [show rule.length - 1 - (m - 1) = (rule.length - 1 - m) + 1 by omega, take_snoc hc2, List.map_append]
    exact All2.app (av.mk ((Tk.of (s3.trans s4)).trans tk4) ts_md) ⟨Ts.mk _ _ _ tk4 h4, trivial⟩
  · have hm0 : m = 0 := by simpa using hb
    subst hm0
    rw [Nat.sub_zero, List.take_of_length_le (by rw [pl]; exact Nat.le_refl _)] at av
    have sm : Same H H' := fun a o h => fr a o (fun z => by
      rw [List.mem_singleton.mp z, s1.free n2] at h; cases h) (s2 _ _ (s1 _ _ h))
    refine s_ret (P := isV (.ref l)) (ev_i 3 rfl) fun v H4 s4 h4 => ?_
    obtain rfl := h4
    exact q l vs H4 (s1.free n2) (sm.trans (s3.trans s4)) (s4 _ _ (s3 _ _ el)) (av.mono (s3.trans s4) fun d hd => (ts_md d hd).md)
section
variable {σ : L2.St} {H : Hp} {ta tb tc td : TE} {E : XK}
theorem el_powers {rule : List Int} {p : Int} (ha : Ev ta σ H (Ti K rule)) (hb : Ev tb σ H (isV (.int p))) (u : Ru p rule) (h2 : 2 ≤ rule.length) (hl : rule.length ≤ 50) : ElD (tCall (p_powers_left K) [] E (tCons ta (tCons tb tNil))) σ H ((powersLeft rule p).map Ts) :=
  ev_callL (rule, p) (ea_cons ha (ea_cons hb ea_nil)) ⟨u, h2, hl⟩
end
abbrev s_still_of : Stmt := topS 40
abbrev N_still_of : List Str := ["rule", "prime", "many", "images", "at", "one", "rows", "place", "row", "image"]
theorem sc_still_of : FnScope N_still_of ["rule", "prime"] (defScope s_still_of) := ⟨rfl, rfl, rfl, by decide +kernel, rfl, by decide +kernel, by decide +kernel⟩

abbrev asc_still_of : Scope := { kind := ScopeKind.function, names := [(Str.ofString ".0", NameKind.local), (Str.ofString "place", NameKind.cell), (Str.ofString "tuple", NameKind.globalImplicit), (Str.ofString "images", NameKind.cell)], isGenerator := false, isCoroutine := false }
def p_still_of (K : PySem.W.Frag) : Sp := PfL (fun a : List Int × Int => [Ti K a.1, isV (.int a.2)]) (fun a => Ru a.2 a.1 ∧ 2 ≤ a.1.length ∧ a.1.length ≤ 50) (fun a => (stillOf a.1 a.2).map Ts)
theorem range_images (L : List (List Int)) (f : List Int × Nat → List Int) (i : Nat) (c : List Int) (h : L[i]? = some c) : (L.zipIdx.map f)[i]? = some (f (c, i)) := by
  rw [List.getElem?_map, List.getElem?_zipIdx, h]; simp
theorem ok_still_of (D : Df K mg "still_of" s_still_of ["rule", "prime"]) (Bt : Bts mg) (Gb : Gbs K mg) (c_idle_of : Cal P w K mg base 4 "idle_of" (p_idle_of K)) (c_cut : Cal P w K mg base 1 "cut" (p_cut K)) (c_widened : Cal P w K mg base 1 "widened" (p_widened K)) (c_less : Cal P w K mg base 3 "less" (p_less K)) (c_powers_left : Cal P w K mg base 6 "powers_left" (p_powers_left K)) (c_cutT : Cal P w K mg base 1 "cut" p_cutT) : Cal P w K mg base 7 "still_of" (p_still_of K) := by
  refine cal_of D sc_still_of (fun vs H Q E ⟨a, _, h, _⟩ => h.len) fun f cdv A outer s H vs Q E hr ⟨⟨rule, p⟩, ⟨u, h2, hl⟩, hds, q⟩ => ?_
  dsimp only at *
  obtain ⟨x1, x2, rfl, hx, rfl⟩ := all2_2 hds
  have hp := u.pr
  have bd := hp.bd
  obtain ⟨pl, po⟩ := powers_ok u h2
  obtain ⟨il, io⟩ := images_ok u h2
  have ro := rows_ok u h2
  have io2 := (still_ok u h2).row
  refine ⟨_, (pss_cons (ps_set (i := 2) sc_still_of.nd rfl (by first | exact .inl rfl | exact .inr rfl) (pe_op op_sub (pe_callB (call_lenK (K := K)) (by rfl) Bt.len PySem.boot_len (pa_cons (pv 0) pa_nil)) pe_int))
      (pss_cons (ps_set (i := 3) sc_still_of.nd rfl (by first | exact .inl rfl | exact .inr rfl) (pe_lst pa_nil))
      (pss_cons (ps_for PassesOwn.never rfl (pi_enum (by rfl) Bt.enumerate (pa_cons (pe_d c_powers_left hr (by decide) (by rfl) (pa_cons (pv 0) (pa_cons (pv 1) pa_nil))) pa_nil)) (pg_tupK (K := K) (n := 2) rfl (pgs_cons (pg_name (i := 4) sc_still_of.nd rfl (by first | exact .inl rfl | exact .inr rfl)) (pgs_cons (pg_name (i := 5) sc_still_of.nd rfl (by first | exact .inl rfl | exact .inr rfl)) pgs_nil))) (pss_one (ps_expr (pe_bm PySem.F.plainAttrs_list PySem.F.slot_list_append PySem.F.type_list_append mt_append (pv 3) (pa_cons (pe_d c_widened hr (by decide) (by rfl) (pa_cons (pe_d c_less hr (by decide) (by rfl) (pa_cons (pv 5) (pa_cons (pe_d c_cut hr (by decide) (by rfl) (pa_cons (pe_op op_cat (pe_op op_rep (pe_lst (pa_cons pe_int pa_nil)) (pv 4)) (pe_lst (pa_cons pe_int pa_nil))) pa_nil)) (pa_cons (pv 1) pa_nil)))) (pa_cons (pv 2) pa_nil))) pa_nil)))))
      (pss_cons (ps_setLc (i := 6) (own := [("place", 7)]) rfl sc_still_of.nd rfl rfl (sw_true rfl rfl rfl (by decide +kernel)) (pi_range1 (by rfl) Bt.range (pa_cons (pv 2) pa_nil)) (blkOk_by (N := N_still_of) (sc := defScope s_still_of) (by decide +kernel)) (fun _ _ _ _ _ => (pg_name (i := 7) sc_still_of.nd rfl (by first | exact .inl rfl | exact .inr rfl))) (fun _ _ _ _ _ => pts_nil) (fun _ _ _ _ _ => (pe_callTy (call_tupK (K := K)) (by rfl) Bt.tuple (by decide +kernel) (pa_cons (pe_lc (own := [("image", 9)]) rfl sc_still_of.nd (pi_listK (K := K) (pv 3)) (blkOk_by (N := N_still_of) (sc := asc_still_of) (by decide +kernel)) (fun _ _ _ _ _ => (pg_name (i := 9) sc_still_of.nd rfl (by first | exact .inl rfl | exact .inr rfl))) (fun _ _ _ _ _ => pts_nil) (fun _ _ _ _ _ => (pe_ix (ix_listK (K := K)) (pv 9) (pv 7) (fun _ _ => rfl)))) pa_nil))))
      (pss_one (ps_ret (pe_lc (own := [("row", 8)]) rfl sc_still_of.nd (pi_list (pe_d c_idle_of hr (by decide) (by rfl) (pa_cons (pv 6) (pa_cons (pv 2) (pa_cons (pv 1) pa_nil))))) (blkOk_by (N := N_still_of) (sc := defScope s_still_of) (by decide +kernel)) (fun _ _ _ _ _ => (pg_name (i := 8) sc_still_of.nd rfl (by first | exact .inl rfl | exact .inr rfl))) (fun _ _ _ _ _ => pts_nil) (fun _ _ _ _ _ => (pe_d c_cutT hr (by decide) (by rfl) (pa_cons (pv 8) pa_nil)))))))))), ?_⟩
  obtain ⟨n, hn⟩ : ∃ n, rule.length - 1 = n := ⟨_, rfl⟩
  refine q_set (P := isV (.int n)) (Ev.is (ev_I0 (ev_lenT (ev_v 0 Ti.mono rfl hx)) ev_c) (by congr 1; omega)) fun v H1 s1 h1 => ?_
  obtain rfl := h1
  have hx := Ti.mono _ _ _ s1 hx
  refine q_setL el_nil fun l H2 n2 s2 e2 => ?_
  have hx := Ti.mono _ _ _ s2 hx
  have him : ∀ i c, (powersLeft rule p)[i]? = some c → (images rule p)[i]? = some (wid (less c (cut (List.replicate i 0 ++ [1])) p) n) := fun i c h => by
    rw [images, range_images _ _ _ _ h, hn]
  refine q_forM (ei_enum (el_powers (ev_v 0 Ti.mono rfl hx) (ev_i 1 rfl) u h2 hl) ts_md) [l] (muts1 e2) (fun p hp => by simp) (fun i σ' H' => ∃ (vs : List V) (c4 c5 c6 c7 c8 c9 : Option V), σ' = [some x1, some (.int p), some (.int n), some (.ref l), c4, c5, c6, c7, c8, c9] ∧ H' l = some (.lst vs) ∧ All2 (((images rule p).take i).map (Lx l)) vs H')
    (fun B e => ⟨[], _, _, _, _, _, _, rfl, e _ _ e2, trivial⟩) ?_ ?_
  · rintro T kp i σ' H' hi hT ⟨vs, c4, c5, c6, c7, c8, c9, rfl, el, al⟩ x H'' s3 ⟨T0, y1, y2, ex, hT0, h3, h4⟩ hT2
    rw [List.length_map, pl] at hi
    obtain ⟨c, hc, hct⟩ := nth_map h4
    obtain rfl := h3
    subst ex
    refine g_pair hT0 ?_
    have hrm := po _ _ hc
    have ll := hrm.lt
    have lc := cut_len (List.replicate i 0 ++ [1])
    rw [List.length_append, List.length_replicate, List.length_singleton] at lc
    have lb := len_blended (p := p) c (cut (List.replicate i 0 ++ [1])) (p - 1)
    have el3 := s3 _ _ el
    have lvs := al.len
    rw [List.length_map, List.length_take] at lvs
    refine s_app (P := Lx l (wid (less c (cut (List.replicate i 0 ++ [1])) p) n)) el3 (ev_i 3 rfl) (EvL.lx el3 (ev_widened (ev_less (ev_v 5 Ts.mk.md rfl hct).ti (ev_cut (xs := List.replicate i 0 ++ [1]) (EvL.li (by rw [List.map_append]; exact el_cat (el_zeros (n := i) (fun H1 s1 => ev_i 4 rfl) (by omega)) (el_one ev_c) (by simp; omega))) (by rw [List.length_append, List.length_replicate, List.length_singleton]; omega)).ti (ev_i 1 rfl) hp (by omega) (by omega)).ti (ev_i 2 rfl) (by show (blended _ _ _ _).length ≤ 1000; omega) (by omega))) (by omega) fun v H4 s4 h4 => ?_
    have e4 := s4 _ _ el3
    refine ⟨kp.upd _ _ _ _ (kp.same _ _ s4 hT2) e4 trivial (by simp), _, _, _, _, _, _, _, rfl, upd_same, ?_⟩
    rw [take_snoc (him i c hc), List.map_append]
    obtain ⟨b, g1, g2, g3⟩ := h4
    exact All2.app (all2_lx_upd (al.mono (s3.trans s4) lx_md)) ⟨⟨b, g1, g2, by rw [upd_ne g2]; exact g3⟩, trivial⟩
  · rintro σ' H' fr ⟨vs, c4, c5, c6, c7, c8, c9, rfl, el, al⟩
    rw [List.length_map, pl, show rule.length - 1 = (images rule p).length from il.symm, List.take_length] at al
    have lvs := al.len
    rw [List.length_map] at lvs
    have sm : Same H H' := fun a o h => fr a o (fun z => by
      rw [List.mem_singleton.mp z, s1.free n2] at h; cases h) (s2 _ _ (s1 _ _ h))
    have hrl : (rowsOf (images rule p) n).length = n := by rw [rowsOf, List.length_map, List.length_range]
    refine q_setD (eld_lcD ((rowsOf (images rule p) n).map Ts) (ei_range (ev_i 2 rfl) (by omega)) (by omega) (by rw [List.length_map, hrl]) ts_md ?_) fun l6 us H3 n3 s3 e3 a3 => ?_
    · rintro i x H3 d hd s3 rfl
      have hi : i < n := by
        have := (List.getElem?_eq_some_iff.mp hd).1
        rw [List.length_map, hrl] at this; exact this
      rw [List.getElem?_map, rowsOf, List.getElem?_map] at hd
      rw [List.getElem?_range hi] at hd
      obtain rfl : Ts ((images rule p).map fun im => im.getD i 0) = d := Option.some.inj hd
      refine ⟨_, fun k hk => hk, rfl, et_yes, ev_tupleS (EvL.li ?_)⟩
      have al3 := al.mono s3 lx_md
      refine el_lcI (L := [l]) ((images rule p).map fun im => im.getD i 0) (ei_lst (ds := vs.map isV) (ev_i 3 ?_) (SqL.of (s3 _ _ el)) all2_isV isV_mk) (by rw [List.length_map, lvs, il]; omega) (by rw [List.length_map, List.length_map, lvs]) ?_
      · rfl
      rintro j x H4 hj s4 hx4
      obtain ⟨v, hv, rfl⟩ := nth_map hx4
      obtain ⟨d, h5, h6⟩ := al3.get' hv
      rw [List.getElem?_map] at h5
      cases he : (images rule p)[j]? with
      | none => rw [he] at h5; cases h5
      | some im =>
        rw [he] at h5
        obtain rfl : Lx l im = d := Option.some.inj h5
        obtain ⟨b, rfl, g2, g3⟩ := h6
        have rw' := (io j im he).1.len
        refine ⟨_, fun k hk => hk, rfl, et_yes, ?_⟩
        rw [getD_of (z := im.getD i 0) (by rw [List.getElem?_map, he]; rfl)]
        exact ev_ixLI (n := i) (ev_v 9 Li.mono rfl (li_of (s4 _ _ g3))) (ev_i 7 rfl) (get_of (by omega))
    · refine s_retD (ds := (stillOf rule p).map Ts) (eld_lcD _ (ei_new (el_idle_of (n := n) (rows := rowsOf (images rule p) n) (ev_v 6 (Ld.mono fun d hd => (ts_md d hd).md) rfl ⟨l6, us, rfl, SqL.of e3, a3⟩) (ev_i 2 rfl) (ev_i 1 rfl) hp (by rw [← hn]; exact ro) (by omega) (by omega)) ts_md) ?_ ?_ ts_md ?_) fun l vs H4 n4 s4 e4 a4 => q l vs H4 (sm.free (s3.free n4)) ((sm.trans s3).trans s4) e4 a4
      · have := idle_len (rowsOf (images rule p) n) n p
        rw [List.length_map]; omega
      · rw [List.length_map, List.length_map, stillOf, List.length_map, hn]
      · rintro i x H4 d hd s4 hx4
        obtain ⟨r, hr1, hr2⟩ := nth_map hx4
        rw [List.getElem?_map, stillOf, List.getElem?_map, hn, hr1] at hd
        obtain rfl : Ts (cut r) = d := Option.some.inj hd
        have rl := (io2 r (by rw [hn]; exact List.mem_of_getElem? hr1)).len
        exact ⟨_, fun k hk => hk, rfl, et_yes, ev_cutT (ev_v 8 Ts.mk.md rfl hr2) (by omega)⟩
section
variable {σ : L2.St} {H : Hp} {ta tb tc td : TE} {E : XK}
theorem el_still {rule : List Int} {p : Int} (ha : Ev ta σ H (Ti K rule)) (hb : Ev tb σ H (isV (.int p))) (u : Ru p rule) (h2 : 2 ≤ rule.length) (hl : rule.length ≤ 50) : ElD (tCall (p_still_of K) [] E (tCons ta (tCons tb tNil))) σ H ((stillOf rule p).map Ts) :=
  ev_callL (rule, p) (ea_cons ha (ea_cons hb ea_nil)) ⟨u, h2, hl⟩
end
end
end Rw
end
section
set_option maxRecDepth 100000
set_option maxHeartbeats 4000000
namespace Rw
open PySem PySem.Spec PyProof.Rows L2 Rf
variable {K : PySem.W.Frag}
def HvD (o : Option (List Int × List Int)) : PV := fun v H => match o with
  | none => v = .non
  | some x => Tds [Ts x.1, Ts x.2] v H
theorem two_mk {xs ys : List Int} : ∀ d ∈ [Ts xs, Ts ys], Mk d := fun d hd => by
  rcases List.mem_cons.mp hd with e | e
  · rw [e]; exact Ts.mk
  · rw [List.mem_singleton.mp e]; exact Ts.mk
theorem HvD.mk {o : Option (List Int × List Int)} : Mk (HvD o) := fun v H H' e h => by
  cases o with
  | none => exact h
  | some x => exact Tds.mk two_mk v H H' e h
/-! a list compared with [] -/
theorem dp_tss {H : Hp} : ∀ {ls : List (List Int)} {vs : List V}, All2 (ls.map Ts) vs H → DpAll K H vs (ls.map fun l => PyData.tuple (l.map PyData.int))
  | [], [], _ => .nil
  | l :: ls, v :: vs, ⟨h1, h2⟩ => .cons (dp_ti h1.ti) (dp_tss h2)
  | [], _ :: _, h => h.elim
  | _ :: _, [], h => h.elim
theorem tss_depth : ∀ ls : List (List Int), PyData.depthAll (ls.map fun l => PyData.tuple (l.map PyData.int)) ≤ 1
  | [] => Nat.zero_le _
  | l :: ls => by
    rw [List.map_cons, PyData.depthAll, PyData.depth, depth_ints]
    have := tss_depth ls
    omega
theorem tss_lay : ∀ ls : List (List Int), PyData.canLayAll0 (ls.map fun l => PyData.tuple (l.map PyData.int)) = true
  | [] => rfl
  | l :: ls => by rw [List.map_cons, PyData.canLayAll0, tss_lay ls, PyData.canLay0, lay_ints]; rfl
theorem shaped_tss (ls : List (List Int)) : SeqAt.shaped (.list (ls.map fun l => PyData.tuple (l.map PyData.int))) = true := by
  unfold SeqAt.shaped
  rw [PyData.canLay0, tss_lay, PyData.depth]
  have := tss_depth ls
  rw [Bool.true_and]
  exact decide_eq_true (by omega)
theorem eqvAll_nil : ∀ ds : List PyData, PyData.eqvAll ds [] = ds.isEmpty
  | [] => by simp [PyData.eqvAll]
  | d :: ds => by simp [PyData.eqvAll]
section
variable {σ : L2.St} {H H' : Hp} {ta tb tc td ty tv te tl : TE} {D : Ends} {tz : L2.TS} {P : PV}
/-- l != [] -/
theorem ev_neNil {l : Addr} {vs : List V} {ds : List PyData} (ha : Ev ta σ H (isV (.ref l))) (hl : H l = some (.lst vs)) (hd : ∀ H1, Same H H1 → DpAll K H1 vs ds) (hs : SeqAt.shaped (.list ds) = true) : Ev (tOp (rNeD K) ta (tLst tNil)) σ H (isV (.bl (!vs.isEmpty))) := by
  have hlen : ∀ {vs : List V} {ds : List PyData} {H1 : Hp}, DpAll K H1 vs ds → vs.isEmpty = ds.isEmpty := fun h => by cases h <;> rfl
  have hb : Ev (tLst tNil) σ H (Li K []) := EvL.li (xs := []) el_nil
  exact ev_op md_isV ha hb fun x y H1 e p1 p2 Q q => by
    have d1 := hd H1 e
    refine ⟨.list ds, .list [], ?_, dp_li (xs := []) p2, hs, shaped_list [], q _ H1 (Same.refl _) ?_⟩
    · rw [show x = .ref l from p1]; exact .lst (SqL.of (e _ _ hl)) d1
    · rw [PyData.eqv, eqvAll_nil, hlen d1]; rfl
theorem q_pop {n : Nat} {l : Addr} {xs : List V} {y : V} (ha : Ev ta σ H (isV (.ref l))) (hl : H l = some (.lst (xs ++ [y]))) (k : ∀ H1, Same H H1 → tz D (σ.set n (some y)) (upd H1 l (.lst xs))) :
    tSeq (tAsg (tBM0 K "list" rPop ta) (gName n)) tz D σ H := ha.run H (Same.refl _) _ fun x H1 e1 p => by
  rw [show x = .ref l from p]
  exact ⟨.inl ⟨rfl, _, SqL.of (e1 _ _ hl)⟩, l, xs ++ [y], y, rfl, rfl, e1 _ _ hl, by simp, by rw [List.dropLast_concat]; exact k H1 e1⟩
theorem s_ext {l : Addr} {xs : List V} {P1 P2 : PV} (hl : H l = some (.lst xs)) (ha : Ev ta σ H (isV (.ref l))) (h : Ev te σ H (Tds [P1, P2])) (m1 : Md P1) (m2 : Md P2) (hz : xs.length < 90000) (k : ∀ v w H1, Same H H1 → P1 v H1 → P2 w H1 → D.nx σ (upd H1 l (.lst (xs ++ [v, w])))) :
    tDrop (tBM K "list" rExtendT ta (tCons te tNil)) D σ H :=
  ha.run H (Same.refl _) _ fun x H1 e1 p => by
    rw [show x = .ref l from p]
    refine ⟨.inl ⟨rfl, _, SqL.of (e1 _ _ hl)⟩, h.run H1 e1 _ fun v H2 e2 ⟨a, vs, e3, h3, h4⟩ => ?_⟩
    obtain ⟨x, y, rfl, h5, h6⟩ := all2_2 h4
    exact ⟨l, a, xs, [x, y], rfl, by rw [e3], e2 _ _ (e1 _ _ hl), h3, sz_of (by simp; omega), k x y H2 (e1.trans e2) h5 h6⟩
end
section
variable {P : Program} {w : World} {mg : Str → Option Value} {base : Heap}
abbrev s_thinned : Stmt := topS 43
abbrev N_thinned : List Str := ["one", "prime", "at", "part"]
theorem sc_thinned : FnScope N_thinned ["one", "prime"] (defScope s_thinned) := ⟨rfl, rfl, rfl, by decide +kernel, rfl, by decide +kernel, by decide +kernel⟩

def p_thinned (K : PySem.W.Frag) : Sp := Pf (fun a : List Int × Int => [Ti K a.1, isV (.int a.2)]) (fun a => 0 < a.2 ∧ a.1.length ≤ 5000) (fun a => Ts (thinned a.1 a.2))
theorem given_thin (L : List Int) (p : Int) : given L.length (fun i => decide ((i : Int) % p = 0)) (fun i => isV (.int (L.getD i 0))) = (thinned L p).map fun x => isV (.int x) := by
  have h : L.zipIdx = (List.range L.length).map fun i => (L.getD i 0, i) := by
    apply List.ext_getElem
    · rw [List.length_zipIdx, List.length_map, List.length_range]
    · intro i h1 h2
      rw [List.getElem_zipIdx, List.getElem_map, List.getElem_range]
      rw [List.length_zipIdx] at h1
      rw [List.getD_eq_getElem?_getD, List.getElem?_eq_getElem h1]; simp
  rw [given, thinned, h, List.filter_map, List.map_map, List.map_map]
  rfl
theorem ok_thinned (D : Df K mg "thinned" s_thinned ["one", "prime"]) (Bt : Bts mg) (Gb : Gbs K mg)  : Cal P w K mg base 1 "thinned" (p_thinned K) := by
  refine cal_of D sc_thinned (fun vs H Q E ⟨a, _, h, _⟩ => h.len) fun f cdv A outer s H vs Q E hr ⟨⟨xs, p⟩, ⟨hp, hl⟩, hds, q⟩ => ?_
  dsimp only at *
  obtain ⟨x1, x2, rfl, hx, rfl⟩ := all2_2 hds
  refine ⟨_, (pss_one (ps_ret (pe_callTy (call_tupK (K := K)) (by rfl) Bt.tuple (by decide +kernel) (pa_cons (pe_lc (own := [("at", 2), ("part", 3)]) rfl sc_thinned.nd (pi_enumT (by rfl) Bt.enumerate (pa_cons (pv 0) pa_nil)) (blkOk_by (N := N_thinned) (sc := defScope s_thinned) (by decide +kernel)) (fun _ _ _ _ _ => (pg_tupK (K := K) (n := 2) rfl (pgs_cons (pg_name (i := 2) sc_thinned.nd rfl (by first | exact .inl rfl | exact .inr rfl)) (pgs_cons (pg_name (i := 3) sc_thinned.nd rfl (by first | exact .inl rfl | exact .inr rfl)) pgs_nil)))) (fun _ _ _ _ _ => (pts_one (pt_cmpR op_eq (pe_op op_mod (pv 2) (pv 1)) pe_int (nomark _)))) (fun _ _ _ _ _ => (pv 3))) pa_nil)))), ?_⟩
  refine s_ret (ev_tupleS (ElD.li (xs := thinned xs p) ?_)) fun v H1 e r => q v H1 e r
  rw [← given_thin]
  refine eld_lc (ei_enumTI (ev_v 0 Ti.mono rfl hx)) (by omega) _ _ (fun _ _ => mk_isV) ?_
  rintro i x H2 hi s2 ⟨T, y1, y2, ex, hT, h3, h4⟩
  obtain ⟨b, eb, rfl⟩ := nth_int h4
  obtain rfl := h3
  subst ex
  rw [getD_of eb]
  exact ⟨_, fun k hk => g_pair hT hk, rfl, EvT.is (et_test (ev_eq rfl (ev_I hp (ev_i 2 rfl) (ev_i 1 rfl)) ev_c)) (by simp), fun _ => ev_i 3 rfl⟩
theorem still_mem {rule : List Int} {p : Int} (u : Ru p rule) (h2 : 2 ≤ rule.length) : ∀ s ∈ stillOf rule p, s.length < rule.length := fun s hs => by
  rw [stillOf] at hs
  obtain ⟨r, hr, rfl⟩ := List.mem_map.mp hs
  have := ((still_ok u h2).row r hr).len
  have := cut_len r
  omega
theorem still_cnt (rule : List Int) (p : Int) : (stillOf rule p).length ≤ rule.length - 1 := by
  rw [stillOf, List.length_map]; exact idle_len _ _ _
abbrev s_halved : Stmt := topS 41
abbrev N_halved : List Str := ["one", "prime", "still", "rest", "part"]
theorem sc_halved : FnScope N_halved ["one", "prime"] (defScope s_halved) := ⟨rfl, rfl, rfl, by decide +kernel, rfl, by decide +kernel, by decide +kernel⟩

def p_halved (K : PySem.W.Frag) : Sp := Pf (fun a : List Int × Int => [Ti K a.1, isV (.int a.2)]) (fun a => Ru a.2 a.1 ∧ 2 ≤ a.1.length ∧ a.1.length ≤ 50) (fun a => HvD (halved a.1 a.2))
theorem ok_halved (D : Df K mg "halved" s_halved ["one", "prime"]) (Bt : Bts mg) (Gb : Gbs K mg) (c_blended : Cal P w K mg base 2 "blended" (p_blended K)) (c_divided : Cal P w K mg base 3 "divided" (p_divided K)) (c_shared : Cal P w K mg base 4 "shared" (p_shared K)) (c_still_of : Cal P w K mg base 7 "still_of" (p_still_of K)) : Cal P w K mg base 8 "halved" (p_halved K) := by
  refine cal_of D sc_halved (fun vs H Q E ⟨a, _, h, _⟩ => h.len) fun f cdv A outer s H vs Q E hr ⟨⟨one, p⟩, ⟨u, h2, hl⟩, hds, q⟩ => ?_
  dsimp only at *
  obtain ⟨x1, x2, rfl, hx, rfl⟩ := all2_2 hds
  have hp := u.pr
  have bd := hp.bd
  refine ⟨_, (pss_cons (ps_for PassesOwn.never rfl (pi_list (pe_d c_still_of hr (by decide) (by rfl) (pa_cons (pv 0) (pa_cons (pv 1) pa_nil)))) (pg_name (i := 2) sc_halved.nd rfl (by first | exact .inl rfl | exact .inr rfl)) (pss_one (ps_if (pt_cmpR op_gt (pe_callB (call_lenK (K := K)) (by rfl) Bt.len PySem.boot_len (pa_cons (pv 2) pa_nil)) pe_int (nomark _)) (pss_one (ps_for PassesOwn.never rfl (pi_range1 (by rfl) Bt.range (pa_cons (pv 1) pa_nil)) (pg_name (i := 3) sc_halved.nd rfl (by first | exact .inl rfl | exact .inr rfl)) (pss_cons (ps_set (i := 4) sc_halved.nd rfl (by first | exact .inl rfl | exact .inr rfl) (pe_ix (ix_tupK (K := K)) (pe_d c_shared hr (by decide) (by rfl) (pa_cons (pv 0) (pa_cons (pe_d c_blended hr (by decide) (by rfl) (pa_cons (pv 2) (pa_cons (pe_tup (pa_cons pe_int pa_nil)) (pa_cons (pe_op op_sub (pv 1) (pv 3)) (pa_cons (pv 1) pa_nil))))) (pa_cons (pv 1) pa_nil)))) pe_int (fun _ _ => rfl)))
      (pss_one (ps_if (pt_chain op_lt op_lt pe_int (pe_callB (call_lenK (K := K)) (by rfl) Bt.len PySem.boot_len (pa_cons (pv 4) pa_nil)) (pe_callB (call_lenK (K := K)) (by rfl) Bt.len PySem.boot_len (pa_cons (pv 0) pa_nil))) (pss_one (ps_ret (pe_tup (pa_cons (pv 4) (pa_cons (pe_ix (ix_tupK (K := K)) (pe_d c_divided hr (by decide) (by rfl) (pa_cons (pv 0) (pa_cons (pv 4) (pa_cons (pv 1) pa_nil)))) pe_int (fun _ _ => rfl)) pa_nil))))) pss_nil))))) pss_nil)))
      (pss_one (ps_ret pe_non))), ?_⟩
  refine q_forM (ei_new (el_still (ev_v 0 Ti.mono rfl hx) (ev_i 1 rfl) u h2 hl) ts_md) [] (fun _ h => (by cases h)) (fun _ h => (by cases h)) (fun i σ' H' => ∃ c2 c3 c4 : Option V, σ' = [some x1, some (.int p), c2, c3, c4] ∧ Same H H' ∧ hvOut one p ((stillOf one p).drop i) = halved one p)
    (fun B e => ⟨_, _, _, rfl, e, rfl⟩) ?_ ?_
  · rintro T kp i σ' H' hi hT ⟨c2, c3, c4, rfl, sm, eq⟩ x H'' s2 hx2 hT2
    rw [List.length_map] at hi
    obtain ⟨s, hs, hst⟩ := nth_map hx2
    rw [List.drop_eq_getElem_cons hi, (List.getElem?_eq_some_iff.mp hs).2, hvOut] at eq
    have sl := still_mem u h2 s (List.mem_of_getElem? hs)
    refine s_when (et_test (ev_I0 (ev_lenT (ev_v 2 Ts.mk.md rfl hst).ti) ev_c)) (fun hb H3 s3 => ?_) (fun hb H3 s3 => ?_)
    · have h1 : 1 < s.length := by have z := of_decide_eq_true hb; omega
      rw [if_pos h1] at eq
      have hst := Ts.mk.md _ _ _ s3 hst
      have hT3 := kp.same _ _ s3 hT2
      refine s_forM (ei_range (n := p.toNat) (Ev.is (ev_i 1 rfl) (by rw [hp.cast])) (by omega)) [] (fun _ h => (by cases h)) (fun _ h => (by cases h)) (fun j σ' H' => T H' ∧ ∃ c3 c4 : Option V, σ' = [some x1, some (.int p), some x, c3, c4] ∧ Same H3 H' ∧ hvIn one s p ((List.range p.toNat).drop j) = hvIn one s p (List.range p.toNat))
        (fun B e => ⟨kp.same _ _ e hT3, _, _, rfl, e, rfl⟩) ?_ ?_
      · rintro T' kp' j σ' H4 hj hT' ⟨hT4, d3, d4, rfl, sm4, eq4⟩ x H5 s5 rfl hT5
        have hx5 := Ti.mono _ _ _ ((((sm.trans s2).trans s3).trans sm4).trans s5) hx
        have hst5 := Ts.mk.md _ _ _ (sm4.trans s5) hst
        have hrd : (List.range p.toNat).drop j = j :: (List.range p.toNat).drop (j + 1) := by
          rw [List.drop_eq_getElem_cons (by rw [List.length_range]; exact hj), List.getElem_range]
        rw [hrd, hvIn] at eq4
        have cb := cn_blended (p := p) (by omega) s [1] (p - (j : Int))
        have lb := len_blended (p := p) s [1] (p - (j : Int))
        have G := gcd_ok hp u.cn cb
        refine q_set (ev_f0 (ev_shared (ev_v 0 Ti.mono rfl hx5) (ev_blended (wt := p - (j : Int)) (ev_v 2 Ts.mk.md rfl hst5).ti (ev_t1 ev_c).ti (ev_I0 (ev_i 1 rfl) (ev_i 3 rfl)) (ev_i 1 rfl) (by omega) (by omega) (by simp) (by omega) (by omega)).ti (ev_i 1 rfl) hp u.cn cb (by omega) (by simp at lb; omega)) ev_c) fun v6 H6 s6 h6 => ?_
        generalize hsh : (shared one (blended s [1] (p - (j : Int)) p) p).1 = part at *
        have hx6 := Ti.mono _ _ _ s6 hx5
        refine s_when (et_test (ev_chain ev_c (ev_lenT (ev_v 4 Tq.mk.md rfl h6).tq) (ev_lenT (ev_v 0 Ti.mono rfl hx6)))) (fun hb H7 s7 => ?_) (fun hb H7 s7 => ?_)
        · have hc : 1 < part.length ∧ part.length < one.length := by
            simp at hb
            omega
          have ne : part ≠ [] := fun z => by rw [z] at hc; simp at hc
          rw [if_pos hc] at eq4
          rw [← eq4] at eq
          have h7 := Tq.mk.md _ _ _ s7 h6
          refine s_ret (ev_tupS (ea_cons (ev_v 4 Ts.mk.md rfl (h7.2 ne)) (ea_cons (ev_ixT (n := 0) ((ev_divided (ev_v 0 Ti.mono rfl (Ti.mono _ _ _ s7 hx6)) (ev_v 4 Tq.mk.md rfl h7).tq (ev_i 1 rfl) hp (hsh ▸ G.c1.rg) ne (by omega) (by omega)).tdd tsts_md) ev_c rfl Ts.mk.md) ea_nil))) fun v8 H8 s8 h8 => q v8 H8 (((((((sm.trans s2).trans s3).trans sm4).trans s5).trans s6).trans s7).trans s8) ?_
          rw [← eq]; exact h8
        · have hc : ¬ (1 < part.length ∧ part.length < one.length) := by
            simp at hb
            omega
          rw [if_neg hc] at eq4
          have s57 := (s5.trans s6).trans s7
          exact ⟨kp'.same _ _ (s6.trans s7) hT5, kp.same _ _ s57 hT4, _, _, rfl, sm4.trans s57, eq4⟩
      · rintro σ' H4 fr ⟨hT4, d3, d4, rfl, sm4, eq4⟩
        rw [List.drop_eq_nil_of_le (by rw [List.length_range]; exact Nat.le_refl _), hvIn] at eq4
        rw [← eq4] at eq
        exact ⟨hT4, _, _, _, rfl, ((sm.trans s2).trans s3).trans sm4, eq⟩
    · have h1 : ¬ 1 < s.length := by have z := of_decide_eq_false hb; omega
      rw [if_neg h1] at eq
      exact ⟨kp.same _ _ s3 hT2, _, _, _, rfl, (sm.trans s2).trans s3, eq⟩
  · rintro σ' H' fr ⟨c2, c3, c4, rfl, sm, eq⟩
    rw [List.length_map, List.drop_eq_nil_of_le (Nat.le_refl _), hvOut] at eq
    refine s_ret ev_c fun v H3 s3 h3 => q v H3 (sm.trans s3) ?_
    rw [← eq]; exact h3
section
variable {σ : L2.St} {H : Hp} {ta tb tc td : TE} {E : XK}
theorem ev_thinned {xs : List Int} {p : Int} (ha : Ev ta σ H (Ti K xs)) (hb : Ev tb σ H (isV (.int p))) (hp : 0 < p) (hl : xs.length ≤ 5000) : Ev (tCall (p_thinned K) [] E (tCons ta (tCons tb tNil))) σ H (Ts (thinned xs p)) :=
  ev_call (xs, p) (ea_cons ha (ea_cons hb ea_nil)) ⟨hp, hl⟩ Ts.mk.md
theorem ev_halved {one : List Int} {p : Int} (ha : Ev ta σ H (Ti K one)) (hb : Ev tb σ H (isV (.int p))) (u : Ru p one) (h2 : 2 ≤ one.length) (hl : one.length ≤ 50) : Ev (tCall (p_halved K) [] E (tCons ta (tCons tb tNil))) σ H (HvD (halved one p)) :=
  ev_call (one, p) (ea_cons ha (ea_cons hb ea_nil)) ⟨u, h2, hl⟩ HvD.mk.md
end
abbrev s_stands_whole : Stmt := topS 46
abbrev N_stands_whole : List Str := ["one", "prime", "rest"]
theorem sc_stands_whole : FnScope N_stands_whole ["one", "prime"] (defScope s_stands_whole) := ⟨rfl, rfl, rfl, by decide +kernel, rfl, by decide +kernel, by decide +kernel⟩

def p_stands_whole (K : PySem.W.Frag) : Sp := Pf (fun a : List Int × Int => [Ti K a.1, isV (.int a.2)]) (fun a => Ru a.2 a.1 ∧ 2 ≤ a.1.length ∧ a.1.length ≤ 50) (fun a => isV (.bl (standsWhole a.1 a.2)))
theorem ok_stands_whole (D : Df K mg "stands_whole" s_stands_whole ["one", "prime"]) (Bt : Bts mg) (Gb : Gbs K mg) (c_shared : Cal P w K mg base 4 "shared" (p_shared K)) (c_worth_at : Cal P w K mg base 1 "worth_at" (p_worth_at K)) (c_sloped : Cal P w K mg base 2 "sloped" (p_sloped K)) (c_still_of : Cal P w K mg base 7 "still_of" (p_still_of K)) : Cal P w K mg base 8 "stands_whole" (p_stands_whole K) := by
  refine cal_of D sc_stands_whole (fun vs H Q E ⟨a, _, h, _⟩ => h.len) fun f cdv A outer s H vs Q E hr ⟨⟨one, p⟩, ⟨u, h2, hl⟩, hds, q⟩ => ?_
  dsimp only at *
  obtain ⟨x1, x2, rfl, hx, rfl⟩ := all2_2 hds
  have hp := u.pr
  have bd := hp.bd
  have sl := sloped_len (p := p) one
  refine ⟨_, (pss_cons (ps_if (pt_cmpR op_eq (pe_callB (call_lenK (K := K)) (by rfl) Bt.len PySem.boot_len (pa_cons (pv 0) pa_nil)) pe_int (nomark _)) (pss_one (ps_ret pe_bl)) pss_nil)
      (pss_cons (ps_if (pt_val (pe_callB (cr_anyK (K := K) rfl) (by rfl) Bt.any (by decide +kernel) (pa_cons (pe_lc (own := [("rest", 2)]) rfl sc_stands_whole.nd (pi_range1 (by rfl) Bt.range (pa_cons (pv 1) pa_nil)) (blkOk_by (N := N_stands_whole) (sc := defScope s_stands_whole) (by decide +kernel)) (fun _ _ _ _ _ => (pg_name (i := 2) sc_stands_whole.nd rfl (by first | exact .inl rfl | exact .inr rfl))) (fun _ _ _ _ _ => pts_nil) (fun _ _ _ _ _ => (pe_cmpR op_eq (pe_d c_worth_at hr (by decide) (by rfl) (pa_cons (pv 0) (pa_cons (pv 2) (pa_cons (pv 1) pa_nil)))) pe_int (nomark _)))) pa_nil))) (pss_one (ps_ret pe_bl)) pss_nil)
      (pss_cons (ps_if (pt_cmpR (op_neDK (K := K) hr.units) (pe_ix (ix_tupK (K := K)) (pe_d c_shared hr (by decide) (by rfl) (pa_cons (pv 0) (pa_cons (pe_d c_sloped hr (by decide) (by rfl) (pa_cons (pv 0) (pa_cons (pv 1) pa_nil))) (pa_cons (pv 1) pa_nil)))) pe_int (fun _ _ => rfl)) (pe_tup (pa_cons pe_int pa_nil)) (nomark _)) (pss_one (ps_ret pe_bl)) pss_nil)
      (pss_one (ps_ret (pe_cmpR op_eq (pe_callB (call_lenK (K := K)) (by rfl) Bt.len PySem.boot_len (pa_cons (pe_d c_still_of hr (by decide) (by rfl) (pa_cons (pv 0) (pa_cons (pv 1) pa_nil))) pa_nil)) pe_int (nomark _))))))), ?_⟩
  refine q_when (et_test (ev_eq (x := .int one.length) (y := .int 2) rfl (ev_lenT (ev_v 0 Ti.mono rfl hx)) ev_c)) (fun hb H1 s1 => ?_) (fun hb H1 s1 => ?_)
  · have : one.length = 2 := by simp at hb; omega
    refine s_ret ev_c fun v H2 s2 h2 => q v H2 (s1.trans s2) ?_
    rw [standsWhole, if_pos this]; exact h2
  have n2 : one.length ≠ 2 := by
    intro z
    rw [z] at hb; simp at hb
  have hx := Ti.mono _ _ _ s1 hx
  refine q_when (b := ((List.range p.toNat).map fun r : Nat => decide (worthAt one (r : Int) p = 0)).any id) (et_test (ev_any ?_)) (fun hb H2 s2 => ?_) (fun hb H2 s2 => ?_)
  · refine eld_lcD _ (ei_range (n := p.toNat) (Ev.is (ev_i 1 rfl) (by rw [hp.cast])) (by omega)) (by omega) (by rw [List.length_map, List.length_map, List.length_range]) bls_mk ?_
    rintro i x H2 d hd s2 rfl
    have hi : i < p.toNat := by
      have := (List.getElem?_eq_some_iff.mp hd).1
      rw [List.length_map, List.length_map, List.length_range] at this; exact this
    rw [List.getElem?_map, List.getElem?_map, List.getElem?_range hi] at hd
    obtain rfl : isV (.bl (decide (worthAt one (i : Int) p = 0))) = d := Option.some.inj hd
    exact ⟨_, fun k hk => hk, rfl, et_yes, Ev.is (ev_eq rfl (ev_worth (ev_v 0 Ti.mono rfl (Ti.mono _ _ _ s2 hx)) (ev_i 2 rfl) (ev_i 1 rfl) hp (by omega) (by omega)) ev_c) (by simp)⟩
  · refine s_ret ev_c fun v H3 s3 h3 => q v H3 ((s1.trans s2).trans s3) ?_
    rw [standsWhole, if_neg n2, if_pos (by rw [List.any_map] at hb; exact hb)]; exact h3
  have hb1 := hb
  rw [List.any_map] at hb1
  have hx := Ti.mono _ _ _ s2 hx
  refine q_when (et_test (ev_neT (ev_f0 (ev_shared (ev_v 0 Ti.mono rfl hx) (ev_sloped (ev_v 0 Ti.mono rfl hx) (ev_i 1 rfl) hp (by omega)).ti (ev_i 1 rfl) hp u.cn (cn_sloped hp.pos one) (by omega) (by omega)) ev_c).tq (ev_t1 ev_c).ti)) (fun hb H3 s3 => ?_) (fun hb H3 s3 => ?_)
  · refine s_ret ev_c fun v H4 s4 h4 => q v H4 (((s1.trans s2).trans s3).trans s4) ?_
    rw [standsWhole, if_neg n2, if_neg (by rw [Bool.not_eq_true]; exact hb1), if_pos (by simpa using hb)]; exact h4
  · have hx := Ti.mono _ _ _ s3 hx
    refine s_ret (Ev.is (ev_eq (x := .int (stillOf one p).length) (y := .int 1) rfl (Ev.is (ev_lenLD ((el_still (ev_v 0 Ti.mono rfl hx) (ev_i 1 rfl) u h2 hl).ld fun d hd => (ts_md d hd).md)) (by rw [List.length_map])) ev_c) (y := .bl (decide ((stillOf one p).length = 1))) ?_) fun v H4 s4 h4 => q v H4 (((s1.trans s2).trans s3).trans s4) ?_
    · congr 1
      apply decide_eq_decide.mpr
      constructor
      · intro h; have := V.int.inj h; omega
      · intro h; rw [h]; rfl
    · rw [standsWhole, if_neg n2, if_neg (by rw [Bool.not_eq_true]; exact hb1), if_neg (by simpa using hb)]; exact h4
section
variable {σ : L2.St} {H : Hp} {ta tb tc td : TE} {E : XK}
theorem ev_stands {one : List Int} {p : Int} (ha : Ev ta σ H (Ti K one)) (hb : Ev tb σ H (isV (.int p))) (u : Ru p one) (h2 : 2 ≤ one.length) (hl : one.length ≤ 50) : Ev (tCall (p_stands_whole K) [] E (tCons ta (tCons tb tNil))) σ H (isV (.bl (standsWhole one p))) :=
  ev_call (one, p) (ea_cons ha (ea_cons hb ea_nil)) ⟨u, h2, hl⟩ md_isV
end
end
end Rw
end
section
set_option maxRecDepth 100000
set_option maxHeartbeats 4000000
namespace Rw
open PySem PySem.Spec PyProof.Rows L2 Rf
variable {K : PySem.W.Frag}
section
variable {σ : L2.St} {H H' : Hp} {ta tb tc td ty tv te tl : TE} {D : Ends} {tz : L2.TS}
theorem et_isN {o : Option (List Int × List Int)} (h : Ev te σ H (HvD o)) : EvT (tB (tIsN te)) σ H o.isNone := fun H1 e Q q => h.run H1 e _ fun v H2 e2 p => ⟨o.isNone, by
  cases o with
  | none => rw [show v = .non from p]; rfl
  | some x =>
    obtain ⟨a, vs, e3, _⟩ := p
    rw [e3]; rfl, q H2 e2⟩
end
theorem all2_split {H : Hp} : ∀ {ds es : List PV} {vs us : List V}, All2 (ds ++ es) (vs ++ us) H → vs.length = ds.length → All2 ds vs H ∧ All2 es us H
  | [], es, [], us, h, _ => ⟨trivial, h⟩
  | d :: ds, es, v :: vs, us, h, l => by
    obtain ⟨a, b⟩ := all2_split (ds := ds) (vs := vs) h.2 (by simpa using l)
    exact ⟨⟨h.1, a⟩, b⟩
  | [], _, _ :: _, _, _, l => by simp at l
  | _ :: _, _, [], _, _, l => by simp at l
theorem ms_cons (x : List Int) (l : List (List Int)) : ms (x :: l) = (2 * x.length - 3) + ms l := by simp [ms]
theorem ms_len : ∀ l : List (List Int), (∀ x ∈ l, 2 ≤ x.length) → l.length ≤ ms l
  | [], _ => Nat.zero_le _
  | x :: l, h => by
    rw [ms_cons, List.length_cons]
    have := ms_len l fun y hy => h y (List.mem_cons_of_mem _ hy)
    have := h x List.mem_cons_self
    omega
section
variable {P : Program} {w : World} {mg : Str → Option Value} {base : Heap}
abbrev s_pieces_of : Stmt := topS 42
abbrev N_pieces_of : List Str := ["one", "prime", "found", "line", "part", "both"]
theorem sc_pieces_of : FnScope N_pieces_of ["one", "prime"] (defScope s_pieces_of) := ⟨rfl, rfl, rfl, by decide +kernel, rfl, by decide +kernel, by decide +kernel⟩

def p_pieces_of (K : PySem.W.Frag) : Sp := PfL (fun a : List Int × Int => [Ts a.1, isV (.int a.2)]) (fun a => PR a.2 ∧ Mo a.2 a.1 ∧ 2 ≤ a.1.length ∧ a.1.length ≤ 50) (fun a => (piecesOf a.1 a.2).map Ts)
theorem pcL_nil (p : Int) (k : Nat) (found : List (List Int)) : pcL p k [] found = found := by cases k <;> rfl
theorem reverse_snoc {α : Type} (a : α) (l : List α) : (a :: l).reverse = l.reverse ++ [a] := by simp
theorem ok_pieces_of (D : Df K mg "pieces_of" s_pieces_of ["one", "prime"]) (Bt : Bts mg) (Gb : Gbs K mg) (c_halved : Cal P w K mg base 8 "halved" (p_halved K)) : Cal P w K mg base 9 "pieces_of" (p_pieces_of K) := by
  refine cal_of D sc_pieces_of (fun vs H Q E ⟨a, _, h, _⟩ => h.len) fun f cdv A outer s H vs Q E hr ⟨⟨one, p⟩, ⟨hp, mo, h2, hl⟩, hds, q⟩ => ?_
  dsimp only at *
  obtain ⟨x1, x2, rfl, hx, rfl⟩ := all2_2 hds
  have bd := hp.bd
  refine ⟨_, (pss_cons (ps_set (i := 2) sc_pieces_of.nd rfl (by first | exact .inl rfl | exact .inr rfl) (pe_lst pa_nil))
      (pss_cons (ps_set (i := 3) sc_pieces_of.nd rfl (by first | exact .inl rfl | exact .inr rfl) (pe_lst (pa_cons (pv 0) pa_nil)))
      (pss_cons (ps_while PassesOwn.never (pt_cmpR (op_neDK (K := K) hr.units) (pv 3) (pe_lst pa_nil) (nomark _)) (pss_cons (ps_set (i := 4) sc_pieces_of.nd rfl (by first | exact .inl rfl | exact .inr rfl) (pe_bm0 PySem.F.plainAttrs_list PySem.F.slot_list_pop PySem.F.type_list_pop mt_pop (pv 3)))
      (pss_cons (ps_set (i := 5) sc_pieces_of.nd rfl (by first | exact .inl rfl | exact .inr rfl) (pe_ifExp (pt_cmpR op_gt (pe_callB (call_lenK (K := K)) (by rfl) Bt.len PySem.boot_len (pa_cons (pv 4) pa_nil)) pe_int (nomark _)) (pe_d c_halved hr (by decide) (by rfl) (pa_cons (pv 4) (pa_cons (pv 1) pa_nil))) pe_non))
      (pss_one (ps_if (pt_cmp (pc_isN (pv 5))) (pss_one (ps_expr (pe_bm PySem.F.plainAttrs_list PySem.F.slot_list_append PySem.F.type_list_append mt_append (pv 2) (pa_cons (pv 4) pa_nil)))) (pss_one (ps_expr (pe_bm PySem.F.plainAttrs_list PySem.F.slot_list_extend PySem.F.type_list_extend mt_extendT (pv 3) (pa_cons (pv 5) pa_nil)))))))))
      (pss_one (ps_ret (pv 2)))))), ?_⟩
  refine q_setL el_nil fun lf H1 n1 s1 e1 => ?_
  have hx := Ts.mk.md _ _ _ s1 hx
  refine q_setD (eld_lst (ea_cons (ev_v 0 Ts.mk.md rfl hx) ea_nil)) fun ll us H2 n2 s2 e2 al => ?_
  have hx := Ts.mk.md _ _ _ s2 hx
  have nfl : lf ≠ ll := fun z => by rw [z, n2] at e1; cases e1
  have e1 := s2 _ _ e1
  refine q_while (fun m σ H' => ∃ (line found : List (List Int)) (vl vf : List V) (c4 c5 : Option V), σ = [some x1, some (.int p), some (.ref lf), some (.ref ll), c4, c5] ∧ Fr [lf, ll] H2 H' ∧ H' ll = some (.lst vl) ∧ H' lf = some (.lst vf) ∧
      All2 (line.reverse.map Ts) vl H' ∧ All2 (found.map Ts) vf H' ∧ ms line ≤ m ∧ (∀ x ∈ line, PcOk p one one.length x) ∧ found.length + ms line ≤ 1000 ∧ pcL p m line found = piecesOf one p) (2 * one.length)
    ⟨[one], [], us, [], _, _, rfl, Fr.refl _, e2, e1, al, trivial, by simp only [ms, List.map_cons, List.map_nil, List.sum_cons, List.sum_nil, List.length_nil]; omega, fun x hx => by rw [List.mem_singleton.mp hx]; exact ⟨mo, Dv.refl _, h2, Nat.le_refl _⟩, by simp only [ms, List.map_cons, List.map_nil, List.sum_cons, List.sum_nil, List.length_nil]; omega, rfl⟩ ?_
  rintro m σ' H' ⟨line, found, vl, vf, c4, c5, rfl, fr, el, ef, avl, avf, hm, hpc, hcnt, eq⟩
  have lvl := avl.len
  have lvf := avf.len
  rw [List.length_map] at lvl lvf
  rw [List.length_reverse] at lvl
  have mu := muts2 e1 e2
  refine ⟨_, et_test (ev_neNil (ev_i 3 rfl) el (fun H3 s3 => dp_tss (avl.mono s3 fun d hd => (ts_md d hd).md)) (shaped_tss _)), fun hb H3 s3 => ?_, fun hb H3 s3 => ?_⟩
  · cases line with
    | nil => simp at lvl; rw [lvl] at hb; simp at hb
    | cons part rest =>
      have o := hpc part List.mem_cons_self
      have lo := o.lo
      have hi := o.hi
      rw [ms_cons] at hm hcnt
      obtain ⟨k, rfl⟩ : ∃ k, m = k + 1 := ⟨m - 1, by omega⟩
      rw [pcL] at eq
      obtain ⟨vr, vp, rfl⟩ : ∃ vr vp, vl = vr ++ [vp] := by
        have : vl ≠ [] := fun z => by rw [z] at lvl; simp at lvl
        exact ⟨_, _, (List.dropLast_concat_getLast this).symm⟩
      have avl3 := avl.mono s3 fun d hd => (ts_md d hd).md
      have avf3 := avf.mono s3 fun d hd => (ts_md d hd).md
      rw [reverse_snoc, List.map_append] at avl3
      have lvr : vr.length = rest.length := by simpa using lvl
      obtain ⟨ar, ap⟩ := all2_split avl3 (by rw [List.length_map, List.length_reverse, lvr])
      refine q_pop (ev_i 3 rfl) (s3 _ _ el) fun H4 s4 => ?_
      have el4 := s4 _ _ (s3 _ _ el)
      have tk : Tk H4 (upd H4 ll (.lst vr)) := Tk.upd el4 trivial
      have ar5 := ar.mk ((Tk.of s4).trans tk) ts_md
      have ap5 := Ts.mk _ _ _ ((Tk.of s4).trans tk) ap.1
      have af5 := avf3.mk ((Tk.of s4).trans tk) ts_md
      have e5l : (upd H4 ll (.lst vr)) ll = some (.lst vr) := upd_same
      have e5f : (upd H4 ll (.lst vr)) lf = some (.lst vf) := by rw [upd_ne nfl]; exact s4 _ _ (s3 _ _ ef)
      have fr5 : Fr [lf, ll] H2 (upd H4 ll (.lst vr)) := (fr.trans (Fr.of (s3.trans s4))).trans (Fr.upd (by simp))
      generalize upd H4 ll (.lst vr) = H5 at ar5 ap5 af5 e5l e5f fr5 ⊢
      have uu := o.mo.ru hp
      refine q_set (P := HvD (if 2 < part.length then halved part p else none)) (ev_if (b := decide ((2 : Int) < part.length)) (et_test (Ev.is (ev_I0 (ev_lenT (ev_v 4 Ts.mk.md rfl ap5).ti) ev_c) rfl)) HvD.mk.md (fun hb2 => ?_) (fun hb2 => ?_)) fun v6 H6 s6 h6 => ?_
      · have z := of_decide_eq_true hb2
        rw [if_pos (by omega)]
        exact ev_halved (ev_v 4 Ts.mk.md rfl ap5).ti (ev_i 1 rfl) uu lo (by omega)
      · have z := of_decide_eq_false hb2
        rw [if_neg (by omega)]
        exact ev_c.to HvD.mk.md fun v H h => h
      have ap6 := Ts.mk.md _ _ _ s6 ap5
      have ar6 := ar5.mono s6 fun d hd => (ts_md d hd).md
      have af6 := af5.mono s6 fun d hd => (ts_md d hd).md
      have e6l := s6 _ _ e5l
      have e6f := s6 _ _ e5f
      have fr6 := fr5.trans (Fr.of s6)
      cases hh : (if 2 < part.length then halved part p else none) with
      | none =>
        rw [hh] at eq h6
        simp only [] at eq
        refine s_if (et_isN (ev_v 5 (HvD.mk (o := none)).md rfl h6)) (fun _ H7 s7 => ?_) (fun hn => by cases hn)
        refine s_app (s7 _ _ e6f) (ev_i 2 rfl) (ev_v 4 Ts.mk.md rfl (Ts.mk.md _ _ _ s7 ap6)) (by omega) fun v8 H8 s8 h8 => ?_
        have e8f := s8 _ _ (s7 _ _ e6f)
        have tk8 : Tk H8 (upd H8 lf (.lst (vf ++ [v8]))) := Tk.upd e8f trivial
        refine ⟨k, Nat.lt_succ_self _, rest, found ++ [part], vr, vf ++ [v8], _, _, rfl, (fr6.trans (Fr.of (s7.trans s8))).trans (Fr.upd (by simp)), by rw [upd_ne (Ne.symm nfl)]; exact s8 _ _ (s7 _ _ e6l), upd_same, ar6.mk ((Tk.of (s7.trans s8)).trans tk8) ts_md, ?_, by omega, fun x hx => hpc x (List.mem_cons_of_mem _ hx), by rw [List.length_append]; simp; omega, eq⟩
        rw [List.map_append]
        exact All2.app (af6.mk ((Tk.of (s7.trans s8)).trans tk8) ts_md) ⟨Ts.mk _ _ _ tk8 h8, trivial⟩
      | some b =>
        obtain ⟨o1, o2, ln, _⟩ := pc_next hp o hh
        have := o1.lo
        have := o2.lo
        rw [hh] at eq h6
        simp only [] at eq
        refine s_if (et_isN (ev_v 5 (HvD.mk (o := some b)).md rfl h6)) (fun hn => by cases hn) (fun _ H7 s7 => ?_)
        refine s_ext (s7 _ _ e6l) (ev_i 3 rfl) (ev_v 5 (Tds.mono tsts_md) rfl (Tds.mono tsts_md _ _ _ s7 h6)) Ts.mk.md Ts.mk.md (by have := ms_len rest (fun x hx => (hpc x (List.mem_cons_of_mem _ hx)).lo); omega) fun v8 w8 H8 s8 h8 g8 => ?_
        have e8l := s8 _ _ (s7 _ _ e6l)
        have tk8 : Tk H8 (upd H8 ll (.lst (vr ++ [v8, w8]))) := Tk.upd e8l trivial
        refine ⟨k, Nat.lt_succ_self _, b.2 :: b.1 :: rest, found, vr ++ [v8, w8], vf, _, _, rfl, (fr6.trans (Fr.of (s7.trans s8))).trans (Fr.upd (by simp)), upd_same, by rw [upd_ne nfl]; exact s8 _ _ (s7 _ _ e6f), ?_, af6.mk ((Tk.of (s7.trans s8)).trans tk8) ts_md, by rw [ms_cons, ms_cons]; omega, fun x hx => ?_, by rw [ms_cons, ms_cons]; omega, eq⟩
        · rw [show (b.2 :: b.1 :: rest).reverse = rest.reverse ++ [b.1, b.2] by simp, List.map_append]
          exact All2.app (ar6.mk ((Tk.of (s7.trans s8)).trans tk8) ts_md) ⟨Ts.mk _ _ _ tk8 h8, Ts.mk _ _ _ tk8 g8, trivial⟩
        · rcases List.mem_cons.mp hx with z | hx
          · rw [z]; exact o2
          rcases List.mem_cons.mp hx with z | hx
          · rw [z]; exact o1
          · exact hpc x (List.mem_cons_of_mem _ hx)
  · cases line with
    | cons part rest =>
      have : vl ≠ [] := fun z => by rw [z] at lvl; simp at lvl
      cases vl with
      | nil => exact (this rfl).elim
      | cons a b => simp at hb
    | nil =>
      rw [pcL_nil] at eq
      have sm : Same H H' := fun a o h => fr a o (fun z => by
        rcases List.mem_cons.mp z with z | z
        · rw [z, n1] at h; cases h
        · rw [List.mem_singleton.mp z, s1.free n2] at h; cases h) (s2 _ _ (s1 _ _ h))
      refine s_ret (P := isV (.ref lf)) (ev_i 2 rfl) fun v H4 s4 h4 => ?_
      obtain rfl := h4
      rw [eq] at avf
      exact q lf vf H4 n1 (sm.trans (s3.trans s4)) (s4 _ _ (s3 _ _ ef)) (avf.mono (s3.trans s4) fun d hd => (ts_md d hd).md)
section
variable {σ : L2.St} {H : Hp} {ta tb tc td : TE} {E : XK}
theorem el_pieces {one : List Int} {p : Int} (ha : Ev ta σ H (Ts one)) (hb : Ev tb σ H (isV (.int p))) (hp : PR p) (mo : Mo p one) (h2 : 2 ≤ one.length) (hl : one.length ≤ 50) : ElD (tCall (p_pieces_of K) [] E (tCons ta (tCons tb tNil))) σ H ((piecesOf one p).map Ts) :=
  ev_callL (one, p) (ea_cons ha (ea_cons hb ea_nil)) ⟨hp, mo, h2, hl⟩
end
end
end Rw
end
section
set_option maxRecDepth 100000
set_option maxHeartbeats 4000000
namespace Rw
open PySem PySem.Spec PyProof.Rows L2 Rf
variable {K : PySem.W.Frag}
/-! dicts of tuple to int -/
def tk (l : List Int) : List Key := l.map Sum.inl
def bagK (f : Bag) : List (List Key × V) := f.map fun e => (tk e.1, V.int e.2)
def Dt (f : Bag) : PV := fun v H => ∃ d, v = .ref d ∧ H d = some (.dT (bagK f))
def DtL (f : Bag) : PV := fun v H => Dt f v H ∧ f.length ≤ 10000
theorem Dt.md {f : Bag} : Md (Dt f) := fun _ _ _ e ⟨d, a, b⟩ => ⟨d, a, e _ _ b⟩
theorem DtL.md {f : Bag} : Md (DtL f) := fun v H H' e ⟨a, b⟩ => ⟨Dt.md v H H' e a, b⟩
theorem tk_inj : ∀ {a b : List Int}, tk a = tk b → a = b
  | [], [], _ => rfl
  | x :: a, y :: b, h => by
    have h2 := List.cons.inj (show Sum.inl x :: tk a = Sum.inl y :: tk b from h)
    rw [Sum.inl.inj h2.1, tk_inj h2.2]
  | [], _ :: _, h => by cases h
  | _ :: _, [], h => by cases h
theorem tk_kV (l : List Int) : (tk l).map kV = l.map V.int := by rw [tk, List.map_map]; rfl
theorem tk_dec (a b : List Int) : decide (tk a = tk b) = decide (a = b) := decide_eq_decide.mpr ⟨tk_inj, fun h => by rw [h]⟩
theorem bag_get (l : List Int) : ∀ f : Bag, (valV (bagK f) (tk l)).getD (.int 0) = .int (bget f l)
  | [] => rfl
  | e :: f => by
    have ih := bag_get l f
    rw [valV] at ih ⊢
    rw [bagK, List.map_cons, List.find?_cons, tk_dec, bget]
    by_cases h : e.1 = l
    · simp [h]
    · simp only [h, decide_false, if_false]; exact ih
theorem bag_at : ∀ {f : Bag}, (f.map (·.1)).Nodup → ∀ {e : List Int × Int}, e ∈ f → valV (bagK f) (tk e.1) = some (.int e.2)
  | [], _, e, h => by simp at h
  | a :: f, nd, e, h => by
    rw [List.map_cons, List.nodup_cons] at nd
    rw [valV, bagK, List.map_cons, List.find?_cons, tk_dec]
    rcases List.mem_cons.mp h with z | z
    · subst z; simp
    · have : a.1 ≠ e.1 := fun q => nd.1 (q ▸ List.mem_map.mpr ⟨e, z, rfl⟩)
      simp only [this, decide_false]
      exact bag_at nd.2 z
theorem bput_keys (l : List Int) (v : Int) : ∀ f : Bag, (bput f l v).map (·.1) = if l ∈ f.map (·.1) then f.map (·.1) else f.map (·.1) ++ [l]
  | [] => rfl
  | e :: f => by
    rw [bput, List.map_cons]
    by_cases h : e.1 = l
    · rw [if_pos h, List.map_cons, if_pos (List.mem_cons.mpr (.inl h.symm)), h]
    · rw [if_neg h, List.map_cons, bput_keys l v f]
      by_cases h2 : l ∈ f.map (·.1)
      · rw [if_pos h2, if_pos (List.mem_cons.mpr (.inr h2))]
      · rw [if_neg h2, if_neg (fun q => (List.mem_cons.mp q).elim (fun z => h z.symm) h2)]; rfl
theorem bput_nodup {l : List Int} {v : Int} {f : Bag} (h : (f.map (·.1)).Nodup) : ((bput f l v).map (·.1)).Nodup := by
  rw [bput_keys]
  split
  · exact h
  · rename_i n
    rw [List.nodup_append]
    exact ⟨h, by simp, fun a ha b hb e => n (by rw [List.mem_singleton] at hb; rw [← hb, ← e]; exact ha)⟩
theorem bput_len (l : List Int) (v : Int) (f : Bag) : (bput f l v).length ≤ f.length + 1 := by
  have := congrArg List.length (bput_keys l v f)
  rw [List.length_map] at this
  rw [this]
  split <;> simp
theorem bag_put (l : List Int) (v : Int) : ∀ f : Bag, (f.map (·.1)).Nodup → putK (bagK f) (tk l) (.int v) = bagK (bput f l v) := by
  have hm : ∀ f : Bag, l ∉ f.map (·.1) → ((bagK f).map fun kv => if kv.1 = tk l then (kv.1, V.int v) else kv) = bagK f := by
    intro f hf
    rw [bagK, List.map_map]
    apply List.map_congr_left
    intro e he
    show (if tk e.1 = tk l then _ else _) = _
    rw [if_neg fun z => hf (List.mem_map.mpr ⟨e, he, tk_inj z⟩)]
  intro f nd
  rw [putK]
  split
  · rename_i h
    have : ∀ f : Bag, (f.map (·.1)).Nodup → l ∈ f.map (·.1) → ((bagK f).map fun kv => if kv.1 = tk l then (kv.1, V.int v) else kv) = bagK (bput f l v) := by
      intro f
      induction f with
      | nil => intro _ h; simp at h
      | cons e f ih =>
        intro nd h
        rw [List.map_cons, List.nodup_cons] at nd
        rw [bput]
        by_cases q : e.1 = l
        · rw [if_pos q]
          have := hm f (q ▸ nd.1)
          rw [show bagK (e :: f) = (tk e.1, V.int e.2) :: bagK f from rfl, List.map_cons, this, if_pos (by rw [q]), q]; rfl
        · rw [if_neg q]
          rw [show bagK (e :: f) = (tk e.1, V.int e.2) :: bagK f from rfl, List.map_cons, if_neg fun z => q (tk_inj z), ih nd.2 ((List.mem_cons.mp h).resolve_left fun z => q z.symm)]; rfl
    apply this f nd
    rw [List.any_eq_true] at h
    obtain ⟨x, hx, hx2⟩ := h
    rw [bagK] at hx
    obtain ⟨e, he, rfl⟩ := List.mem_map.mp hx
    have := tk_inj (of_decide_eq_true hx2)
    exact this ▸ List.mem_map.mpr ⟨e, he, rfl⟩
  · rename_i h
    have hn : l ∉ f.map (·.1) := fun q => h (by
      obtain ⟨e, he, ee⟩ := List.mem_map.mp q
      rw [List.any_eq_true]
      exact ⟨_, List.mem_map.mpr ⟨e, he, rfl⟩, decide_eq_true (by rw [← ee])⟩)
    have : ∀ f : Bag, l ∉ f.map (·.1) → bput f l v = f ++ [(l, v)] := by
      intro f
      induction f with
      | nil => intro _; rfl
      | cons e f ih =>
        intro h
        rw [List.map_cons, List.mem_cons] at h
        rw [bput, if_neg (fun z => h (.inl z.symm)), ih fun z => h (.inr z)]; rfl
    rw [this f hn, bagK, bagK, List.map_append]; rfl
theorem bfold_nodup (times : Int) : ∀ (ps : List (List Int)) (f : Bag), (f.map (·.1)).Nodup → ((ps.foldl (fun f piece => bput f piece (bget f piece + times)) f).map (·.1)).Nodup
  | [], _, h => h
  | x :: ps, f, h => bfold_nodup times ps _ (bput_nodup h)
theorem apL_nodup (p : Int) : ∀ (k : Nat) (line : List (List Int × Int)) (f : Bag), (f.map (·.1)).Nodup → ((apL p k line f).map (·.1)).Nodup
  | 0, _, _, h => by rw [apL]; exact h
  | k + 1, [], _, h => by rw [apL]; exact h
  | k + 1, (part, times) :: rest, f, h => by
    rw [apL]
    simp only []
    split
    · exact apL_nodup p k _ _ h
    · split
      · split
        · exact apL_nodup p k _ _ (bfold_nodup times _ _ h)
        · exact apL_nodup p k _ _ h
      · exact apL_nodup p k _ _ h
theorem pcL_len (p : Int) : ∀ (k : Nat) (line found : List (List Int)), (pcL p k line found).length ≤ found.length + k
  | 0, _, _ => by rw [pcL]; exact Nat.le_refl _
  | k + 1, [], _ => by rw [pcL]; omega
  | k + 1, part :: rest, found => by
    rw [pcL]
    split
    · have := pcL_len p k rest (found ++ [part])
      rw [List.length_append, List.length_singleton] at this
      omega
    · rename_i b _
      have := pcL_len p k (b.2 :: b.1 :: rest) found
      omega
theorem pieces_len (one : List Int) (p : Int) : (piecesOf one p).length ≤ 2 * one.length := by
  have := pcL_len p (2 * one.length) [one] []
  rw [piecesOf]; simpa using this
theorem bfold_len (times : Int) : ∀ (ps : List (List Int)) (f : Bag), (ps.foldl (fun f piece => bput f piece (bget f piece + times)) f).length ≤ f.length + ps.length
  | [], f => Nat.le_refl _
  | x :: ps, f => by
    rw [List.foldl_cons, List.length_cons]
    have h1 := bfold_len times ps (bput f x (bget f x + times))
    have h2 := bput_len x (bget f x + times) f
    omega
theorem apL_nil (p : Int) (k : Nat) (f : Bag) : apL p k [] f = f := by cases k <;> rfl
def Pd (x : List Int × Int) : PV := Tds [Ts x.1, isV (.int x.2)]
theorem pd_mk' {x : List Int × Int} : ∀ d ∈ [Ts x.1, isV (.int x.2)], Mk d := fun d hd => by
  rcases List.mem_cons.mp hd with e | e
  · rw [e]; exact Ts.mk
  · rw [List.mem_singleton.mp e]; exact mk_isV
theorem Pd.mk {x : List Int × Int} : Mk (Pd x) := Tds.mk pd_mk'
theorem pd_mk {ls : List (List Int × Int)} : ∀ d ∈ ls.map Pd, Mk d := fun d hd => by
  obtain ⟨l, _, e⟩ := List.mem_map.mp hd
  rw [← e]; exact Pd.mk
theorem dp_pds {H : Hp} : ∀ {ls : List (List Int × Int)} {vs : List V}, All2 (ls.map Pd) vs H → DpAll K H vs (ls.map fun x => PyData.tuple [PyData.tuple (x.1.map PyData.int), PyData.int x.2])
  | [], [], _ => .nil
  | l :: ls, v :: vs, ⟨⟨a, us, e, h1, h3⟩, h2⟩ => by
    obtain ⟨y1, y2, rfl, h4, h5⟩ := all2_2 h3
    refine .cons ?_ (dp_pds h2)
    rw [e]
    refine .tup (SqT.of h1) (.cons (dp_ti h4.ti) (.cons ?_ .nil))
    rw [show y2 = _ from h5]; exact .int _
  | [], _ :: _, h => h.elim
  | _ :: _, [], h => h.elim
theorem pds_depth : ∀ ls : List (List Int × Int), PyData.depthAll (ls.map fun x => PyData.tuple [PyData.tuple (x.1.map PyData.int), PyData.int x.2]) ≤ 2
  | [] => Nat.zero_le _
  | l :: ls => by
    rw [List.map_cons, PyData.depthAll, PyData.depth, PyData.depthAll, PyData.depthAll, PyData.depthAll, PyData.depth, PyData.depth, depth_ints]
    have := pds_depth ls
    omega
theorem pds_lay : ∀ ls : List (List Int × Int), PyData.canLayAll0 (ls.map fun x => PyData.tuple [PyData.tuple (x.1.map PyData.int), PyData.int x.2]) = true
  | [] => rfl
  | l :: ls => by rw [List.map_cons, PyData.canLayAll0, pds_lay ls, PyData.canLay0, PyData.canLayAll0, PyData.canLayAll0, PyData.canLayAll0, PyData.canLay0, PyData.canLay0, lay_ints]; rfl
theorem shaped_pds (ls : List (List Int × Int)) : SeqAt.shaped (.list (ls.map fun x => PyData.tuple [PyData.tuple (x.1.map PyData.int), PyData.int x.2])) = true := by
  unfold SeqAt.shaped
  rw [PyData.canLay0, pds_lay, PyData.depth]
  have := pds_depth ls
  rw [Bool.true_and]
  exact decide_eq_true (by omega)
section
variable {σ : L2.St} {H H' : Hp} {ta tb tc td ty tv tx te tl : TE} {D : Ends} {tz : L2.TS} {P P1 P2 : PV}
theorem q_pop2 {n m : Nat} {l : Addr} {xs : List V} {y : V} (ha : Ev ta σ H (isV (.ref l))) (hl : H l = some (.lst (xs ++ [y]))) (hy : Tds [P1, P2] y H) (m1 : Mk P1) (m2 : Mk P2)
    (k : ∀ v w H1, Same H H1 → P1 v (upd H1 l (.lst xs)) → P2 w (upd H1 l (.lst xs)) → tz D ((σ.set n (some v)).set m (some w)) (upd H1 l (.lst xs))) :
    tSeq (tAsg (tBM0 K "list" rPop ta) (gTup K 2 (gCons (gName n) (gCons (gName m) gNil)))) tz D σ H := ha.run H (Same.refl _) _ fun x H1 e1 p => by
  rw [show x = .ref l from p]
  refine ⟨.inl ⟨rfl, _, SqL.of (e1 _ _ hl)⟩, l, xs ++ [y], y, rfl, rfl, e1 _ _ hl, by simp, ?_⟩
  rw [List.dropLast_concat]
  have tk : Tk H (upd H1 l (.lst xs)) := (Tk.of e1).trans (Tk.upd (e1 _ _ hl) trivial)
  obtain ⟨a, vs, e2, h2, h3⟩ := hy
  obtain ⟨v, w, rfl, h4, h5⟩ := all2_2 h3
  exact ⟨a, _, e2, SqT.of (tk.at' _ _ h2), rfl, v, [w], rfl, w, [], rfl, rfl, k v w H1 e1 (m1 _ _ _ tk h4) (m2 _ _ _ tk h5)⟩
/-- d[k] = d.get(k, 0) + t -/
theorem s_dcount {d : Addr} {f : Bag} {l : List Int} {x : Int} (hd : H d = some (.dT (bagK f))) (nd : (f.map (·.1)).Nodup) (hf : f.length < 100000) (ho : Ev td σ H (isV (.ref d))) (hk : Ev ty σ H (Ts l)) (ht : Ev tx σ H (isV (.int x)))
    (q : ∀ H1, Same H H1 → D.nx σ (upd H1 d (.dT (bagK (bput f l (bget f l + x)))))) : sDPut td ty (tOp (rI0 fun i j => .int (i + j)) (tDGet2 td ty (tC (.int 0))) tx) D σ H :=
  ho.run H (Same.refl _) _ fun u H1 e1 p1 => by
    have hd1 := e1 _ _ hd
    refine ⟨d, p1, .inr ⟨_, .inl hd1⟩, hk.run H1 e1 _ fun y H2 e2 ⟨b, p2, hb⟩ => ⟨_, .inr ⟨_, tk l, b, .inl (e2 _ _ hd1), p2, by rw [tk_kV]; exact hb, rfl⟩, ?_⟩⟩
    rw [bag_get]
    refine ht.run H2 (e1.trans e2) _ fun z H3 e3 p3 => ⟨bget f l, x, rfl, p3, ?_⟩
    have s3 := (e1.trans e2).trans e3
    refine ho.run H3 s3 _ fun u2 H4 e4 p4 => hk.run H4 (s3.trans e4) _ fun y2 H5 e5 ⟨b2, p5, hb2⟩ => ?_
    have s5 := (s3.trans e4).trans e5
    refine ⟨d, _, p4, .inr ⟨_, tk l, b2, s5 _ _ hd, p5, by rw [tk_kV]; exact hb2, sz_lt (by rw [bagK, List.length_map]; exact hf), rfl⟩, ?_⟩
    rw [bag_put l _ f nd]
    exact q H5 s5
end
theorem mw_cons (x : List Int × Int) (l : List (List Int × Int)) : mw (x :: l) = wt x + mw l := by simp [mw]
theorem mw_len : ∀ l : List (List Int × Int), l.length ≤ mw l
  | [] => Nat.zero_le _
  | x :: l => by
    rw [mw_cons, List.length_cons]
    have := mw_len l
    have : 1 ≤ wt x := by rw [wt]; omega
    omega
section
variable {P : Program} {w : World} {mg : Str → Option Value} {base : Heap}
abbrev s_all_parts : Stmt := topS 44
abbrev N_all_parts : List Str := ["one", "prime", "found", "line", "part", "times", "slope", "twice", "piece"]
theorem sc_all_parts : FnScope N_all_parts ["one", "prime"] (defScope s_all_parts) := ⟨rfl, rfl, rfl, by decide +kernel, rfl, by decide +kernel, by decide +kernel⟩

def p_all_parts (K : PySem.W.Frag) : Sp := Pf (fun a : List Int × Int => [Ts a.1, isV (.int a.2)]) (fun a => PR a.2 ∧ Mo a.2 a.1 ∧ a.1.length ≤ 50) (fun a => DtL (allParts a.1 a.2))
theorem ok_all_parts (D : Df K mg "all_parts" s_all_parts ["one", "prime"]) (Bt : Bts mg) (Gb : Gbs K mg) (c_divided : Cal P w K mg base 3 "divided" (p_divided K)) (c_shared : Cal P w K mg base 4 "shared" (p_shared K)) (c_sloped : Cal P w K mg base 2 "sloped" (p_sloped K)) (c_pieces_of : Cal P w K mg base 9 "pieces_of" (p_pieces_of K)) (c_thinned : Cal P w K mg base 1 "thinned" (p_thinned K)) : Cal P w K mg base 10 "all_parts" (p_all_parts K) := by
  refine cal_of D sc_all_parts (fun vs H Q E ⟨a, _, h, _⟩ => h.len) fun f cdv A outer s H vs Q E hr ⟨⟨one, p⟩, ⟨hp, mo, hl⟩, hds, q⟩ => ?_
  dsimp only at *
  obtain ⟨x1, x2, rfl, hx, rfl⟩ := all2_2 hds
  have bd := hp.bd
  refine ⟨_, (pss_cons (ps_set (i := 2) sc_all_parts.nd rfl (by first | exact .inl rfl | exact .inr rfl) pe_dnewT)
      (pss_cons (ps_set (i := 3) sc_all_parts.nd rfl (by first | exact .inl rfl | exact .inr rfl) (pe_lst (pa_cons (pe_tup (pa_cons (pv 0) (pa_cons pe_int pa_nil))) pa_nil)))
      (pss_cons (ps_while PassesOwn.never (pt_cmpR (op_neDK (K := K) hr.units) (pv 3) (pe_lst pa_nil) (nomark _)) (pss_cons (ps_asg (pe_bm0 PySem.F.plainAttrs_list PySem.F.slot_list_pop PySem.F.type_list_pop mt_pop (pv 3)) (pg_tupK (K := K) (n := 2) rfl (pgs_cons (pg_name (i := 4) sc_all_parts.nd rfl (by first | exact .inl rfl | exact .inr rfl)) (pgs_cons (pg_name (i := 5) sc_all_parts.nd rfl (by first | exact .inl rfl | exact .inr rfl)) pgs_nil))))
      (pss_cons (ps_set (i := 6) sc_all_parts.nd rfl (by first | exact .inl rfl | exact .inr rfl) (pe_d c_sloped hr (by decide) (by rfl) (pa_cons (pv 4) (pa_cons (pv 1) pa_nil))))
      (pss_one (ps_if ((pw_and (pt_cmpR op_gt (pe_callB (call_lenK (K := K)) (by rfl) Bt.len PySem.boot_len (pa_cons (pv 4) pa_nil)) pe_int (nomark _)) (pw_and1 (pt_cmpR (op_eqDK (K := K) hr.units) (pv 6) (pe_tup pa_nil) (nomark _))))).pt (pss_one (ps_expr (pe_bm PySem.F.plainAttrs_list PySem.F.slot_list_append PySem.F.type_list_append mt_append (pv 3) (pa_cons (pe_tup (pa_cons (pe_d c_thinned hr (by decide) (by rfl) (pa_cons (pv 4) (pa_cons (pv 1) pa_nil))) (pa_cons (pe_op op_mul (pv 5) (pv 1)) pa_nil))) pa_nil)))) (pss_one (ps_if (pt_cmpR op_gt (pe_callB (call_lenK (K := K)) (by rfl) Bt.len PySem.boot_len (pa_cons (pv 4) pa_nil)) pe_int (nomark _)) (pss_cons (ps_set (i := 7) sc_all_parts.nd rfl (by first | exact .inl rfl | exact .inr rfl) (pe_ix (ix_tupK (K := K)) (pe_d c_shared hr (by decide) (by rfl) (pa_cons (pv 4) (pa_cons (pv 6) (pa_cons (pv 1) pa_nil)))) pe_int (fun _ _ => rfl)))
      (pss_one (ps_if (pt_cmpR (op_eqDK (K := K) hr.units) (pv 7) (pe_tup (pa_cons pe_int pa_nil)) (nomark _)) (pss_one (ps_for PassesOwn.never rfl (pi_list (pe_d c_pieces_of hr (by decide) (by rfl) (pa_cons (pv 4) (pa_cons (pv 1) pa_nil)))) (pg_name (i := 8) sc_all_parts.nd rfl (by first | exact .inl rfl | exact .inr rfl)) (pss_one (ps_dput (hu_of hr) (pv 2) (pv 8) (pe_op op_add (pe_dget2 (hu_of hr) (pv 2) (pv 8) pe_int ⟨rfl, rfl, rfl, rfl⟩) (pv 5)) rfl)))) (pss_cons (ps_expr (pe_bm PySem.F.plainAttrs_list PySem.F.slot_list_append PySem.F.type_list_append mt_append (pv 3) (pa_cons (pe_tup (pa_cons (pv 7) (pa_cons (pv 5) pa_nil))) pa_nil)))
      (pss_one (ps_expr (pe_bm PySem.F.plainAttrs_list PySem.F.slot_list_append PySem.F.type_list_append mt_append (pv 3) (pa_cons (pe_tup (pa_cons (pe_ix (ix_tupK (K := K)) (pe_d c_divided hr (by decide) (by rfl) (pa_cons (pv 4) (pa_cons (pv 7) (pa_cons (pv 1) pa_nil)))) pe_int (fun _ _ => rfl)) (pa_cons (pv 5) pa_nil))) pa_nil)))))))) pss_nil)))))))
      (pss_one (ps_ret (pv 2)))))), ?_⟩
  refine q_dnewT fun d H1 n1 s1 e1 => ?_
  have hx := Ts.mk.md _ _ _ s1 hx
  refine q_setD (eld_lst (ea_cons (ev_tupS (ea_cons (ev_v 0 Ts.mk.md rfl hx) (ea_cons (ev_c (v := .int 1)) ea_nil))) ea_nil)) fun ll us H2 n2 s2 e2 al => ?_
  have hx := Ts.mk.md _ _ _ s2 hx
  have nfl : d ≠ ll := fun z => by rw [z, n2] at e1; cases e1
  have e1 := s2 _ _ e1
  have pos := mo.pos
  refine q_while (fun m σ H' => ∃ (line : List (List Int × Int)) (f : Bag) (vl : List V) (c4 c5 c6 c7 c8 : Option V), σ = [some x1, some (.int p), some (.ref d), some (.ref ll), c4, c5, c6, c7, c8] ∧ Fr [d, ll] H2 H' ∧ H' ll = some (.lst vl) ∧ H' d = some (.dT (bagK f)) ∧
      All2 (line.reverse.map Pd) vl H' ∧ (f.map (·.1)).Nodup ∧ mw line ≤ m ∧ (∀ x ∈ line, LnOk p one one.length x.1) ∧ f.length + 100 * m ≤ 10000 ∧ m ≤ 100 ∧ apL p m line f = allParts one p) (2 * one.length)
    ⟨[(one, 1)], [], us, _, _, _, _, _, rfl, Fr.refl _, e2, e1, al, List.nodup_nil, by simp only [mw, wt, List.map_cons, List.map_nil, List.sum_cons, List.sum_nil]; omega, fun x hx => by rw [List.mem_singleton.mp hx]; exact ⟨mo, Dv.refl _, Nat.le_refl _⟩, by simp only [List.length_nil]; omega, by omega, rfl⟩ ?_
  rintro m σ' H' ⟨line, f, vl, c4, c5, c6, c7, c8, rfl, fr, el, ed, avl, nd, hm, hln, hcnt, hm100, eq⟩
  have lvl := avl.len
  rw [List.length_map, List.length_reverse] at lvl
  refine ⟨_, et_test (ev_neNil (ev_i 3 rfl) el (fun H3 s3 => dp_pds (avl.mono s3 fun d hd => (pd_mk d hd).md)) (shaped_pds _)), fun hb H3 s3 => ?_, fun hb H3 s3 => ?_⟩
  · cases line with
    | nil => simp at lvl; rw [lvl] at hb; simp at hb
    | cons pt rest =>
      obtain ⟨part, times⟩ := pt
      have o : LnOk p one one.length part := hln (part, times) List.mem_cons_self
      have hrest : ∀ x ∈ rest, LnOk p one one.length x.1 := fun x hx => hln x (List.mem_cons_of_mem _ hx)
      have N := ap_next hp times o
      have hi := o.hi
      have ml := mw_len rest
      rw [mw_cons] at hm
      have wpos : 1 ≤ wt (part, times) := by rw [wt]; omega
      obtain ⟨k, rfl⟩ : ∃ k, m = k + 1 := ⟨m - 1, by omega⟩
      rw [apL] at eq
      simp only [] at eq
      obtain ⟨vr, vp, rfl⟩ : ∃ vr vp, vl = vr ++ [vp] := by
        have : vl ≠ [] := fun z => by rw [z] at lvl; simp at lvl
        exact ⟨_, _, (List.dropLast_concat_getLast this).symm⟩
      have avl3 := avl.mono s3 fun d hd => (pd_mk d hd).md
      rw [reverse_snoc, List.map_append] at avl3
      have lvr : vr.length = rest.length := by simpa using lvl
      obtain ⟨ar, ap⟩ := all2_split avl3 (by rw [List.length_map, List.length_reverse, lvr])
      refine q_pop2 (P1 := Ts part) (P2 := isV (.int times)) (ev_i 3 rfl) (s3 _ _ el) ap.1 Ts.mk mk_isV fun v4 v5 H4 s4 h4 h5 => ?_
      obtain rfl := h5
      have el4 := s4 _ _ (s3 _ _ el)
      have tk' : Tk H4 (upd H4 ll (.lst vr)) := Tk.upd el4 trivial
      have ar5 := ar.mk ((Tk.of s4).trans tk') pd_mk
      have e5l : (upd H4 ll (.lst vr)) ll = some (.lst vr) := upd_same
      have e5d : (upd H4 ll (.lst vr)) d = some (.dT (bagK f)) := by rw [upd_ne nfl]; exact s4 _ _ (s3 _ _ ed)
      have fr5 : Fr [d, ll] H2 (upd H4 ll (.lst vr)) := (fr.trans (Fr.of (s3.trans s4))).trans (Fr.upd (by simp))
      generalize upd H4 ll (.lst vr) = H5 at ar5 h4 e5l e5d fr5 ⊢
      have sl := sloped_len (p := p) part
      refine q_set (ev_sloped (ev_v 4 Ts.mk.md rfl h4).ti (ev_i 1 rfl) hp (by omega)) fun v6 H6 s6 h6 => ?_
      have h4 := Ts.mk.md _ _ _ s6 h4
      have ar6 := ar5.mono s6 fun d hd => (pd_mk d hd).md
      have e6l := s6 _ _ e5l
      have e6d := s6 _ _ e5d
      have fr6 := fr5.trans (Fr.of s6)
      refine s_if (b := decide ((1 : Int) < part.length) && decide (sloped part p = [])) (et_and (et_test (Ev.is (ev_I0 (ev_lenT (ev_v 4 Ts.mk.md rfl h4).ti) ev_c) rfl)) fun _ => et_test (ev_eqT (ev_v 6 Ts.mk.md rfl h6).ti ev_t0.ti)) (fun hb H7 s7 => ?_) (fun hb H7 s7 => ?_)
      · have c1 : 1 < part.length ∧ sloped part p = [] := by
          simp only [Bool.and_eq_true, decide_eq_true_eq] at hb
          exact ⟨by omega, hb.2⟩
        rw [if_pos c1] at eq
        obtain ⟨a, b⟩ := N.thin c1
        have ahi := a.hi
        have h4 := Ts.mk.md _ _ _ s7 h4
        refine s_app (P := Pd (thinned part p, times * p)) (s7 _ _ e6l) (ev_i 3 rfl) (ev_tupS (ea_cons (ev_thinned (ev_v 4 Ts.mk.md rfl h4).ti (ev_i 1 rfl) (by omega) (by omega)) (ea_cons (ev_I (.inr ⟨by omega, by omega⟩) (ev_i 5 rfl) (ev_i 1 rfl)) ea_nil))) (by omega) fun v8 H8 s8 h8 => ?_
        have e8l := s8 _ _ (s7 _ _ e6l)
        have tk8 : Tk H8 (upd H8 ll (.lst (vr ++ [v8]))) := Tk.upd e8l trivial
        have hw : wt (thinned part p, times * p) + 1 ≤ wt (part, times) := by simp only [wt]; omega
        refine ⟨k, Nat.lt_succ_self _, (thinned part p, times * p) :: rest, f, vr ++ [v8], _, _, _, _, _, rfl, (fr6.trans (Fr.of (s7.trans s8))).trans (Fr.upd (by simp)), upd_same, by rw [upd_ne nfl]; exact s8 _ _ (s7 _ _ e6d), ?_, nd, by rw [mw_cons]; omega, fun x hx => ?_, by omega, by omega, eq⟩
        · rw [reverse_snoc, List.map_append]
          exact All2.app (ar6.mk ((Tk.of (s7.trans s8)).trans tk8) pd_mk) ⟨Pd.mk _ _ _ tk8 h8, trivial⟩
        · rcases List.mem_cons.mp hx with z | hx
          · rw [z]; exact a.mono (by omega)
          · exact hrest x hx
      · have c1 : ¬ (1 < part.length ∧ sloped part p = []) := by
          rintro ⟨z1, z2⟩
          rw [decide_eq_true (show (1 : Int) < part.length by omega), decide_eq_true z2] at hb
          cases hb
        rw [if_neg c1] at eq
        have h4 := Ts.mk.md _ _ _ s7 h4
        have h6 := Ts.mk.md _ _ _ s7 h6
        have ar7 := ar6.mono s7 fun d hd => (pd_mk d hd).md
        have e7l := s7 _ _ e6l
        have e7d := s7 _ _ e6d
        have fr7 := fr6.trans (Fr.of s7)
        refine s_when (b := decide ((1 : Int) < part.length)) (et_test (Ev.is (ev_I0 (ev_lenT (ev_v 4 Ts.mk.md rfl h4).ti) ev_c) rfl)) (fun hb H8 s8 => ?_) (fun hb H8 s8 => ?_)
        · have c2 : 1 < part.length := by have z := of_decide_eq_true hb; omega
          have c3 : sloped part p ≠ [] := fun q => c1 ⟨c2, q⟩
          rw [if_pos c2] at eq
          have h4 := Ts.mk.md _ _ _ s8 h4
          have h6 := Ts.mk.md _ _ _ s8 h6
          have cs := cn_sloped (p := p) hp.pos part
          have G := gcd_ok hp o.mo.cn cs
          refine q_set (ev_f0 (ev_shared (ev_v 4 Ts.mk.md rfl h4).ti (ev_v 6 Ts.mk.md rfl h6).ti (ev_i 1 rfl) hp o.mo.cn cs (by omega) (by omega)) ev_c) fun v7 H9 s9 h9 => ?_
          have h4 := Ts.mk.md _ _ _ s9 h4
          have ar9 := ar7.mono (s8.trans s9) fun d hd => (pd_mk d hd).md
          have e9l := s9 _ _ (s8 _ _ e7l)
          have e9d := s9 _ _ (s8 _ _ e7d)
          have fr9 := fr7.trans (Fr.of (s8.trans s9))
          have tw := N.tw c2 c3
          have pcs := N.pcs c2
          generalize hsh : (shared part (sloped part p) p).1 = twice at *
          refine s_if (et_test (ev_eqT (ev_v 7 Tq.mk.md rfl h9).tq (ev_t1 ev_c).ti)) (fun hb H10 s10 => ?_) (fun hb H10 s10 => ?_)
          · have c4 : twice = [1] := by simpa using hb
            rw [if_pos c4] at eq
            have h4 := Ts.mk.md _ _ _ s10 h4
            have e10d := s10 _ _ e9d
            have mu : Muts [d] H10 := fun q hq => by rw [List.mem_singleton.mp hq]; exact ⟨_, e10d, trivial⟩
            have plen := pieces_len part p
            have ar10 := ar9.mono s10 fun d hd => (pd_mk d hd).md
            refine s_forM (ei_new (el_pieces (ev_v 4 Ts.mk.md rfl h4) (ev_i 1 rfl) hp o.mo c2 (by omega)) ts_md) [d] mu (fun p hp => by simp) (fun j σ' H' => ∃ (g : Bag) (c8 : Option V), σ' = [some x1, some (.int p), some (.ref d), some (.ref ll), some v4, some (.int times), some v6, some v7, c8] ∧ Fr [d] H10 H' ∧ H' d = some (.dT (bagK g)) ∧ (g.map (·.1)).Nodup ∧ g.length ≤ f.length + j ∧ ((piecesOf part p).drop j).foldl (fun f piece => bput f piece (bget f piece + times)) g = (piecesOf part p).foldl (fun f piece => bput f piece (bget f piece + times)) f)
              (fun B e => ⟨f, _, rfl, Fr.of e, e _ _ e10d, nd, Nat.le_refl _, rfl⟩) ?_ ?_
            · rintro T kp j σ' H11 hj hT ⟨g, d8, rfl, fg, eg, ng, lg, eq2⟩ x H12 s12 hx12 hT12
              rw [List.length_map] at hj
              obtain ⟨pc, hpc, hpt⟩ := nth_map hx12
              rw [List.drop_eq_getElem_cons hj, (List.getElem?_eq_some_iff.mp hpc).2, List.foldl_cons] at eq2
              refine s_dcount (s12 _ _ eg) ng (by omega) (ev_i 2 rfl) (ev_v 8 Ts.mk.md rfl hpt) (ev_i 5 rfl) fun H13 s13 => ?_
              have e13 := s13 _ _ (s12 _ _ eg)
              have bl := bput_len pc (bget g pc + times) g
              exact ⟨kp.upd _ _ _ _ (kp.same _ _ s13 hT12) e13 trivial (by simp), _, _, rfl, (fg.trans (Fr.of (s12.trans s13))).trans (Fr.upd (by simp)), upd_same, bput_nodup ng, by omega, eq2⟩
            · rintro σ' H11 frT ⟨g, d8, rfl, fg, eg, ng, lg, eq2⟩
              rw [List.length_map] at lg
              rw [List.length_map, List.drop_eq_nil_of_le (Nat.le_refl _)] at eq2
              have eq2 : g = (piecesOf part p).foldl (fun f piece => bput f piece (bget f piece + times)) f := eq2
              refine ⟨k, Nat.lt_succ_self _, rest, g, vr, _, _, _, _, _, rfl, (fr9.trans (Fr.of s10)).trans (fg.mono (by simp)), fg ll _ (by simpa using Ne.symm nfl) (s10 _ _ e9l), eg, ar10.mk (fg.tk mu) pd_mk, ng, by omega, hrest, by omega, by omega, by rw [eq2]; exact eq⟩
          · have c4 : twice ≠ [1] := by simpa using hb
            rw [if_neg c4] at eq
            obtain ⟨a, b, t1, t2, t3⟩ := tw c4
            have ne : twice ≠ [] := fun z => by rw [z] at t1; simp at t1
            have h4 := Ts.mk.md _ _ _ s10 h4
            have h9 := Tq.mk.md _ _ _ s10 h9
            have e10l := s10 _ _ e9l
            have e10d := s10 _ _ e9d
            refine q_app (P := Pd (twice, times)) e10l (ev_i 3 rfl) (ev_tupS (ea_cons (ev_v 7 Ts.mk.md rfl (h9.2 ne)) (ea_cons (ev_i 5 rfl) ea_nil))) (by omega) fun v8 H11 s11 h11 => ?_
            have e11l := s11 _ _ e10l
            have tk11 : Tk H11 (upd H11 ll (.lst (vr ++ [v8]))) := Tk.upd e11l trivial
            have ar12 := ar9.mk ((Tk.of (s10.trans s11)).trans tk11) pd_mk
            have h12 := Pd.mk _ _ _ tk11 h11
            have h4 := Ts.mk _ _ _ ((Tk.of s11).trans tk11) h4
            have h9 := Tq.mk _ _ _ ((Tk.of s11).trans tk11) h9
            have fr12 : Fr [d, ll] H2 (upd H11 ll (.lst (vr ++ [v8]))) := (fr9.trans (Fr.of (s10.trans s11))).trans (Fr.upd (by simp))
            have e12l : (upd H11 ll (.lst (vr ++ [v8]))) ll = some (.lst (vr ++ [v8])) := upd_same
            have e12d : (upd H11 ll (.lst (vr ++ [v8]))) d = some (.dT (bagK f)) := by rw [upd_ne nfl]; exact s11 _ _ e10d
            generalize upd H11 ll (.lst (vr ++ [v8])) = H12 at ar12 h12 h4 h9 fr12 e12l e12d ⊢
            refine s_app (P := Pd ((divided part twice p).1, times)) e12l (ev_i 3 rfl) (ev_tupS (ea_cons (ev_ixT (n := 0) ((ev_divided (ev_v 4 Ts.mk.md rfl h4).ti (ev_v 7 Tq.mk.md rfl h9).tq (ev_i 1 rfl) hp a.mo.cn.rg ne (by omega) (by omega)).tdd tsts_md) ev_c rfl Ts.mk.md) (ea_cons (ev_i 5 rfl) ea_nil))) (by rw [List.length_append, List.length_singleton]; omega) fun w8 H13 s13 h13 => ?_
            have e13l := s13 _ _ e12l
            have tk13 : Tk H13 (upd H13 ll (.lst (vr ++ [v8] ++ [w8]))) := Tk.upd e13l trivial
            have hw : wt (twice, times) + wt ((divided part twice p).1, times) + 1 ≤ wt (part, times) := by simp only [wt]; omega
            refine ⟨k, Nat.lt_succ_self _, ((divided part twice p).1, times) :: (twice, times) :: rest, f, vr ++ [v8] ++ [w8], _, _, _, _, _, rfl, (fr12.trans (Fr.of s13)).trans (Fr.upd (by simp)), upd_same, by rw [upd_ne nfl]; exact s13 _ _ e12d, ?_, nd, by rw [mw_cons, mw_cons]; omega, fun x hx => ?_, by omega, by omega, eq⟩
            · rw [reverse_snoc, reverse_snoc, List.map_append, List.map_append]
              exact All2.app (All2.app (ar12.mk ((Tk.of s13).trans tk13) pd_mk) ⟨Pd.mk _ _ _ ((Tk.of s13).trans tk13) h12, trivial⟩) ⟨Pd.mk _ _ _ tk13 h13, trivial⟩
            · rcases List.mem_cons.mp hx with z | hx
              · rw [z]; exact b.mono (by omega)
              rcases List.mem_cons.mp hx with z | hx
              · rw [z]; exact a.mono (by omega)
              · exact hrest x hx
        · have c2 : ¬ 1 < part.length := by have z := of_decide_eq_false hb; omega
          rw [if_neg c2] at eq
          exact ⟨k, Nat.lt_succ_self _, rest, f, vr, _, _, _, _, _, rfl, fr7.trans (Fr.of s8), s8 _ _ e7l, s8 _ _ e7d, ar7.mono s8 fun d hd => (pd_mk d hd).md, nd, by omega, hrest, by omega, by omega, eq⟩
  · cases line with
    | cons part rest =>
      have : vl ≠ [] := fun z => by rw [z] at lvl; simp at lvl
      cases vl with
      | nil => exact (this rfl).elim
      | cons a b => simp at hb
    | nil =>
      rw [apL_nil] at eq
      have sm : Same H H' := fun a o h => fr a o (fun z => by
        rcases List.mem_cons.mp z with z | z
        · rw [z, n1] at h; cases h
        · rw [List.mem_singleton.mp z, s1.free n2] at h; cases h) (s2 _ _ (s1 _ _ h))
      refine s_ret (P := Dt (allParts one p)) (ev_v 2 Dt.md rfl ⟨d, rfl, by rw [← eq]; exact s3 _ _ ed⟩) fun v H4 s4 h4 => q v H4 (sm.trans (s3.trans s4)) ⟨h4, by rw [← eq]; omega⟩
section
variable {σ : L2.St} {H : Hp} {ta tb tc td : TE} {E : XK}
theorem ev_all_parts {one : List Int} {p : Int} (ha : Ev ta σ H (Ts one)) (hb : Ev tb σ H (isV (.int p))) (hp : PR p) (mo : Mo p one) (hl : one.length ≤ 50) : Ev (tCall (p_all_parts K) [] E (tCons ta (tCons tb tNil))) σ H (DtL (allParts one p)) :=
  ev_call (one, p) (ea_cons ha (ea_cons hb ea_nil)) ⟨hp, mo, hl⟩ DtL.md
end
end
end Rw
end
section
set_option maxRecDepth 100000
set_option maxHeartbeats 4000000
namespace Rw
open PySem PySem.Spec PyProof.Rows L2 Rf PySem.W PySem.Calls
abbrev rowP (q : Pos) : Arguments := { posonlyargs := [], args := [{ arg := Str.ofString "row", annotation := none, pos := q }], vararg := none, kwonlyargs := [], kw_defaults := [], kwarg := none, defaults := [] }
abbrev rowS : Scope := { kind := ScopeKind.function, names := [(Str.ofString "row", NameKind.local), (Str.ofString "len", NameKind.globalImplicit)], isGenerator := false, isCoroutine := false }
abbrev rowB (p1 p2 p3 p4 p5 p6 p7 p8 p9 : Pos) : Expr := .Tuple [.Call (.Name (Str.ofString "len") p1) [.Subscript (.Name (Str.ofString "row") p2) (.Constant (.int 0) 0 p3) p4] [] p5, .Subscript (.Name (Str.ofString "row") p6) (.Constant (.int 0) 0 p7) p8] 0 p9
section
variable {prog : Program} {w : World} {A : Around} {E : Value → Shared → Prop} {s : Shared}
theorem ev_row0 {env : Env} {m : Str → Option Value} {a : Addr} {items : Array Value} {x : Value} {p2 p3 p4 : Pos} {Q : Value → Shared → Prop} (hk : env.scope.kind = .function) (hl : env.kindOf (Str.ofString "row") = some .local) (hn : s.heap.Ns env.locals m) (hm : m (Str.ofString "row") = some (.ref a))
    (ha : IsTup s.heap a items) (hz : items.size ≤ 1000) (hx : items[0]? = some x) (h : ∀ tk, Q x { s with toks := tk }) : wpAny (model prog w) A (eval (.Subscript (.Name (Str.ofString "row") p2) (.Constant (.int 0) 0 p3) p4) env) Q E s := by
  refine Subscript_ (wpAny_Name (wpAny_loadName_local hk hl hn hm ?_))
  refine wpAny_Constant_int ?_
  have h0 : 0 < items.size := by
    rcases Nat.lt_or_ge 0 items.size with q | q
    · exact q
    · rw [Array.getElem?_eq_none (by omega)] at hx; cases hx
  exact subscriptTail_builtinR (x := x) (s := { s with toks := s.toks + 1 }) ha.typeIs slot_tuple_getitem.lookup
    (getItem_tuple (j := 0) (Q := fun r s' => r = x ∧ Q r s') ha (by omega) (by omega) (by unfold seqIndex?; simp [h0]) hx ⟨rfl, h _⟩)
theorem lam_turn {f a b c' : Addr} {qual : Str} {pm ctv : Value} {mg mb : Str → Option Value} {n : Int} {t : Tok} {its : Array Value} {xs : List Int} {q p1 p2 p3 p4 p5 p6 p7 p8 p9 : Pos}
    (hf : s.heap.get? f = some (kla_obj "<lambda>" qual (rowP q) (rowB p1 p2 p3 p4 p5 p6 p7 p8 p9) rowS [] pm c' ctv)) (hcode : s.heap.CodeRec (.ref c') qual) (hroom : A.depth < recursionLimit) (hlim : s.heap.NoLimit)
    (hG : s.heap.Ns mainGlobals mg) (hmg : mg (Str.ofString "len") = none) (hB : s.heap.Ns builtinsNs mb) (hmb : mb (Str.ofString "len") = some (.builtin "len"))
    (ha : IsTup s.heap a #[.ref b, .int n t]) (hb : IsTup s.heap b its) (hr : Reads s.heap (.ref b) (.tuple (xs.map PyData.int)) []) (hlen : its.size = xs.length) (hz : xs.length ≤ 1000) :
    wpAny (model prog w) A (call (.ref f) [.ref a]) (KeyPure (.tuple [.int xs.length, .tuple (xs.map PyData.int)]) s) (fun _ _ => False) s := by
  refine wpAny_call (kla_callFunE (fd := kla_fn "<lambda>" qual (rowP q) (rowB p1 p2 p3 p4 p5 p6 p7 p8 p9) rowS [] pm (.ref c') ctv) hroom hf rfl rfl rfl rfl hcode ?_)
  rw [show bindArgs (kla_fn "<lambda>" qual (rowP q) (rowB p1 p2 p3 p4 p5 p6 p7 p8 p9) rowS [] pm (.ref c') ctv) ⟨[.ref a], []⟩ = pure [(Str.ofString "row", .ref a)] from rfl]
  refine wpAny_pure (wpAny_newFunctionEnv (show ∀ x ∈ rowS.names, x.2 ≠ NameKind.cell by decide) (fun x hx => by rw [List.mem_singleton.mp hx]; rfl) (fun h₁ hns hsb => ⟨hlim.fresh _ hsb, ?_⟩) rfl)
  have kp : ∀ b o, s.heap.get? b = some o → h₁.get? b = some o := fun b o e => hsb.extBut b o (Nat.ne_of_lt (Heap.lt_size e)) (Heap.get?_push_of_some _ e)
  have ha1 : IsTup h₁ a #[.ref b, .int n t] := by obtain ⟨o, h1, h2⟩ := ha; exact ⟨o, kp _ _ h1, h2⟩
  have hb1 : IsTup h₁ b its := by obtain ⟨o, h1, h2⟩ := hb; exact ⟨o, kp _ _ h1, h2⟩
  show codeAny _ _ (.expr (rowB p1 p2 p3 p4 p5 p6 p7 p8 p9) (envX qual rowS s.heap.objs.size f (.ref c') [])) _ _
  refine kla_codeExpr ?_
  refine wpAny_Tuple_spliced (spliced_cons ?_)
  refine wpAny_Call_Name_kw (Name_function_global rfl rfl (loadGlobal_builtin (hG.keeps kp) hmg (hB.keeps kp) hmb ?_))
  refine PyProof.Rows.callWith_builtin1 (spliced_cons (ev_row0 rfl rfl hns rfl ha1 (by simp) rfl fun tk => spliced_nil ?_)) rfl rfl
  refine len_tuple hb1 (by omega) ?_
  refine spliced_cons (ev_row0 rfl rfl hns rfl ha1 (by simp) rfl fun tk2 => spliced_nil ?_)
  refine ⟨show 2 ≤ sizeLine by decide, ?_⟩
  refine ⟨_, _, rfl, fun b o e => Heap.get?_push_of_some _ (kp b o e), ?_⟩
  rw [hlen]
  exact .tuple (Heap.get?_push_size _ rfl) rfl rfl (.cons (.int _ _) (.cons (PyProof.Rows.Reads.keeps (fun b o e => Heap.get?_push_of_some _ (kp b o e)) hr) .nil))
end
end Rw
end
section
set_option maxRecDepth 100000
set_option maxHeartbeats 4000000
namespace Rw
open PySem PySem.Spec PyProof.Rows L2 Rf PySem.W PySem.Calls
/-! ### the order of the ranks -/
def rkey (e : List Int × Int) : PyData := .tuple [.int e.1.length, .tuple (e.1.map PyData.int)]
theorem alike_ints : ∀ xs ys : List Int, alikeAll (xs.map PyData.int) (ys.map PyData.int) = true
  | [], _ => by simp [alikeAll]
  | _ :: _, [] => by simp [alikeAll]
  | x :: xs, y :: ys => by simp only [List.map_cons, alikeAll, alike]; exact alike_ints xs ys
theorem lex_eq : ∀ xs ys : List Int, Rf.lexLt xs ys = decide (xs < ys)
  | [], [] => by simp [Rf.lexLt]
  | [], y :: ys => by simp [Rf.lexLt]
  | x :: xs, [] => by simp [Rf.lexLt]
  | x :: xs, y :: ys => by
    rw [Rf.lexLt]
    by_cases h : x = y
    · subst h
      rw [if_pos rfl, lex_eq xs ys]
      apply decide_eq_decide.mpr
      rw [List.cons_lt_cons_iff]
      exact ⟨fun h => .inr ⟨rfl, h⟩, fun h => h.elim (fun z => absurd z (by omega)) (·.2)⟩
    · rw [if_neg h]
      apply decide_eq_decide.mpr
      rw [List.cons_lt_cons_iff]
      exact ⟨.inl, fun z => z.elim id fun z => absurd z.1 h⟩
theorem lex_irr (xs : List Int) : Rf.lexLt xs xs = false := by rw [lex_eq]; exact decide_eq_false (List.lt_irrefl xs)
theorem rank_lt (a b : List Int × Int) : dataLt (rkey b) (rkey a) = !rankLe a b := by
  rw [rkey, rkey, dataLt_pair (by simp [alike]) (by simp only [alike]; exact alike_ints _ _), dataLt_int, dataLt_tuple, rankLe]
  have hd : PyProof.Rows.lexLt itemOrd (keyToksAll (b.1.map PyData.int)) (keyToksAll (a.1.map PyData.int)) = decide (b.1 < a.1) := dataLt_ints b.1 a.1
  have e1 : PyData.eqv (.int (b.1.length : Int)) (.int (a.1.length : Int)) = decide (b.1.length = a.1.length) := by
    rw [PyData.eqv]
    by_cases h : b.1.length = a.1.length
    · rw [h]; simp
    · rw [decide_eq_false h, beq_eq_false_iff_ne]; omega
  have e2 : PyData.eqv (.tuple (b.1.map PyData.int)) (.tuple (a.1.map PyData.int)) = decide (b.1 = a.1) := by rw [PyData.eqv, eqvAll_ints]
  rw [hd, ← lex_eq, e1, e2]
  by_cases h : a.1.length = b.1.length
  · rw [if_pos h]
    by_cases h2 : b.1 = a.1
    · rw [h2]; simp [lex_irr]
    · simp [h, h2]
  · rw [if_neg h]
    by_cases h4 : a.1.length < b.1.length
    · simp [h4, Ne.symm h]; omega
    · simp [h4, Ne.symm h]; omega
theorem rank_le {β : Type} (g : β → List Int × Int) : dataLe false (fun x => rkey (g x)) = fun a b => rankLe (g a) (g b) := by
  funext a b
  show (!dataLt (rkey (g b)) (rkey (g a))) = _
  rw [rank_lt, Bool.not_not]
theorem rank_tot : TotalLe rankLe := by
  have := sortLe_total (listOrd itemOrd) false fun b : List Int × Int => keyToks (rkey b)
  have e : (sortLe (listOrd itemOrd) false fun b : List Int × Int => keyToks (rkey b)) = rankLe := rank_le (fun x : List Int × Int => x)
  rw [e] at this; exact this
theorem rank_anti {a b : List Int × Int} (h1 : rankLe a b = true) (h2 : rankLe b a = true) : a.1 = b.1 := by
  rw [rankLe] at h1 h2
  by_cases h : a.1.length = b.1.length
  · rw [if_pos h] at h1
    rw [if_pos h.symm] at h2
    rw [lex_eq] at h1 h2
    have h1 : ¬ b.1 < a.1 := by simpa using h1
    have h2 : ¬ a.1 < b.1 := by simpa using h2
    exact List.le_antisymm (List.not_lt.mp h1) (List.not_lt.mp h2)
  · rw [if_neg h] at h1
    rw [if_neg (Ne.symm h)] at h2
    have h1 := of_decide_eq_true h1
    have h2 := of_decide_eq_true h2
    omega
theorem insR_pw (a : List Int × Int) : ∀ {t : Bag}, t.Pairwise (fun x y => rankLe x y = true) → (insR a t).Pairwise (fun x y => rankLe x y = true)
  | [], _ => by rw [insR]; exact List.pairwise_singleton _ _
  | b :: t, h => by
    rw [insR]
    rw [List.pairwise_cons] at h
    split
    · rename_i q
      refine List.pairwise_cons.mpr ⟨fun x hx => ?_, List.pairwise_cons.mpr h⟩
      rcases List.mem_cons.mp hx with e | e
      · rw [e]; exact q
      · exact rank_tot.trans _ _ _ q (h.1 x e)
    · rename_i q
      refine List.pairwise_cons.mpr ⟨fun x hx => ?_, insR_pw a h.2⟩
      rcases List.mem_cons.mp ((insR_perm a t).mem_iff.mp hx) with e | e
      · rw [e]; exact (rank_tot.total a b).resolve_left q
      · exact h.1 x e
theorem inRank_pw : ∀ t : Bag, (inRank t).Pairwise (fun x y => rankLe x y = true)
  | [] => List.Pairwise.nil
  | a :: t => insR_pw a (inRank_pw t)
theorem nodup_fst {f : Bag} (nd : (f.map (·.1)).Nodup) : ∀ {a b : List Int × Int}, a ∈ f → b ∈ f → a.1 = b.1 → a = b := by
  induction f with
  | nil => intro a b h; simp at h
  | cons e f ih =>
    intro a b ha hb hab
    rw [List.map_cons, List.nodup_cons] at nd
    rcases List.mem_cons.mp ha with h1 | h1 <;> rcases List.mem_cons.mp hb with h2 | h2
    · rw [h1, h2]
    · exact (nd.1 (by rw [← h1, hab]; exact List.mem_map.mpr ⟨b, h2, rfl⟩)).elim
    · exact (nd.1 (by rw [← h2, ← hab]; exact List.mem_map.mpr ⟨a, h1, rfl⟩)).elim
    · exact ih nd.2 h1 h2 hab
/-- sorted by rank: the mirror's own order -/
theorem rank_merge {α : Type} (vs : List α) (f : Bag) (hl : vs.length = f.length) (nd : (f.map (·.1)).Nodup) : ((vs.zip f).mergeSort (dataLe false fun x : α × (List Int × Int) => rkey x.2)).map (·.2) = inRank f := by
  have e : dataLe false (fun x : α × (List Int × Int) => rkey x.2) = fun a b => rankLe a.2 b.2 := rank_le (fun x : α × (List Int × Int) => x.2)
  rw [e]
  have p1 : (((vs.zip f).mergeSort fun a b => rankLe a.2 b.2).map (·.2)).Perm f := by
    have := (List.mergeSort_perm (vs.zip f) fun a b => rankLe a.2 b.2).map (·.2)
    rw [List.map_snd_zip (by omega)] at this
    exact this
  have w1 : (((vs.zip f).mergeSort fun a b => rankLe a.2 b.2).map (·.2)).Pairwise (fun x y => rankLe x y = true) := List.pairwise_map.mpr (List.pairwise_mergeSort (fun a b c => rank_tot.trans a.2 b.2 c.2) (fun a b => by
    rw [Bool.or_eq_true]; exact rank_tot.total a.2 b.2) (vs.zip f))
  exact List.Perm.eq_of_pairwise (le := fun x y => rankLe x y = true) (fun a b ha hb h1 h2 => nodup_fst nd (p1.mem_iff.mp ha) ((inRank_perm f).mem_iff.mp hb) (rank_anti h1 h2)) w1 (inRank_pw f) (p1.trans (inRank_perm f).symm)
/-! ### the rule -/
theorem tk_of_ext {H H' : Hp} (e : LamX.ExtN H H') : Tk H H' := by
  refine ⟨fun a xs q => ?_, fun a xs q => e _ _ q (fun ps z => by cases z)⟩
  rcases q with q | ⟨ob, q⟩
  · exact .inl (e _ _ q (fun ps z => by cases z))
  · exact .inr ⟨ob, e _ _ q (fun ps z => by cases z)⟩
theorem sql_ext {K : PySem.W.Frag} {H H' : Hp} {a : Addr} {xs : List V} (e : LamX.ExtN H H') (h : SqL K H a xs) : SqL K H' a xs := by
  rcases h with (h | ⟨o, h⟩) | h
  · exact .inl (.inl (e _ _ h (fun ps z => by cases z)))
  · exact .inl (.inr ⟨o, e _ _ h (fun ps z => by cases z)⟩)
  · exact .inr h
def RkR (H : Hp) (v : Value) (x : V × (List Int × Int)) : Prop := RelV x.1 v ∧ Pd x.2 x.1 H
theorem rk_each {H : Hp} : ∀ {f : Bag} {vs : List V} {us : List Value}, All2 (f.map Pd) vs H → Vals vs us → EachIs (RkR H) us (vs.zip f)
  | [], [], [], _, _ => .nil
  | e :: f, v :: vs, u :: us, h, .cons r rr => .cons ⟨r, h.1⟩ (rk_each h.2 rr)
  | [], _ :: _, _, h, _ => h.elim
  | _ :: _, [], _, h, _ => h.elim
theorem rk_out {H : Hp} : ∀ {sb : List (V × (List Int × Int))} {out : List Value}, EachIs (RkR H) out sb → Vals (sb.map (·.1)) out ∧ All2 ((sb.map (·.2)).map Pd) (sb.map (·.1)) H
  | [], [], _ => ⟨.nil, trivial⟩
  | x :: sb, v :: out, .cons r rr => by
    obtain ⟨a, b⟩ := rk_out rr
    exact ⟨.cons r.1 a, r.2, b⟩
theorem ints_reads {h : Heap} : ∀ {xs : List Int} {us : List Value}, Vals (xs.map V.int) us → ReadsAll h us (xs.map PyData.int) []
  | [], [], _ => .nil
  | x :: xs, u :: us, .cons r rr => by
    obtain ⟨t, rfl⟩ := (show ∃ t, u = Value.int x t from r)
    exact .cons (.int x t) (ints_reads rr)
def tSortR (K : PySem.W.Frag) (T : List (Addr × Str)) (te : TE) : TE := fun σ H Q => te σ H fun v H1 => ∃ (l : Addr) (vs : List V) (f : Bag), v = .ref l ∧ SqL K H1 l vs ∧ All2 (f.map Pd) vs H1 ∧ f.length ≤ 10000 ∧ (f.map (·.1)).Nodup ∧ (∀ e ∈ f, e.1.length ≤ 1000) ∧ LamX.Tabs T H1 ∧
  ∀ H2 p us, H2 p = some (.lst us) → LamX.ExtN H1 H2 → LamX.Tabs T H2 → All2 ((inRank f).map Pd) us H2 → Q (.ref p) H2
theorem pe_sortLam {X : Cx} {K : PySem.W.Frag} {T : List (Addr × Str)} {e : Expr} {te : TE} {k : Nat} {c P : Addr} {p pos lpos kpos q p1 p2 p3 p4 p5 p6 p7 p8 p9 : Pos} (hK : X.K = K) (hg : Gl X (Str.ofString "sorted")) (hms : X.mg (Str.ofString "sorted") = none) (hml : X.mg (Str.ofString "len") = none) (hr : Room k X.A)
    (TB : LamX.TabB X.base X.mg c P) (hcode : X.env.code = .ref c) (hmT : (P, X.env.qual ++ "<lambda>") ∈ T) (hu : ∀ p ∈ T, p.1 = P → p.2 = X.env.qual ++ "<lambda>") (ha : PE X e te)
    (he : backTo pos (starEach (e :: []) X.env) = (false, eval e X.env) :: backTo pos (starEach [] X.env) := by rfl) (hpl : (backTo pos (starEach (e :: []) X.env)).any (·.1) = false := by rfl) :
    PE X (.Call (.Name (Str.ofString "sorted") p) [e] [⟨some (Str.ofString "key"), .Lambda (rowP q) (rowB p1 p2 p3 p4 p5 p6 p7 p8 p9) rowS lpos, kpos⟩] pos) (tSortR K T te) := by
  subst hK
  refine ⟨fun pins s σ H Q I h => ?_⟩
  refine wpAny_Call_Name_kw (ld_blt I hg hms rfl ?_)
  refine callWith_kw ?_ he hpl rfl rfl
  rw [he]
  refine spliced_cons (thn (ha.run pins s σ H _ I h) fun v s1 ⟨x, H1, I1, r1, q1⟩ => spliced_nil ?_)
  obtain ⟨l, vs, f, rfl, hs, hf, hl, nd, hb, hT, q⟩ := q1
  obtain rfl : v = Value.ref l := r1
  show wpAny _ _ (evalAll [do let v ← eval (.Lambda (rowP _) (rowB p1 p2 p3 p4 p5 p6 p7 p8 p9) rowS lpos) X.env; standAt pos; pure v]) _ _ s1
  refine wpAny_evalAll_cons (wpAny_bind (LamX.lam_make2 I1 TB hcode hmT hu hT rfl (fun y hy e => ?_) fun fa c' pm ctv H2 s2 I2 eN T2 hfo hfn hfr hco => wpAny_bind (wpAny_standAt (wpAny_pure (wpAny_evalAll_nil ?_)))))
  · rcases List.mem_cons.mp hy with z | hy
    · rw [z] at e; cases e
    · rw [List.mem_singleton.mp hy] at e; cases e
  show wpAny _ _ (call (.builtin "sorted") [.ref l] [(Str.ofString "key", .ref fa)]) _ _ s2
  have hs2 := sql_ext eN hs
  obtain ⟨its, rv, hl2, hz⟩ := I2.list hs2
  have hf2 := hf.mk (tk_of_ext eN) pd_mk
  have lvf := hf2.len
  rw [List.length_map] at lvf
  have ea := rk_each hf2 rv
  have hun := hr.un
  refine sorted_key_data (b := false) (fun x : V × (List Int × Int) => rkey x.2) hl2.isList ea (AllAlike.of fun a b => ?_) (Sortable.tuples fun _ => ⟨_, _, rfl⟩) ?_ (fun x _ => ?_) (ksk_s1 _ _) (fun _ => ksk_l1 _ _) (fun _ => ksk_t1 _ _) (fun v x hR hx g tk kp => ?_) fun out cc h' tk kp fresh hD hlen eo => ?_
  · rw [rkey, rkey]; simp only [alike, alikeAll, Bool.true_and, Bool.and_true]; exact alike_ints _ _
  · rw [List.length_zip]; exact sz_of (by omega)
  · have : (rkey x.2).depth = 2 := by
      rw [rkey, PyData.depth, PyData.depthAll, PyData.depthAll, PyData.depthAll, PyData.depth, PyData.depth, depth_ints]; rfl
    rw [this]; omega
  · obtain ⟨y, e⟩ := x
    obtain ⟨hR1, a, us, rfl, h2, h3⟩ := hR
    obtain rfl : v = Value.ref a := hR1
    obtain ⟨y1, y2, rfl, ⟨b, rfl, hbt⟩, hy2⟩ := all2_2 h3
    obtain rfl : y2 = V.int e.2 := hy2
    obtain ⟨ia, ra, pa, za⟩ := I2.tuple (SqT.of h2)
    obtain ⟨u1, u2, rfl, r1, r2⟩ := vals2 ra
    obtain rfl : u1 = Value.ref b := r1
    obtain ⟨t, rfl⟩ := (show ∃ t, u2 = Value.int e.2 t from r2)
    obtain ⟨ib, rb, pb, zb⟩ := I2.tuple (SqT.of hbt)
    have lb := rb.length
    rw [List.length_map] at lb
    have hbe := hb e (List.of_mem_zip hx).2
    obtain ⟨mb, m1, m2⟩ := I2.mod.blt
    obtain ⟨⟨oc, vs', t', hoc, hdc, hvc⟩, _, _⟩ := I2.hok c' _ hco
    have IT : ∀ {a : Addr} {items : Array Value}, IsTup s2.heap a items → IsTup g a items := fun ⟨o, x1, x2⟩ => ⟨o, kp _ _ x1, x2⟩
    have rd : Reads g (.ref b) (.tuple (e.1.map PyData.int)) [] := by
      obtain ⟨o, x1, x2, n, x3⟩ := IT pb
      exact .tuple x1 x2 x3 (ints_reads rb)
    exact lam_turn (mg := X.mg) (mb := mb) (s := { s2 with heap := g, toks := tk }) (kp _ _ hfo) ⟨c', oc, vs', t', rfl, kp _ _ hoc, hdc, hvc⟩ (by show X.A.depth < _; have := hr.dp; omega) (I2.nolimit.keeps kp) ((I2.mod.glob.keeps I2.bk).keeps kp) hml ((m1.keeps I2.bk).keeps kp) ((m2 _ (by decide)).trans rfl)
      (IT pa) (IT pb) rd (by rw [List.size_toArray]; exact lb.symm) hbe
  · obtain ⟨o1, o2⟩ := rk_out eo
    rw [rank_merge vs f lvf nd] at o2
    have lo := o1.length
    have hn : H2 (s2.heap.objs.size + 1) = none := I2.hok.fresh (Nat.le_succ _)
    generalize hov : ((vs.zip f).mergeSort (dataLe false fun x : V × (List Int × Int) => rkey x.2)).map (fun x => x.1) = ov at o1 o2 lo
    have sn : Same H2 (upd H2 (s2.heap.objs.size + 1) (.lst ov)) := Same.new hn
    rw [List.length_zip] at hlen
    exact ⟨.ref _, _, I2.laid (t' := tk) (o := .lst ov) kp (Nat.le_succ _) ⟨sz_of (by omega), out, cc, o1, hD⟩, rfl, q _ _ _ upd_same (eN.trans (LamX.ExtN.of sn)) (T2.ext sn) (o2.mono sn fun d hd => (pd_mk d hd).md)⟩
end Rw
end
section
set_option maxRecDepth 100000
set_option maxHeartbeats 4000000
namespace Rw
open PySem PySem.Spec PyProof.Rows L2 Rf
variable {K : PySem.W.Frag}
/-- all described as before: new things, and tables may have grown -/
def PfX {α : Type} (T : List (Addr × Str)) (ds : α → List PV) (ok : α → Prop) (res : α → PV) : Sp := fun vs H Q _ => ∃ a, ok a ∧ All2 (ds a) vs H ∧ LamX.Tabs T H ∧ ∀ v H', LamX.ExtN H H' → LamX.Tabs T H' → res a v H' → Q v H'
def Lds (ds : List PV) : PV := fun v H => ∃ p us, v = .ref p ∧ H p = some (.lst us) ∧ All2 ds us H
theorem Lds.ld {ds : List PV} {v : V} {H : Hp} (h : Lds ds v H) : Ld K ds v H := by
  obtain ⟨p, us, e, h1, h2⟩ := h
  exact ⟨p, us, e, SqL.of h1, h2⟩
theorem Lds.mono {ds : List PV} (m : ∀ d ∈ ds, Md d) : Md (Lds ds) := fun _ _ _ e ⟨p, us, a, b, c⟩ => ⟨p, us, a, e _ _ b, c.mono e m⟩
theorem tk_unlockT {H : Hp} {d : Addr} {od : Obj} {kvs : List (List Key × V)} (h : H d = some (.frz od (.dT kvs))) : Tk H (upd H d (.dT kvs)) := by
  have n1 : ∀ a xs, H a = some (.tup xs) → a ≠ d := fun a xs e z => by rw [z, h] at e; cases e
  have n2 : ∀ a ob xs, H a = some (.frz ob (.tup xs)) → a ≠ d := fun a ob xs e z => by rw [z, h] at e; cases e
  refine ⟨fun a xs q => ?_, fun a xs q => by rw [upd_ne (n1 a xs q)]; exact q⟩
  rcases q with q | ⟨ob, q⟩
  · exact .inl (by rw [upd_ne (n1 a xs q)]; exact q)
  · exact .inr ⟨ob, by rw [upd_ne (n2 a ob xs q)]; exact q⟩
structure DfT (K : PySem.W.Frag) (mg : Str → Option Value) (x : Str) (st : Stmt) (ps : List Str) (c : Addr) : Prop where
  ex : ∃ (f : Addr) (oc : Value) (od : Option Addr) (kV doc pm : Value) (an : Option Addr) (ct : Value) (osl : Array (Option Value)), K.lookup f = some ⟨oc, od, .func (PySem.W.fnOf x x (defArgs st) (defBody st) (defScope st) .none kV doc pm an (.ref c) ct), osl⟩ ∧
    PySem.W.codeIn K (.ref c) x = true ∧ mg x = some (.ref f) ∧ PySem.W.keepIn K (.ref f) = true ∧ Binds K (PySem.W.fnOf x x (defArgs st) (defBody st) (defScope st) .none kV doc pm an (.ref c) ct) ps []
section
variable {P : Program} {w : World} {mg : Str → Option Value} {base : Heap}
theorem cal_ofT {x : Str} {st : Stmt} {N ps : List Str} {k : Nat} {sp : Sp} {c : Addr} (D : DfT K mg x st ps c) (S : FnScope N ps (defScope st)) (len : ∀ vs H Q E, sp vs H Q E → vs.length = ps.length)
    (hbody : ∀ (f : Addr) (A : Around) (outer : List Env) (s : Shared) (H : Hp) (vs : List V) (Q : VK) (E : XK), Room k (A.deeper (envOfC x (defScope st) s.heap.objs.size f (.ref c))) → sp vs H Q E →
      ∃ t, PSs (cxOf CX0 P w K mg base N x (defScope st) f (.ref c) A outer s H E).nox (defBody st) t ∧ t { nx := fun _ H' => Q .non H', rt := Q } (start N vs) H) : Cal P w K mg base (k + 1) x sp := by
  obtain ⟨f, oc, od, kV, doc, pm, an, ct, osl, lk, hcd, hm, kp, b⟩ := D.ex
  refine ⟨f, _, ps, fn_of lk hcd S len fun A outer s H vs Q E hr hsp => ?_, hm, kp, b⟩
  obtain ⟨t, h, q⟩ := hbody f A outer s H vs Q E hr hsp
  exact ⟨t, h.nox, q⟩
abbrev s_in_rank : Stmt := topS 45
abbrev N_in_rank : List Str := ["found", "part"]
theorem sc_in_rank : FnScope N_in_rank ["found"] (defScope s_in_rank) := ⟨rfl, rfl, rfl, by decide +kernel, rfl, by decide +kernel, by decide +kernel⟩

abbrev qIR : Str := Str.ofString "in_rank" ++ Str.ofString ".<locals>." ++ Str.ofString "<lambda>"
def p_in_rank (T : List (Addr × Str)) : Sp := PfX T (fun f : Bag => [Dt f]) (fun f => f.length ≤ 10000 ∧ (f.map (·.1)).Nodup ∧ (∀ e ∈ f, e.1.length ≤ 1000)) (fun f => Lds ((inRank f).map Pd))
theorem el_pairs {σ : L2.St} {H : Hp} {d : Addr} {f : Bag} (hσ : σ[0]? = some (some (.ref d))) (hd : H d = some (.dT (bagK f))) (nd : (f.map (·.1)).Nodup) (hl : f.length ≤ 10000) (h01 : σ.length = 2) (Q : VK)
    (q : ∀ p us H', H' p = some (.lst us) → Same H H' → All2 (f.map Pd) us H' → Q (.ref p) H') : tLockE (tLc (iKeys (tVar 0)) (gName 1) tYes (tTup (tCons (tVar 1) (tCons (tDGet (tVar 0) (tVar 1)) tNil))) [1]) σ H Q := by
  refine ⟨d, .dT (bagK f), hd, trivial, fun od => ?_⟩
  have hf : (upd H d (.frz od (.dT (bagK f)))) d = some (.frz od (.dT (bagK f))) := upd_same
  have lk : (bagK f).length = f.length := by rw [bagK, List.length_map]
  refine ⟨_, hσ, ?_⟩
  refine ⟨d, od, rfl, .inr ⟨bagK f, hf, fun D hD => ?_⟩⟩
  have hDd : D ≠ d := fun z => by rw [z, hf] at hD; cases hD
  refine ⟨fun i mm H' => mm = f.length - i ∧ i ≤ f.length ∧ Same (upd H d (.frz od (.dT (bagK f)))) H' ∧ ∃ us, H' D = some (.lst us) ∧ All2 ((f.take i).map Pd) us H', ⟨f.length, by simp, Nat.zero_le _, Same.new hD, [], upd_same, trivial⟩, ?_⟩
  rintro i mm H' ⟨rfl, hi, e3, us, hus, ha⟩
  have hf' := e3 _ _ hf
  by_cases hlt : i < f.length
  · refine .inr ⟨⟨hf', by omega⟩, fun H3 => Same (upd H d (.frz od (.dT (bagK f)))) H3 ∧ ∃ us, H3 D = some (.lst us) ∧ All2 ((f.take (i + 1)).map Pd) us H3, fun H3 p' => ⟨f.length - (i + 1), by omega, rfl, hlt, p'⟩, ?_⟩
    rintro x H'' ⟨rfl, k, v, b, hk, rfl, hb⟩
    rw [bagK, List.getElem?_map, List.getElem?_eq_getElem hlt] at hk
    have hkv : (tk f[i].1, V.int f[i].2) = (k, v) := Option.some.inj hk
    have ek : tk f[i].1 = k := congrArg Prod.fst hkv
    have hm := List.getElem_mem hlt
    have hwv : (wipe σ [1]).set 1 (some (V.ref b)) = σ.set 1 (some (V.ref b)) := by simp [wipe]
    refine ⟨by simp [wipe], ?_⟩
    have s0 : ((wipe σ [1]).set 1 (some (V.ref b)))[0]? = some (some (.ref d)) := by
      rw [hwv, List.getElem?_set_ne (by decide)]; exact hσ
    have s1 : ((wipe σ [1]).set 1 (some (V.ref b)))[1]? = some (some (.ref b)) := by
      rw [hwv, List.getElem?_set_self (by omega)]
    refine ⟨_, s1, _, s0, _, s1, d, .int f[i].2, rfl, .inr ⟨_, tk f[i].1, b, .inr ⟨od, hf'⟩, rfl, by rw [ek]; exact hb, (bag_at nd hm).symm⟩, by show 2 ≤ sizeLine; decide, fun p hp => ?_⟩
    have sn : Same H'' (upd H'' p (.tup [.ref b, .int f[i].2])) := Same.new hp
    have hbt : H'' b = some (.tup (f[i].1.map V.int)) := by rw [← tk_kV, ek]; exact hb
    refine ⟨us, sn _ _ hus, sz_lt (by have := ha.len; rw [List.length_map, List.length_take] at this; omega), Same.mut (e3.trans sn) hD, _, upd_same, ?_⟩
    have tk' : Tk (upd H'' p (.tup [.ref b, .int f[i].2])) (upd (upd H'' p (.tup [.ref b, .int f[i].2])) D (.lst (us ++ [.ref p]))) := Tk.upd (sn _ _ hus) trivial
    rw [take_snoc (List.getElem?_eq_getElem hlt), List.map_append]
    refine All2.app (ha.mk ((Tk.of sn).trans tk') pd_mk) ⟨?_, trivial⟩
    exact ⟨p, _, rfl, tk'.at' _ _ upd_same, ⟨b, rfl, tk'.at' _ _ (sn _ _ hbt)⟩, rfl, trivial⟩
  · have e4 : i = f.length := by omega
    subst e4
    rw [List.take_length] at ha
    refine .inl ⟨⟨hf', by omega⟩, hf', ?_⟩
    have n1 : ∀ a xs, H' a = some (.tup xs) → a ≠ d := fun a xs e z => by rw [z, hf'] at e; cases e
    refine q D us _ (by rw [upd_ne hDd]; exact hus) (fun a o h => ?_) (ha.mk (tk_unlockT hf') pd_mk)
    by_cases z : a = d
    · subst z
      rw [upd_same]; rw [hd] at h; exact h
    · rw [upd_ne z]
      exact e3 _ _ (by rw [upd_ne z]; exact h)
theorem s_retSort {T : List (Addr × Str)} {te : TE} {D : Ends} {σ : L2.St} {H : Hp} (h : te σ H (fun v H1 => ∃ (l : Addr) (vs : List V) (f : Bag), v = .ref l ∧ SqL K H1 l vs ∧ All2 (f.map Pd) vs H1 ∧ f.length ≤ 10000 ∧ (f.map (·.1)).Nodup ∧ (∀ e ∈ f, e.1.length ≤ 1000) ∧ LamX.Tabs T H1 ∧
  ∀ H2 p us, H2 p = some (.lst us) → LamX.ExtN H1 H2 → LamX.Tabs T H2 → All2 ((inRank f).map Pd) us H2 → D.rt (.ref p) H2)) : tRet (tSortR K T te) D σ H := h
theorem ok_in_rank {T : List (Addr × Str)} {c P' : Addr} (D : DfT K mg "in_rank" s_in_rank ["found"] c) (Bt : Bts mg) (TB : LamX.TabB base mg c P') (hmT : (P', qIR) ∈ T) (hu : ∀ p ∈ T, p.1 = P' → p.2 = qIR) : Cal P w K mg base 1 "in_rank" (p_in_rank T) := by
  refine cal_ofT D sc_in_rank (fun vs H Q E ⟨a, _, h, _⟩ => h.len) fun fa A outer s H vs Q E hr ⟨f, ⟨hl, nd, hb⟩, hds, hT, q⟩ => ?_
  dsimp only at *
  obtain ⟨x1, rfl, d, rfl, hd⟩ := all2_1 hds
  refine ⟨_, (pss_one (ps_ret (pe_sortLam (K := K) (T := T) rfl (by rfl) Bt.sorted Bt.len hr TB rfl hmT hu (pe_lock (pe_lc (own := [("part", 1)]) rfl sc_in_rank.nd (pi_keys (pv 0)) (blkOk_by (N := N_in_rank) (sc := defScope s_in_rank) (by decide +kernel)) (fun _ _ _ _ _ => (pg_name (i := 1) sc_in_rank.nd rfl (by first | exact .inl rfl | exact .inr rfl))) (fun _ _ _ _ _ => pts_nil) (fun _ _ _ _ _ => (pe_tup (pa_cons (pv 1) (pa_cons (pe_dget (hu_of hr) (pv 0) (pv 1) (fun _ _ => rfl)) pa_nil))))))))), ?_⟩
  refine s_retSort ?_
  refine el_pairs ?_ hd nd hl ?_ _ fun p us H1 e1 s1 a1 => ?_
  · rfl
  · rfl
  exact ⟨p, us, f, rfl, SqL.of e1, a1, hl, nd, hb, hT.ext s1, fun H2 p2 us2 e2 eN T2 a2 => q _ H2 ((LamX.ExtN.of s1).trans eN) T2 ⟨p2, us2, rfl, e2, a2⟩⟩
end
end Rw
end
section
set_option maxRecDepth 100000
set_option maxHeartbeats 4000000
namespace Rw
open PySem PySem.Spec PyProof.Rows L2 Rf
variable {K : PySem.W.Frag}
theorem toL_next (rule first : List Int) (p : Int) : ∀ (k : Nat) (cur : List Int) (i : Nat), i + 1 ≤ k → ∃ l, (toL rule first p k cur)[i]? = some l ∧ (toL rule first p k cur)[i + 1]? = some (putThrough l first rule p)
  | 0, _, _, h => by omega
  | k + 1, cur, 0, h => by
    refine ⟨cur, by rw [toL]; rfl, ?_⟩
    rw [toL, List.getElem?_cons_succ]
    cases k <;> rfl
  | k + 1, cur, i + 1, h => by
    rw [toL, List.getElem?_cons_succ, List.getElem?_cons_succ]
    exact toL_next rule first p k _ i (by omega)
def Sd (x : List Int × List Int) : PV := Tds [Ts x.1, Ts x.2]
theorem Sd.mk {x : List Int × List Int} : Mk (Sd x) := Tds.mk two_mk
theorem sd_mk {ls : List (List Int × List Int)} : ∀ d ∈ ls.map Sd, Mk d := fun d hd => by
  obtain ⟨l, _, e⟩ := List.mem_map.mp hd
  rw [← e]; exact Sd.mk
section
variable {σ : L2.St} {H H' : Hp} {ta tb tc td ty tv te tl : TE} {D : Ends} {tz : L2.TS}
theorem iter_zS {a b : Addr} {ds es : List PV} {vs us : List V} {B : Hp} (md : ∀ d ∈ ds, Mk d) (me : ∀ d ∈ es, Mk d) (hv : All2 ds vs B) (hu : All2 es us B) (hl : es.length ≤ ds.length) : Iter (Itz K a b) es.length (fun H => (SqL K H a vs ∧ Tk B H) ∧ SqL K H b us ∧ Tk B H) (two (nth ds) (nth es)) where
  go := fun i H hi ⟨⟨h, _⟩, h', _⟩ => ⟨vs, us, vs[i]'(by rw [hv.len]; omega), us[i]'(by rw [hu.len]; omega), h, h', List.getElem?_eq_getElem _, List.getElem?_eq_getElem _⟩
  stop := fun H ⟨⟨h, _⟩, h', _⟩ => ⟨vs, us, h, h', .inr (by rw [hu.len]; exact Nat.le_refl _)⟩
  yld := fun i H x H' hi ⟨⟨h, e⟩, h', _⟩ ⟨T, y, z, e1, e2, e3, q, q'⟩ => by
    rw [e3]
    have e4 := e.trans (Tk.of (Same.new (o := .tup [y, z]) e2))
    exact ⟨Same.new e2, T, _, _, e1, upd_same, nth_of md hv e4 (q vs h), nth_of me hu e4 (q' us h')⟩
/-- zip of a list that stands and a part of it -/
theorem ei_zipLS {a : Addr} {ds es : List PV} {vs us : List V} (h : Ev ta σ H (isV (.ref a))) (g : EvL tb σ H us) (hs : SqL K H a vs) (hv : All2 ds vs H) (hu : All2 es us H) (md : ∀ d ∈ ds, Mk d) (me : ∀ d ∈ es, Mk d) (hl : es.length ≤ ds.length) :
    EvI (RZ.iZipA K (tCons ta (tCons tb tNil))) σ H es.length (two (nth ds) (nth es)) [a] := fun H1 e R q =>
  h.run H1 e _ fun x H2 e2 p => g H2 (e.trans e2) _ fun b H3 hb e3 h3 => ⟨a, b, vs, us, by rw [show x = _ from p], by
    have e4 := (e.trans e2).trans e3
    exact .inl ⟨e4.seq hs, SqL.of h3, q _ _ H3 (e2.trans e3) ⟨⟨e4.seq hs, Tk.refl _⟩, SqL.of h3, Tk.refl _⟩ ((src_l (.inl (by simp))).and (src_l (.inr (e2.free hb)))) (iter_zS md me (hv.mono e4 fun d hd => (md d hd).md) (hu.mono e4 fun d hd => (me d hd).md) hl)⟩⟩
theorem el_fromV {a : Addr} {xs : List V} {n : Nat} (ha : Ev ta σ H (isV (.ref a))) (hs : SqL K H a xs) (hn : Ev tb σ H (isV (.int n))) : EvL (tSl (rSlL K) ta (tPart tb) tNoPart) σ H (xs.drop n) := by
  have := el_slice (K := K) (xs := xs) (fun H1 e Q q => ha.run H1 e _ fun v H2 e2 p => q v H2 e2 ⟨a, p, (e.trans e2).seq hs⟩) (eo_some hn) eo_none
  rw [cutV_from] at this
  exact this
theorem ev_small {mg : Str → Option Value} (Gb : Gbs K mg) : Ev (tC (.ref Gb.aS)) σ H (Ti K (SMALL.map fun q : Nat => (q : Int))) := ev_cP Ti.mono ⟨_, rfl, Gb.sS H⟩
end
theorem All2.drop {H : Hp} : ∀ {ds : List PV} {vs : List V} (n : Nat), All2 ds vs H → All2 (ds.drop n) (vs.drop n) H
  | _, _, 0, h => h
  | [], [], n + 1, _ => by rw [List.drop_nil, List.drop_nil]; trivial
  | d :: ds, v :: vs, n + 1, h => All2.drop n h.2
  | [], _ :: _, _, h => h.elim
  | _ :: _, [], _, h => h.elim
theorem small_bd : ∀ q ∈ SMALL, 2 ≤ q ∧ q ≤ 23 := by decide
section
variable {P : Program} {w : World} {mg : Str → Option Value} {base : Heap}
abbrev s_turns_of : Stmt := topS 51
abbrev N_turns_of : List Str := ["rule", "prime", "found"]
theorem sc_turns_of : FnScope N_turns_of ["rule", "prime"] (defScope s_turns_of) := ⟨rfl, rfl, rfl, by decide +kernel, rfl, by decide +kernel, by decide +kernel⟩

def p_turns_of (K : PySem.W.Frag) : Sp := PfL (fun a : List Int × Int => [Ti K a.1, isV (.int a.2)]) (fun a => Ru a.2 a.1 ∧ 2 ≤ a.1.length ∧ a.1.length ≤ 50) (fun a => (turnsOf a.1 a.2).map Ts)
theorem ok_turns_of (D : Df K mg "turns_of" s_turns_of ["rule", "prime"]) (Bt : Bts mg) (Gb : Gbs K mg) (c_left_raised : Cal P w K mg base 5 "left_raised" (p_left_raised K)) (c_put_through : Cal P w K mg base 5 "put_through" (p_put_through K)) : Cal P w K mg base 6 "turns_of" (p_turns_of K) := by
  refine cal_of D sc_turns_of (fun vs H Q E ⟨a, _, h, _⟩ => h.len) fun f cdv A outer s H vs Q E hr ⟨⟨rule, p⟩, ⟨u, h2, hl⟩, hds, q⟩ => ?_
  dsimp only at *
  obtain ⟨x1, x2, rfl, hx, rfl⟩ := all2_2 hds
  have hp := u.pr
  have bd := hp.bd
  obtain ⟨pl, po⟩ := turns_ok u (by omega)
  refine ⟨_, (pss_cons (ps_set (i := 2) sc_turns_of.nd rfl (by first | exact .inl rfl | exact .inr rfl) (pe_lst (pa_cons (pe_d c_left_raised hr (by decide) (by rfl) (pa_cons (pe_glob (v := .ref Gb.aX) (by rfl) Gb.PLAIN_X rfl) (pa_cons (pv 1) (pa_cons (pv 0) (pa_cons (pv 1) pa_nil))))) pa_nil)))
      (pss_cons (ps_while PassesOwn.never (pt_cmpR op_lt (pe_callB (call_lenK (K := K)) (by rfl) Bt.len PySem.boot_len (pa_cons (pv 2) pa_nil)) (pe_op op_sub (pe_callB (call_lenK (K := K)) (by rfl) Bt.len PySem.boot_len (pa_cons (pv 0) pa_nil)) pe_int) (nomark _)) (pss_one (ps_expr (pe_bm PySem.F.plainAttrs_list PySem.F.slot_list_append PySem.F.type_list_append mt_append (pv 2) (pa_cons (pe_d c_put_through hr (by decide) (by rfl) (pa_cons (pe_ix (ix_listK (K := K)) (pv 2) (pe_un un_neg pe_int) (fun _ _ => rfl)) (pa_cons (pe_ix (ix_listK (K := K)) (pv 2) pe_int (fun _ _ => rfl)) (pa_cons (pv 0) (pa_cons (pv 1) pa_nil))))) pa_nil)))))
      (pss_one (ps_ret (pv 2))))), ?_⟩
  have st := leftRaised_ok u (Cn.X hp).rg (show 0 ≤ p by omega)
  have pn := fun i (hi : i + 1 ≤ rule.length - 2) => toL_next rule (leftRaised [0, 1] p rule p) p (rule.length - 2) (leftRaised [0, 1] p rule p) i hi
  have p0 : (turnsOf rule p)[0]? = some (leftRaised [0, 1] p rule p) := by
    rw [turnsOf]; cases rule.length - 2 <;> rfl
  change ∀ i, i + 1 ≤ rule.length - 2 → ∃ l, (turnsOf rule p)[i]? = some l ∧ (turnsOf rule p)[i + 1]? = some (putThrough l (leftRaised [0, 1] p rule p) rule p) at pn
  refine q_setD (eld_lst (ea_cons (ev_left_raised (ev_plain Gb) (ev_i 1 rfl) (ev_v 0 Ti.mono rfl hx) (ev_i 1 rfl) u (Cn.X hp).rg (by omega) (by simp) (by omega)) ea_nil)) fun l us H2 n2 s2 e2 al => ?_
  have hx := Ti.mono _ _ _ s2 hx
  refine q_while (fun m σ H' => ∃ vs, σ = [some x1, some (.int p), some (.ref l)] ∧ Tk H2 H' ∧ Fr [l] H2 H' ∧ H' l = some (.lst vs) ∧ m + 1 ≤ rule.length ∧ 1 ≤ rule.length - 1 - m ∧ All2 (((turnsOf rule p).take (rule.length - 1 - m)).map Ts) vs H') (rule.length - 2)
    ⟨us, rfl, Tk.refl _, Fr.refl _, e2, by omega, by omega, by
      rw [show rule.length - 1 - (rule.length - 2) = 0 + 1 by omega, take_snoc p0]
      exact al⟩ ?_
  rintro m σ' H' ⟨vs, rfl, tk, fr, el, hm, hm2, av⟩
  have hx := Ti.mk _ _ _ tk hx
  have avl := av.len
  rw [List.length_map, List.length_take, pl] at avl
  have hld : ∀ H3, Same H' H3 → Ld K (((turnsOf rule p).take (rule.length - 1 - m)).map Ts) (.ref l) H3 := fun H3 s3 => ⟨l, vs, rfl, SqL.of (s3 _ _ el), av.mono s3 fun d hd => (ts_md d hd).md⟩
  have lmd := Ld.mono (K := K) (fun d hd => (ts_md (rows := (turnsOf rule p).take (rule.length - 1 - m)) d hd).md)
  refine ⟨decide (0 < m), Ev.is (x := .bl (decide (((((turnsOf rule p).take (rule.length - 1 - m)).map Ts).length : Int) < (rule.length : Int) - 1))) ?_ ?_ |> et_test, fun hb H3 s3 => ?_, fun hb H3 s3 => ?_⟩
  · exact ev_I0 (ev_lenLD (ev_v 2 lmd rfl (hld _ (Same.refl _)))) (ev_I0 (ev_lenT (ev_v 0 Ti.mono rfl hx)) ev_c)
  · rw [List.length_map, List.length_take, pl]
    congr 1
    apply decide_eq_decide.mpr
    omega
  · have hm0 : 0 < m := by simpa using hb
    obtain ⟨c, hc1, hc2⟩ := pn (rule.length - 1 - m - 1) (by omega)
    rw [show rule.length - 1 - m - 1 + 1 = rule.length - 1 - m by omega] at hc2
    have hrm := po _ _ hc1
    have cl := hrm.cn
    have ll := hrm.lt
    have sl := st.lt
    have hlast : (((turnsOf rule p).take (rule.length - 1 - m)).map Ts).getLast? = some (Ts c) := by
      rw [show rule.length - 1 - m = (rule.length - 1 - m - 1) + 1 by omega, take_snoc hc1, List.map_append]
      simp
    have hfirst : (((turnsOf rule p).take (rule.length - 1 - m)).map Ts)[0]? = some (Ts (leftRaised [0, 1] p rule p)) := by
      rw [List.getElem?_map, List.getElem?_take_of_lt (by omega), p0]; rfl
    refine s_app (s3 _ _ el) (ev_i 2 rfl) (ev_put_through (ev_lastL (ev_v 2 lmd rfl (hld _ s3)) (ev_neg ev_c) hlast Ts.mk.md).ti (ev_ixL (n := 0) (ev_v 2 lmd rfl (hld _ s3)) ev_c hfirst Ts.mk.md).ti (ev_v 0 Ti.mono rfl (Ti.mono _ _ _ s3 hx)) (ev_i 1 rfl) u cl.rg st.cn.rg (by omega) (by omega) (by omega)) (by omega) fun v H4 s4 h4 => ?_
    have e4 := s4 _ _ (s3 _ _ el)
    have tk4 : Tk H4 (upd H4 l (.lst (vs ++ [v]))) := Tk.upd e4 trivial
    refine ⟨m - 1, by omega, _, rfl, (tk.trans (Tk.of (s3.trans s4))).trans tk4, (fr.trans (Fr.of (s3.trans s4))).trans (Fr.upd (by simp)), upd_same, by omega, by omega, ?_⟩
    rw [show rule.length - 1 - (m - 1) = (rule.length - 1 - m) + 1 by omega, take_snoc hc2, List.map_append]
    exact All2.app (av.mk ((Tk.of (s3.trans s4)).trans tk4) ts_md) ⟨Ts.mk _ _ _ tk4 h4, trivial⟩
  · have hm0 : m = 0 := by simpa using hb
    subst hm0
    rw [Nat.sub_zero, List.take_of_length_le (by rw [pl]; exact Nat.le_refl _)] at av
    have sm : Same H H' := fun a o h => fr a o (fun z => by
      rw [List.mem_singleton.mp z, n2] at h; cases h) (s2 _ _ h)
    refine s_ret (P := isV (.ref l)) (ev_i 2 rfl) fun v H4 s4 h4 => ?_
    obtain rfl := h4
    exact q l vs H4 n2 (sm.trans (s3.trans s4)) (s4 _ _ (s3 _ _ el)) (av.mono (s3.trans s4) fun d hd => (ts_md d hd).md)
abbrev s_shows_of : Stmt := topS 52
abbrev N_shows_of : List Str := ["rule", "turns", "prime", "many", "found", "one", "made"]
theorem sc_shows_of : FnScope N_shows_of ["rule", "turns", "prime"] (defScope s_shows_of) := ⟨rfl, rfl, rfl, by decide +kernel, rfl, by decide +kernel, by decide +kernel⟩

def p_shows_of (K : PySem.W.Frag) : Sp := PfL (fun a : List Int × List (List Int) × Int => [Ti K a.1, Lds (a.2.1.map Ts), isV (.int a.2.2)]) (fun a => Ru a.2.2 a.1 ∧ 2 ≤ a.1.length ∧ a.1.length ≤ 50 ∧ a.2.1.length = a.1.length - 1 ∧ ∀ t ∈ a.2.1, t.length ≤ 50) (fun a => (showsOf a.1 a.2.1 a.2.2).map Sd)
theorem ok_shows_of (D : Df K mg "shows_of" s_shows_of ["rule", "turns", "prime"]) (Bt : Bts mg) (Gb : Gbs K mg) (c_less : Cal P w K mg base 3 "less" (p_less K)) (c_shared : Cal P w K mg base 4 "shared" (p_shared K)) : Cal P w K mg base 5 "shows_of" (p_shows_of K) := by
  refine cal_of D sc_shows_of (fun vs H Q E ⟨a, _, h, _⟩ => h.len) fun f cdv A outer s H vs Q E hr ⟨⟨rule, turns, p⟩, ⟨u, h2, hl, htl, htt⟩, hds, q⟩ => ?_
  dsimp only at *
  obtain ⟨x1, x2, x3, rfl, hx, ht, rfl⟩ := all2_3 hds
  have hp := u.pr
  have bd := hp.bd
  obtain ⟨n, hn⟩ : ∃ n, rule.length - 1 = n := ⟨_, rfl⟩
  refine ⟨_, (pss_cons (ps_set (i := 3) sc_shows_of.nd rfl (by first | exact .inl rfl | exact .inr rfl) (pe_op op_sub (pe_callB (call_lenK (K := K)) (by rfl) Bt.len PySem.boot_len (pa_cons (pv 0) pa_nil)) pe_int))
      (pss_cons (ps_set (i := 4) sc_shows_of.nd rfl (by first | exact .inl rfl | exact .inr rfl) (pe_lst pa_nil))
      (pss_cons (ps_for PassesOwn.never rfl (pi_tup (pe_glob (v := .ref Gb.aS) (by rfl) Gb.SMALL_PRIMES rfl)) (pg_name (i := 5) sc_shows_of.nd rfl (by first | exact .inl rfl | exact .inr rfl)) (pss_one (ps_if (pt_cmpR op_eq (pe_op op_mod (pv 3) (pv 5)) pe_int (nomark _)) (pss_cons (ps_set (i := 6) sc_shows_of.nd rfl (by first | exact .inl rfl | exact .inr rfl) (pe_d c_shared hr (by decide) (by rfl) (pa_cons (pe_d c_less hr (by decide) (by rfl) (pa_cons (pe_ix (ix_listK (K := K)) (pv 1) (pe_op op_sub (pe_op op_fdiv (pv 3) (pv 5)) pe_int) (fun _ _ => rfl)) (pa_cons (pe_glob (v := .ref Gb.aX) (by rfl) Gb.PLAIN_X rfl) (pa_cons (pv 2) pa_nil)))) (pa_cons (pv 0) (pa_cons (pv 2) pa_nil)))))
      (pss_one (ps_expr (pe_bm PySem.F.plainAttrs_list PySem.F.slot_list_append PySem.F.type_list_append mt_append (pv 4) (pa_cons (pe_tup (pa_cons (pe_ix (ix_tupK (K := K)) (pv 6) pe_int (fun _ _ => rfl)) (pa_cons (pe_ix (ix_tupK (K := K)) (pv 6) pe_int (fun _ _ => rfl)) pa_nil))) pa_nil))))) pss_nil)))
      (pss_one (ps_ret (pv 4)))))), ?_⟩
  refine q_set (P := isV (.int n)) (Ev.is (ev_I0 (ev_lenT (ev_v 0 Ti.mono rfl hx)) ev_c) (by congr 1; omega)) fun v H1 s1 h1 => ?_
  obtain rfl := h1
  refine q_setL el_nil fun l H2 n2 s2 e2 => ?_
  obtain ⟨a, tv, rfl, ha, hta⟩ := ht
  have hal : a ≠ l := fun z => by
    have := s1 _ _ ha
    rw [z, n2] at this; cases this
  have hx := Ti.mono _ _ _ (s1.trans s2) hx
  have ha2 := s2 _ _ (s1 _ _ ha)
  have hta2 := hta.mono (s1.trans s2) fun d hd => (ts_md d hd).md
  refine q_forM (ei_tupI (ev_small Gb)) [l] (muts1 e2) (fun p hp => by simp) (fun i σ' H' => ∃ (vs : List V) (c5 c6 : Option V), σ' = [some x1, some (.ref a), some (.int p), some (.int n), some (.ref l), c5, c6] ∧ Fr [l] H2 H' ∧ H' l = some (.lst vs) ∧ All2 ((((SMALL.take i).filter fun q => decide ((rule.length - 1) % q = 0)).map (showOf rule turns p)).map Sd) vs H')
    (fun B e => ⟨[], _, _, rfl, Fr.of e, e _ _ e2, trivial⟩) ?_ ?_
  · rintro T kp i σ' H' hi hT ⟨vs, c5, c6, rfl, fr, el, al⟩ x H'' s3 hx3 hT2
    rw [List.length_map] at hi
    obtain ⟨z, hz, rfl⟩ := nth_int hx3
    rw [List.getElem?_map, List.getElem?_eq_getElem hi] at hz
    obtain rfl : ((SMALL[i] : Nat) : Int) = z := Option.some.inj hz
    have hq := small_bd _ (List.getElem_mem hi)
    generalize hqq : SMALL[i] = q' at *
    have fr3 := fr.trans (Fr.of s3)
    have tk3 := fr3.tk (muts1 e2)
    have hx3 := Ti.mk _ _ _ tk3 hx
    have ha3 : H'' a = some (.lst tv) := fr3 a _ (by simpa using hal) ha2
    have hta3 := hta2.mk tk3 ts_md
    have lvs := al.len
    rw [List.length_map, List.length_map] at lvs
    have lf : ((SMALL.take i).filter fun q => decide ((rule.length - 1) % q = 0)).length ≤ 9 := Nat.le_trans (List.length_filter_le _ _) (by rw [List.length_take]; exact Nat.min_le_right _ _)
    refine s_when (b := decide (n % q' = 0)) (et_test (Ev.is (ev_eq rfl (ev_I (show (0 : Int) < q' by omega) (ev_i 3 rfl) (ev_i 5 rfl)) ev_c) ?_)) (fun hb H4 s4 => ?_) (fun hb H4 s4 => ?_)
    · congr 1
      apply decide_eq_decide.mpr
      constructor
      · intro h; have := V.int.inj h; omega
      · intro h; congr 1; omega
    · have hm := of_decide_eq_true hb
      have hdiv : 1 ≤ n / q' := by
        rcases Nat.lt_or_ge n q' with z | z
        · rw [Nat.mod_eq_of_lt z] at hm; omega
        · exact (Nat.one_le_div_iff (by omega)).mpr z
      have hdl : n / q' ≤ n := Nat.div_le_self _ _
      have hix : n / q' - 1 < turns.length := by omega
      have htu : turns[n / q' - 1]? = some (turns.getD (n / q' - 1) []) := by rw [List.getD_eq_getElem?_getD, List.getElem?_eq_getElem hix]; rfl
      have htl2 := htt _ (List.mem_of_getElem? htu)
      have hld : Ld K (turns.map Ts) (.ref a) H4 := ⟨a, tv, rfl, SqL.of (s4 _ _ ha3), hta3.mono s4 fun d hd => (ts_md d hd).md⟩
      have hx4 := Ti.mono _ _ _ s4 hx3
      have lb := len_blended (p := p) (turns.getD (n / q' - 1) []) [0, 1] (p - 1)
      have cl := cn_less (p := p) (by omega) (turns.getD (n / q' - 1) []) [0, 1]
      have ll : (less (turns.getD (n / q' - 1) []) [0, 1] p).length ≤ 50 := by
        show (blended _ _ _ _).length ≤ 50
        rw [show ([0, 1] : List Int).length = 2 from rfl] at lb
        omega
      refine q_set (ev_shared (ev_less (ev_ixL (n := n / q' - 1) (ev_v 1 (Ld.mono fun d hd => (ts_md d hd).md) rfl hld) (Ev.is (ev_I0 (ev_I ⟨by omega, by omega⟩ (ev_i 3 rfl) (ev_i 5 rfl)) ev_c) (by congr 1; omega)) (by rw [List.getElem?_map, htu]; rfl) Ts.mk.md).ti (ev_plain Gb) (ev_i 2 rfl) hp (by omega) (by simp)).ti (ev_v 0 Ti.mono rfl hx4) (ev_i 2 rfl) hp cl u.cn (by omega) (by omega)) fun v6 H5 s5 h6 => ?_
      have e5 := s5 _ _ (s4 _ _ (s3 _ _ el))
      refine s_app (P := Sd (showOf rule turns p q')) e5 (ev_i 4 rfl) ((ev_tupS (ea_cons (ev_f1 (ev_v 6 T3f.mk.md rfl h6) ev_c) (ea_cons (ev_f2 (ev_v 6 T3f.mk.md rfl h6) ev_c) ea_nil))).to Sd.mk.md fun v H h => by rw [showOf, hn]; exact h) (by omega) fun v7 H6 s6 h7 => ?_
      have e6 := s6 _ _ e5
      have tk6 : Tk H6 (upd H6 l (.lst (vs ++ [v7]))) := Tk.upd e6 trivial
      refine ⟨kp.upd _ _ _ _ (kp.same _ _ ((s4.trans s5).trans s6) hT2) e6 trivial (by simp), _, _, _, rfl, (fr3.trans (Fr.of ((s4.trans s5).trans s6))).trans (Fr.upd (by simp)), upd_same, ?_⟩
      rw [take_snoc (List.getElem?_eq_getElem hi), hqq, List.filter_append, List.filter_cons, if_pos (by rw [hn]; exact hb), List.filter_nil, List.map_append, List.map_append]
      exact All2.app (al.mk ((Tk.of (s3.trans ((s4.trans s5).trans s6))).trans tk6) sd_mk) ⟨Sd.mk _ _ _ tk6 h7, trivial⟩
    · refine ⟨kp.same _ _ s4 hT2, _, _, _, rfl, fr3.trans (Fr.of s4), s4 _ _ (s3 _ _ el), ?_⟩
      rw [take_snoc (List.getElem?_eq_getElem hi), hqq, List.filter_append, List.filter_cons, if_neg (by rw [hn, hb]; decide), List.filter_nil, List.append_nil]
      exact al.mono (s3.trans s4) fun d hd => (sd_mk d hd).md
  · rintro σ' H' fr' ⟨vs, c5, c6, rfl, fr, el, al⟩
    rw [List.length_map, List.take_length] at al
    have sm : Same H H' := fun a o h => fr a o (fun z => by
      rw [List.mem_singleton.mp z, s1.free n2] at h; cases h) (s2 _ _ (s1 _ _ h))
    refine s_ret (P := isV (.ref l)) (ev_i 4 rfl) fun v H4 s4 h4 => ?_
    obtain rfl := h4
    exact q l vs H4 (s1.free n2) (sm.trans s4) (s4 _ _ el) (al.mono s4 fun d hd => (sd_mk d hd).md)
section
variable {σ : L2.St} {H : Hp} {ta tb tc td : TE} {E : XK}
theorem el_turns {rule : List Int} {p : Int} (ha : Ev ta σ H (Ti K rule)) (hb : Ev tb σ H (isV (.int p))) (u : Ru p rule) (h2 : 2 ≤ rule.length) (hl : rule.length ≤ 50) : ElD (tCall (p_turns_of K) [] E (tCons ta (tCons tb tNil))) σ H ((turnsOf rule p).map Ts) :=
  ev_callL (rule, p) (ea_cons ha (ea_cons hb ea_nil)) ⟨u, h2, hl⟩
theorem el_shows {rule : List Int} {turns : List (List Int)} {p : Int} (ha : Ev ta σ H (Ti K rule)) (hc : Ev tc σ H (Lds (turns.map Ts))) (hb : Ev tb σ H (isV (.int p))) (u : Ru p rule) (h2 : 2 ≤ rule.length) (hl : rule.length ≤ 50) (htl : turns.length = rule.length - 1) (htt : ∀ t ∈ turns, t.length ≤ 50) : ElD (tCall (p_shows_of K) [] E (tCons ta (tCons tc (tCons tb tNil)))) σ H ((showsOf rule turns p).map Sd) :=
  ev_callL (rule, turns, p) (ea_cons ha (ea_cons hc (ea_cons hb ea_nil))) ⟨u, h2, hl, htl, htt⟩
end
end
end Rw
end
section
set_option maxRecDepth 100000
set_option maxHeartbeats 4000000
namespace Rw
open PySem PySem.Spec PyProof.Rows L2 Rf
variable {K : PySem.W.Frag}
theorem given_small (n : Nat) : given 9 (fun i => decide (n % (SMALL.getD i 0) = 0)) (fun i => isV (.int ((SMALL.getD i 0 : Nat) : Int))) = ((SMALL.filter fun q => decide (n % q = 0)).map fun q : Nat => (q : Int)).map fun x => isV (.int x) := by
  have h : SMALL = (List.range 9).map fun i => SMALL.getD i 0 := by decide
  conv => rhs; rw [h]
  rw [given, List.filter_map, List.map_map, List.map_map]
  rfl
theorem ldm {ls : List (List Int)} : Md (Ld K (ls.map Ts)) := Ld.mono fun d hd => (ts_md d hd).md
theorem getLastD_last {α : Type} {l : List α} {d : α} (h : l ≠ []) : l.getLast? = some (l.getLastD d) := by
  cases e : l.getLast? with
  | none => exact (h (List.getLast?_eq_none_iff.mp e)).elim
  | some z => rw [List.getLastD_eq_getLast?, e]; rfl
section
variable {P : Program} {w : World} {mg : Str → Option Value} {base : Heap}
abbrev s_turns_hold : Stmt := topS 55
abbrev N_turns_hold : List Str := ["rule", "turns", "prime", "one", "other"]
theorem sc_turns_hold : FnScope N_turns_hold ["rule", "turns", "prime"] (defScope s_turns_hold) := ⟨rfl, rfl, rfl, by decide +kernel, rfl, by decide +kernel, by decide +kernel⟩

def p_turns_hold (K : PySem.W.Frag) : Sp := Pf (fun a : List Int × List (List Int) × Int => [Ti K a.1, Lds (a.2.1.map Ts), isV (.int a.2.2)]) (fun a => Ru a.2.2 a.1 ∧ 2 ≤ a.1.length ∧ a.1.length ≤ 50 ∧ a.2.1.length = a.1.length - 1 ∧ ∀ t ∈ a.2.1, Cn a.2.2 t ∧ t.length ≤ 50) (fun a => isV (.bl (turnsHold a.1 a.2.1 a.2.2)))
theorem ok_turns_hold (D : Df K mg "turns_hold" s_turns_hold ["rule", "turns", "prime"]) (Bt : Bts mg) (Gb : Gbs K mg) (c_left_by : Cal P w K mg base 4 "left_by" (p_left_by K)) (c_left_raised : Cal P w K mg base 5 "left_raised" (p_left_raised K)) (c_put_through : Cal P w K mg base 5 "put_through" (p_put_through K)) : Cal P w K mg base 6 "turns_hold" (p_turns_hold K) := by
  refine cal_of D sc_turns_hold (fun vs H Q E ⟨a, _, h, _⟩ => h.len) fun f cdv A outer s H vs Q E hr ⟨⟨rule, turns, p⟩, ⟨u, h2, hl, htl, htt⟩, hds, q⟩ => ?_
  dsimp only at *
  obtain ⟨x1, x2, x3, rfl, hx, ⟨a, tv, rfl, ha, hta⟩, rfl⟩ := all2_3 hds
  have hp := u.pr
  have bd := hp.bd
  have st := leftRaised_ok u (Cn.X hp).rg (show 0 ≤ p by omega)
  have h0 : turns[0]? = some (turns.headD []) := by
    cases turns with
    | nil => simp at htl; omega
    | cons t ts => rfl
  have hf := htt _ (List.mem_of_getElem? h0)
  have hld : Ld K (turns.map Ts) (.ref a) H := ⟨a, tv, rfl, SqL.of ha, hta⟩
  refine ⟨_, (pss_cons (ps_if ((pw_or (pt_cmpR op_ne (pe_callB (call_lenK (K := K)) (by rfl) Bt.len PySem.boot_len (pa_cons (pv 1) pa_nil)) (pe_op op_sub (pe_callB (call_lenK (K := K)) (by rfl) Bt.len PySem.boot_len (pa_cons (pv 0) pa_nil)) pe_int) (nomark _)) (pw_or1 (pt_cmpR (op_neDK (K := K) hr.units) (pe_ix (ix_listK (K := K)) (pv 1) pe_int (fun _ _ => rfl)) (pe_d c_left_raised hr (by decide) (by rfl) (pa_cons (pe_glob (v := .ref Gb.aX) (by rfl) Gb.PLAIN_X rfl) (pa_cons (pv 2) (pa_cons (pv 0) (pa_cons (pv 2) pa_nil))))) (nomark _))))).pt (pss_one (ps_ret pe_bl)) pss_nil)
      (pss_cons (ps_for PassesOwn.never rfl (RZ.pi_zipA (by rfl) Bt.zip (pa_cons (pv 1) (pa_cons (pe_slice (sl_listK (K := K)) (pv 1) (po_some pe_int) po_none) pa_nil))) (pg_tupK (K := K) (n := 2) rfl (pgs_cons (pg_name (i := 3) sc_turns_hold.nd rfl (by first | exact .inl rfl | exact .inr rfl)) (pgs_cons (pg_name (i := 4) sc_turns_hold.nd rfl (by first | exact .inl rfl | exact .inr rfl)) pgs_nil))) (pss_one (ps_if (pt_cmpR (op_neDK (K := K) hr.units) (pv 4) (pe_d c_put_through hr (by decide) (by rfl) (pa_cons (pv 3) (pa_cons (pe_ix (ix_listK (K := K)) (pv 1) pe_int (fun _ _ => rfl)) (pa_cons (pv 0) (pa_cons (pv 2) pa_nil))))) (nomark _)) (pss_one (ps_ret pe_bl)) pss_nil)))
      (pss_one (ps_ret (pe_cmpR (op_eqDK (K := K) hr.units) (pe_ix (ix_listK (K := K)) (pv 1) (pe_un un_neg pe_int) (fun _ _ => rfl)) (pe_d c_left_by hr (by decide) (by rfl) (pa_cons (pe_glob (v := .ref Gb.aX) (by rfl) Gb.PLAIN_X rfl) (pa_cons (pv 0) (pa_cons (pv 2) pa_nil)))) (nomark _)))))), ?_⟩
  refine q_when (b := (!decide (V.int turns.length = V.int ((rule.length : Int) - 1))) || !decide (turns.headD [] = leftRaised [0, 1] p rule p)) (et_or (et_test (ev_ne rfl (Ev.is (ev_lenLD (ev_v 1 ldm rfl hld)) (by rw [List.length_map])) (ev_I0 (ev_lenT (ev_v 0 Ti.mono rfl hx)) ev_c))) fun _ => et_test (ev_neT (ev_ixL (n := 0) (ev_v 1 ldm rfl hld) ev_c (by rw [List.getElem?_map, h0]; rfl) Ts.mk.md).ti (ev_left_raised (ev_plain Gb) (ev_i 2 rfl) (ev_v 0 Ti.mono rfl hx) (ev_i 2 rfl) u (Cn.X hp).rg (by omega) (by simp) (by omega)).ti)) (fun hb H1 s1 => ?_) (fun hb H1 s1 => ?_)
  · have hc : turns.length ≠ rule.length - 1 ∨ turns.headD [] ≠ leftRaised [0, 1] p rule p := by
      rcases Bool.or_eq_true_iff.mp hb with z | z
      · exact (by have : V.int turns.length = V.int ((rule.length : Int) - 1) := by congr 1; omega
                  rw [decide_eq_true this] at z; cases z)
      · exact .inr (by simpa using z)
    refine s_ret ev_c fun v H2 s2 h2 => q v H2 (s1.trans s2) ?_
    rw [turnsHold, if_pos hc]; exact h2
  have hc : ¬ (turns.length ≠ rule.length - 1 ∨ turns.headD [] ≠ leftRaised [0, 1] p rule p) := by
    rintro (z | z)
    · exact z htl
    · rw [Bool.or_eq_false_iff] at hb
      exact z (by simpa using hb.2)
  have hx := Ti.mono _ _ _ s1 hx
  have ha1 := s1 _ _ ha
  have hta1 := hta.mono s1 fun d hd => (ts_md d hd).md
  refine q_forM (ei_zipLS (ev_i 1 rfl) (el_fromV (n := 1) (ev_i 1 rfl) (SqL.of ha1) ev_c) (SqL.of ha1) hta1 (hta1.drop 1) ts_md (fun d hd => ts_md d (List.mem_of_mem_drop hd)) (by rw [List.length_drop]; omega)) [] (fun _ h => (by cases h)) (fun _ h => (by cases h)) (fun i σ' H' => ∃ c3 c4 : Option V, σ' = [some x1, some (.ref a), some (.int p), c3, c4] ∧ Same H1 H' ∧ thL rule (turns.headD []) p (turns.drop i) = thL rule (turns.headD []) p turns)
    (fun B e => ⟨_, _, rfl, e, rfl⟩) ?_ ?_
  · rintro T kp i σ' H' hi hT ⟨c3, c4, rfl, sm, eq⟩ x H'' s3 ⟨T0, y1, y2, ex, hT0, h3, h4⟩ hT2
    rw [List.length_drop, List.length_map] at hi
    obtain ⟨t1, ht1, hv1⟩ := nth_map h3
    obtain ⟨d, hd, hv2⟩ := h4
    rw [List.getElem?_drop, List.getElem?_map, show 1 + i = i + 1 by omega] at hd
    have g2 : turns[i + 1]? = some turns[i + 1] := List.getElem?_eq_getElem (by omega)
    rw [g2] at hd
    obtain rfl : Ts turns[i + 1] = d := Option.some.inj hd
    subst ex
    refine g_pair hT0 ?_
    have e2 : turns.drop i = t1 :: turns[i + 1] :: turns.drop (i + 2) := by
      rw [List.drop_eq_getElem_cons (by omega), List.drop_eq_getElem_cons (i := i + 1) (by omega), (List.getElem?_eq_some_iff.mp ht1).2]
    have e3 : turns.drop (i + 1) = turns[i + 1] :: turns.drop (i + 2) := List.drop_eq_getElem_cons (by omega)
    rw [e2, thL] at eq
    have c1 := htt _ (List.mem_of_getElem? ht1)
    have hx3 := Ti.mono _ _ _ (sm.trans s3) hx
    have hld3 : Ld K (turns.map Ts) (.ref a) H'' := ⟨a, tv, rfl, SqL.of (s3 _ _ (sm _ _ ha1)), hta1.mono (sm.trans s3) fun d hd => (ts_md d hd).md⟩
    refine s_when (et_test (ev_neT (ev_v 4 Ts.mk.md rfl hv2).ti (ev_put_through (ev_v 3 Ts.mk.md rfl hv1).ti (ev_ixL (n := 0) (ev_v 1 ldm rfl hld3) ev_c (by rw [List.getElem?_map, h0]; rfl) Ts.mk.md).ti (ev_v 0 Ti.mono rfl hx3) (ev_i 2 rfl) u c1.1.rg hf.1.rg (by omega) (by omega) (by omega)).ti)) (fun hb H4 s4 => ?_) (fun hb H4 s4 => ?_)
    · rw [if_pos (by simpa using hb)] at eq
      refine s_ret ev_c fun v H2 s2 h2 => q v H2 ((((s1.trans sm).trans s3).trans s4).trans s2) ?_
      rw [turnsHold, if_neg hc, if_pos eq.symm]; exact h2
    · rw [if_neg (by simpa using hb)] at eq
      exact ⟨kp.same _ _ s4 hT2, _, _, rfl, (sm.trans s3).trans s4, by rw [e3]; exact eq⟩
  · rintro σ' H' fr ⟨c3, c4, rfl, sm, eq⟩
    rw [List.length_drop, List.length_map] at eq
    have hne : turns ≠ [] := fun z => by rw [z] at htl; simp at htl; omega
    have e1 : thL rule (turns.headD []) p turns = true := by
      rw [← eq, List.drop_eq_getElem_cons (by omega), List.drop_eq_nil_of_le (by omega), thL]
      intro _ _ _ z; cases z
    have hld3 : Ld K (turns.map Ts) (.ref a) H' := ⟨a, tv, rfl, SqL.of (sm _ _ ha1), hta1.mono sm fun d hd => (ts_md d hd).md⟩
    refine s_ret (ev_eqT (ev_lastL (ev_v 1 ldm rfl hld3) (ev_neg ev_c) (by rw [List.getLast?_map, getLastD_last (d := []) hne]; rfl) Ts.mk.md).ti (ev_left_by (ev_plain Gb) (ev_v 0 Ti.mono rfl (Ti.mono _ _ _ sm hx)) (ev_i 2 rfl) u (by simp) (by omega)).ti) fun v H2 s2 h2 => q v H2 ((s1.trans sm).trans s2) ?_
    rw [turnsHold, if_neg hc, if_neg (by rw [e1]; decide)]; exact h2
section
variable {σ : L2.St} {H : Hp} {ta tb tc td : TE} {E : XK}
theorem ev_turns_hold {rule : List Int} {turns : List (List Int)} {p : Int} (ha : Ev ta σ H (Ti K rule)) (hc : Ev tc σ H (Lds (turns.map Ts))) (hb : Ev tb σ H (isV (.int p))) (u : Ru p rule) (h2 : 2 ≤ rule.length) (hl : rule.length ≤ 50) (htl : turns.length = rule.length - 1) (htt : ∀ t ∈ turns, Cn p t ∧ t.length ≤ 50) :
    Ev (tCall (p_turns_hold K) [] E (tCons ta (tCons tc (tCons tb tNil)))) σ H (isV (.bl (turnsHold rule turns p))) :=
  ev_call (rule, turns, p) (ea_cons ha (ea_cons hc (ea_cons hb ea_nil))) ⟨u, h2, hl, htl, htt⟩ md_isV
end
abbrev s_whole_holds : Stmt := topS 56
abbrev N_whole_holds : List Str := ["rule", "turns", "shows", "prime", "many", "one", "primes", "first", "second", "apart"]
theorem sc_whole_holds : FnScope N_whole_holds ["rule", "turns", "shows", "prime"] (defScope s_whole_holds) := ⟨rfl, rfl, rfl, by decide +kernel, rfl, by decide +kernel, by decide +kernel⟩

def p_whole_holds (K : PySem.W.Frag) : Sp := Pf (fun a : List Int × List (List Int) × List (List Int × List Int) × Int => [Ti K a.1, Lds (a.2.1.map Ts), Lds (a.2.2.1.map Sd), isV (.int a.2.2.2)]) (fun a => Ru a.2.2.2 a.1 ∧ 2 ≤ a.1.length ∧ a.1.length ≤ 50 ∧ a.2.1.length = a.1.length - 1 ∧ (∀ t ∈ a.2.1, Cn a.2.2.2 t ∧ t.length ≤ 50) ∧ ∀ s ∈ a.2.2.1, Rg a.2.2.2 s.1 ∧ Rg a.2.2.2 s.2 ∧ s.1.length ≤ 60 ∧ s.2.length ≤ 60) (fun a => isV (.bl (wholeHolds a.1 a.2.1 a.2.2.1 a.2.2.2)))
theorem ok_whole_holds (D : Df K mg "whole_holds" s_whole_holds ["rule", "turns", "shows", "prime"]) (Bt : Bts mg) (Gb : Gbs K mg) (c_blended : Cal P w K mg base 2 "blended" (p_blended K)) (c_less : Cal P w K mg base 3 "less" (p_less K)) (c_multiplied : Cal P w K mg base 2 "multiplied" (p_multiplied K)) (c_turns_hold : Cal P w K mg base 6 "turns_hold" (p_turns_hold K)) : Cal P w K mg base 7 "whole_holds" (p_whole_holds K) := by
  refine cal_of D sc_whole_holds (fun vs H Q E ⟨a, _, h, _⟩ => h.len) fun f cdv A outer s H vs Q E hr ⟨⟨rule, turns, shows, p⟩, ⟨u, h2, hl, htl, htt, hss⟩, hds, q⟩ => ?_
  dsimp only at *
  obtain ⟨x1, x2, x3, x4, rfl, hx, ⟨a, tv, rfl, ha, hta⟩, ⟨b, sv, rfl, hb, hsb⟩, rfl⟩ := all2_4 hds
  have hp := u.pr
  have bd := hp.bd
  refine ⟨_, (pss_cons (ps_set (i := 4) sc_whole_holds.nd rfl (by first | exact .inl rfl | exact .inr rfl) (pe_op op_sub (pe_callB (call_lenK (K := K)) (by rfl) Bt.len PySem.boot_len (pa_cons (pv 0) pa_nil)) pe_int))
      (pss_cons (ps_setLc (i := 6) (own := [("one", 5)]) rfl sc_whole_holds.nd rfl rfl (sw_true rfl rfl rfl (by decide +kernel)) (pi_tup (pe_glob (v := .ref Gb.aS) (by rfl) Gb.SMALL_PRIMES rfl)) (blkOk_by (N := N_whole_holds) (sc := defScope s_whole_holds) (by decide +kernel)) (fun _ _ _ _ _ => (pg_name (i := 5) sc_whole_holds.nd rfl (by first | exact .inl rfl | exact .inr rfl))) (fun _ _ _ _ _ => (pts_one (pt_cmpR op_eq (pe_op op_mod (pv 4) (pv 5)) pe_int (nomark _)))) (fun _ _ _ _ _ => (pv 5)))
      (pss_cons (ps_if ((pw_or (pt_not (pt_val (pe_d c_turns_hold hr (by decide) (by rfl) (pa_cons (pv 0) (pa_cons (pv 1) (pa_cons (pv 3) pa_nil)))))) (pw_or1 (pt_cmpR op_ne (pe_callB (call_lenK (K := K)) (by rfl) Bt.len PySem.boot_len (pa_cons (pv 2) pa_nil)) (pe_callB (call_lenK (K := K)) (by rfl) Bt.len PySem.boot_len (pa_cons (pv 6) pa_nil)) (nomark _))))).pt (pss_one (ps_ret pe_bl)) pss_nil)
      (pss_cons (ps_for PassesOwn.never rfl (RZ.pi_zipA (by rfl) Bt.zip (pa_cons (pv 6) (pa_cons (pv 2) pa_nil))) (pg_tupK (K := K) (n := 2) rfl (pgs_cons (pg_name (i := 5) sc_whole_holds.nd rfl (by first | exact .inl rfl | exact .inr rfl)) (pgs_cons (pg_tupK (K := K) (n := 2) rfl (pgs_cons (pg_name (i := 7) sc_whole_holds.nd rfl (by first | exact .inl rfl | exact .inr rfl)) (pgs_cons (pg_name (i := 8) sc_whole_holds.nd rfl (by first | exact .inl rfl | exact .inr rfl)) pgs_nil))) pgs_nil))) (pss_cons (ps_set (i := 9) sc_whole_holds.nd rfl (by first | exact .inl rfl | exact .inr rfl) (pe_d c_less hr (by decide) (by rfl) (pa_cons (pe_ix (ix_listK (K := K)) (pv 1) (pe_op op_sub (pe_op op_fdiv (pv 4) (pv 5)) pe_int) (fun _ _ => rfl)) (pa_cons (pe_glob (v := .ref Gb.aX) (by rfl) Gb.PLAIN_X rfl) (pa_cons (pv 3) pa_nil)))))
      (pss_one (ps_if (pt_cmpR (op_neDK (K := K) hr.units) (pe_d c_blended hr (by decide) (by rfl) (pa_cons (pe_d c_multiplied hr (by decide) (by rfl) (pa_cons (pv 7) (pa_cons (pv 9) (pa_cons (pv 3) pa_nil)))) (pa_cons (pe_d c_multiplied hr (by decide) (by rfl) (pa_cons (pv 8) (pa_cons (pv 0) (pa_cons (pv 3) pa_nil)))) (pa_cons pe_int (pa_cons (pv 3) pa_nil))))) (pe_tup (pa_cons pe_int pa_nil)) (nomark _)) (pss_one (ps_ret pe_bl)) pss_nil))))
      (pss_one (ps_ret pe_bl)))))), ?_⟩
  obtain ⟨n, hn⟩ : ∃ n, rule.length - 1 = n := ⟨_, rfl⟩
  refine q_set (P := isV (.int n)) (Ev.is (ev_I0 (ev_lenT (ev_v 0 Ti.mono rfl hx)) ev_c) (by congr 1; omega)) fun v H1 s1 h1 => ?_
  obtain rfl := h1
  have hwd : ∀ q, wholeHolds rule turns shows p = q → (if turnsHold rule turns p = false ∨ shows.length ≠ (SMALL.filter fun q => decide (n % q = 0)).length then false else ((SMALL.filter fun q => decide (n % q = 0)).zip shows).all fun x => showHolds rule turns p x.1 x.2) = q := fun q h => by
    rw [← h, wholeHolds, hn]
  have sp : ElD (tLc (iTup K (tC (.ref Gb.aS))) (gName 5) (tTest (tOp rEq (tOp (rI (fun x j => 0 < j) fun i j => .int (i % j)) (tVar 4) (tVar 5)) (tC (.int 0)))) (tVar 5) [5]) [some x1, some (.ref a), some (.ref b), some (.int p), some (.int n), none, none, none, none, none] H1 (((SMALL.filter fun q => decide (n % q = 0)).map fun q : Nat => (q : Int)).map fun x => isV (.int x)) := by
    rw [← given_small]
    refine eld_lc (ei_tupI (ev_small Gb)) (by decide) _ _ (fun _ _ => mk_isV) ?_
    intro i x H2 hi s2 hx2
    obtain ⟨z, hz, rfl⟩ := nth_int hx2
    have hi : i < 9 := hi
    have hq : 2 ≤ SMALL.getD i 0 := by
      rw [List.getD_eq_getElem?_getD, List.getElem?_eq_getElem (show i < SMALL.length from hi)]
      exact (small_bd _ (List.getElem_mem _)).1
    have ez : z = ((SMALL.getD i 0 : Nat) : Int) := by
      rw [List.getElem?_map, List.getElem?_eq_getElem (show i < SMALL.length from hi)] at hz
      rw [List.getD_eq_getElem?_getD, List.getElem?_eq_getElem (show i < SMALL.length from hi)]
      exact (Option.some.inj hz).symm
    subst ez
    generalize SMALL.getD i 0 = qq at *
    refine ⟨_, fun k hk => hk, rfl, EvT.is (et_test (ev_eq rfl (ev_I (show (0 : Int) < qq by omega) (ev_i 4 rfl) (ev_i 5 rfl)) ev_c)) ?_, fun _ => ev_i 5 rfl⟩
    apply decide_eq_decide.mpr
    constructor
    · intro h; have := V.int.inj h; omega
    · intro h; congr 1; omega
  refine q_setL sp.ints fun l6 H2 n6 s2 e6 => ?_
  have hx2 := Ti.mono _ _ _ (s1.trans s2) hx
  have ha2 := s2 _ _ (s1 _ _ ha)
  have hta2 := hta.mono (s1.trans s2) fun d hd => (ts_md d hd).md
  have hb2 := s2 _ _ (s1 _ _ hb)
  have hsb2 := hsb.mono (s1.trans s2) fun d hd => (sd_mk d hd).md
  have li6 : Li K ((SMALL.filter fun q => decide (n % q = 0)).map fun q : Nat => (q : Int)) (.ref l6) H2 := ⟨l6, rfl, SqL.of e6⟩
  have hsub : ∀ q ∈ SMALL.filter (fun q => decide (n % q = 0)), 2 ≤ q ∧ q ≤ 23 ∧ n % q = 0 := fun q hq => by
    obtain ⟨h1, h2⟩ := List.mem_filter.mp hq
    exact ⟨(small_bd q h1).1, (small_bd q h1).2, of_decide_eq_true h2⟩
  generalize hF : (SMALL.filter fun q => decide (n % q = 0)) = F at *
  have lmS := Ld.mono (K := K) (fun d hd => (sd_mk (ls := shows) d hd).md)
  refine q_when (b := (!turnsHold rule turns p) || !decide (V.int shows.length = V.int F.length)) (et_or (et_not (et_test (ev_turns_hold (ev_v 0 Ti.mono rfl hx2) (ev_v 1 (Lds.mono fun d hd => (ts_md d hd).md) rfl ⟨a, tv, rfl, ha2, hta2⟩) (ev_i 3 rfl) u h2 hl htl htt))) fun _ => et_test (ev_ne rfl (Ev.is (ev_lenLD (ev_v 2 lmS rfl ⟨b, sv, rfl, SqL.of hb2, hsb2⟩)) (by rw [List.length_map])) (Ev.is (ev_lenL (ev_v 6 Li.mono rfl li6)) (by rw [List.length_map])))) (fun hb H3 s3 => ?_) (fun hb H3 s3 => ?_)
  · refine s_ret ev_c fun v H4 s4 h4 => q v H4 (((s1.trans s2).trans s3).trans s4) ?_
    rw [← hwd _ rfl, if_pos]
    · exact h4
    · rcases Bool.or_eq_true_iff.mp hb with z | z
      · exact .inl (by simpa using z)
      · refine .inr fun y => ?_
        rw [y] at z; simp at z
  rw [Bool.or_eq_false_iff] at hb
  have hth : turnsHold rule turns p = true := by simpa using hb.1
  have hsl : shows.length = F.length := by
    have := hb.2
    simp at this; omega
  have hc : ¬ (turnsHold rule turns p = false ∨ shows.length ≠ F.length) := by
    rintro (z | z)
    · rw [hth] at z; cases z
    · exact z hsl
  have hx3 := Ti.mono _ _ _ s3 hx2
  have ha3 := s3 _ _ ha2
  have hta3 := hta2.mono s3 fun d hd => (ts_md d hd).md
  have hb3 := s3 _ _ hb2
  have hsb3 := hsb2.mono s3 fun d hd => (sd_mk d hd).md
  refine q_forM (ei_zipL (ds := (F.map fun q : Nat => (q : Int)).map fun x => isV (.int x)) (ev_i 6 rfl) (ev_i 2 rfl) (SqL.of (s3 _ _ e6)) (SqL.of hb3) (all2_ints.mpr rfl) hsb3 ints_mk sd_mk (by rw [List.length_map, List.length_map, List.length_map, hsl])) [] (fun _ h => (by cases h)) (fun _ h => (by cases h)) (fun i σ' H' => ∃ c5 c7 c8 c9 : Option V, σ' = [some x1, some (.ref a), some (.ref b), some (.int p), some (.int n), c5, some (.ref l6), c7, c8, c9] ∧ Same H3 H' ∧ ((F.zip shows).drop i).all (fun x => showHolds rule turns p x.1 x.2) = (F.zip shows).all fun x => showHolds rule turns p x.1 x.2)
    (fun B e => ⟨_, _, _, _, rfl, e, rfl⟩) ?_ ?_
  · rintro T kp i σ' H' hi hT ⟨c5, c7, c8, c9, rfl, sm, eq⟩ x H'' s4 ⟨T0, y1, y2, ex, hT0, h3, h4⟩ hT2
    rw [List.length_map, List.length_map] at hi
    obtain ⟨z, hz, rfl⟩ := nth_int h3
    rw [List.getElem?_map, List.getElem?_eq_getElem hi] at hz
    obtain rfl : ((F[i] : Nat) : Int) = z := Option.some.inj hz
    obtain ⟨sh, hsh, ⟨sa, us, rfl, h5, h6⟩⟩ := nth_map h4
    obtain ⟨w1, w2, rfl, g1, g2⟩ := all2_2 h6
    subst ex
    refine ⟨T0, _, rfl, SqT.of hT0, rfl, _, _, rfl, _, _, rfl, ⟨sa, _, rfl, SqT.of h5, rfl, w1, [w2], rfl, w2, [], rfl, rfl, rfl, ?_⟩⟩
    have hq := hsub _ (List.getElem_mem hi)
    have hss' := hss sh (List.mem_of_getElem? hsh)
    have ez : (F.zip shows).drop i = (F[i], sh) :: (F.zip shows).drop (i + 1) := by
      rw [List.drop_eq_getElem_cons (by rw [List.length_zip]; omega), List.getElem_zip, (List.getElem?_eq_some_iff.mp hsh).2]
    rw [ez, List.all_cons] at eq
    generalize hqq : F[i] = q' at *
    have hdiv : 1 ≤ n / q' := by
      rcases Nat.lt_or_ge n q' with z | z
      · have := hq.2.2
        rw [Nat.mod_eq_of_lt z] at this; omega
      · exact (Nat.one_le_div_iff (by omega)).mpr z
    have hdl : n / q' ≤ n := Nat.div_le_self _ _
    have hix : n / q' - 1 < turns.length := by omega
    have htu : turns[n / q' - 1]? = some (turns.getD (n / q' - 1) []) := by rw [List.getD_eq_getElem?_getD, List.getElem?_eq_getElem hix]; rfl
    have htl2 := htt _ (List.mem_of_getElem? htu)
    have hld : Ld K (turns.map Ts) (.ref a) H'' := ⟨a, tv, rfl, SqL.of (s4 _ _ (sm _ _ ha3)), hta3.mono (sm.trans s4) fun d hd => (ts_md d hd).md⟩
    have hx4 := Ti.mono _ _ _ (sm.trans s4) hx3
    have lb := len_blended (p := p) (turns.getD (n / q' - 1) []) [0, 1] (p - 1)
    have ll : (less (turns.getD (n / q' - 1) []) [0, 1] p).length ≤ 50 := by
      show (blended _ _ _ _).length ≤ 50
      rw [show ([0, 1] : List Int).length = 2 from rfl] at lb
      omega
    refine q_set (ev_less (ev_ixL (n := n / q' - 1) (ev_v 1 ldm rfl hld) (Ev.is (ev_I0 (ev_I ⟨by omega, by omega⟩ (ev_i 4 rfl) (ev_i 5 rfl)) ev_c) (by congr 1; omega)) (by rw [List.getElem?_map, htu]; rfl) Ts.mk.md).ti (ev_plain Gb) (ev_i 3 rfl) hp (by omega) (by simp)) fun v9 H5 s5 h9 => ?_
    have lm1 := len_multiplied (p := p) sh.1 (less (turns.getD (n / q' - 1) []) [0, 1] p)
    have lm2 := len_multiplied (p := p) sh.2 rule
    refine s_when (b := !showHolds rule turns p q' sh) (EvT.is (et_test (ev_neT (ev_blended (wt := 1) (ev_multiplied (ev_v 7 Ts.mk.md rfl (Ts.mk.md _ _ _ s5 g1)).ti (ev_v 9 Ts.mk.md rfl h9).ti (ev_i 3 rfl) hp hss'.1 (by omega) (by omega)).ti (ev_multiplied (ev_v 8 Ts.mk.md rfl (Ts.mk.md _ _ _ s5 g2)).ti (ev_v 0 Ti.mono rfl (Ti.mono _ _ _ s5 hx4)) (ev_i 3 rfl) hp hss'.2.1 (by omega) (by omega)).ti ev_c (ev_i 3 rfl) (by omega) (by omega) (by omega) (by omega) (by omega)).ti (ev_t1 ev_c).ti)) (by rw [showHolds, hn])) (fun hb H6 s6 => ?_) (fun hb H6 s6 => ?_)
    · have hf : showHolds rule turns p q' sh = false := by simpa using hb
      rw [hf, Bool.false_and] at eq
      refine s_ret ev_c fun v H7 s7 h7 => q v H7 (((((((s1.trans s2).trans s3).trans sm).trans s4).trans s5).trans s6).trans s7) ?_
      rw [← hwd _ rfl, if_neg hc, ← eq]; exact h7
    · have hf : showHolds rule turns p q' sh = true := by simpa using hb
      rw [hf, Bool.true_and] at eq
      exact ⟨kp.same _ _ (s5.trans s6) hT2, _, _, _, _, rfl, ((sm.trans s4).trans s5).trans s6, eq⟩
  · rintro σ' H' fr ⟨c5, c7, c8, c9, rfl, sm, eq⟩
    rw [List.length_map, List.length_map, List.drop_eq_nil_of_le (by rw [List.length_zip]; omega), List.all_nil] at eq
    refine s_ret ev_c fun v H7 s7 h7 => q v H7 ((((s1.trans s2).trans s3).trans sm).trans s7) ?_
    rw [← hwd _ rfl, if_neg hc, ← eq]; exact h7
section
variable {σ : L2.St} {H : Hp} {ta tb tc td : TE} {E : XK}
theorem ev_whole_holds {rule : List Int} {turns : List (List Int)} {shows : List (List Int × List Int)} {p : Int} (ha : Ev ta σ H (Ti K rule)) (hc : Ev tc σ H (Lds (turns.map Ts))) (hd : Ev td σ H (Lds (shows.map Sd))) (hb : Ev tb σ H (isV (.int p))) (u : Ru p rule) (h2 : 2 ≤ rule.length) (hl : rule.length ≤ 50) (htl : turns.length = rule.length - 1) (htt : ∀ t ∈ turns, Cn p t ∧ t.length ≤ 50) (hss : ∀ s ∈ shows, Rg p s.1 ∧ Rg p s.2 ∧ s.1.length ≤ 60 ∧ s.2.length ≤ 60) :
    Ev (tCall (p_whole_holds K) [] E (tCons ta (tCons tc (tCons td (tCons tb tNil))))) σ H (isV (.bl (wholeHolds rule turns shows p))) :=
  ev_call (rule, turns, shows, p) (ea_cons ha (ea_cons hc (ea_cons hd (ea_cons hb ea_nil)))) ⟨u, h2, hl, htl, htt, hss⟩ md_isV
end
end
end Rw
end
section
set_option maxRecDepth 100000
set_option maxHeartbeats 4000000
namespace Rw
open PySem PySem.Spec PyProof.Rows L2 Rf
variable {K : PySem.W.Frag}
/-! ### defs with prime= -/
abbrev kPrime : List Str := ["prime"]
structure CalK (P : Program) (w : World) (K : PySem.W.Frag) (mg : Str → Option Value) (base : Heap) (k : Nat) (x : Str) (n : Nat) (sp : Sp) : Prop where
  ex : ∃ (f : Addr) (fd : FuncData) (ps : List Str), FnOk P w K mg base CX0 k f fd ps sp ∧ mg x = some (.ref f) ∧ PySem.W.keepIn K (.ref f) = true ∧ KBn K fd ps n kPrime (fun us ws => us ++ ws) (fun vs zs => vs ++ zs) ∧ ∃ ds, Vals [V.int 2] ds ∧ Binds K fd ps ds
structure DfK (K : PySem.W.Frag) (mg : Str → Option Value) (x : Str) (st : Stmt) (ps : List Str) (n : Nat) : Prop where
  ex : ∃ (f : Addr) (fd : FuncData), FunD K x x (defArgs st) (defBody st) (defScope st) [] [("prime", V.int 2)] f fd ∧ mg x = some (.ref f) ∧ KBn K fd ps n kPrime (fun us ws => us ++ ws) (fun vs zs => vs ++ zs) ∧ ∃ ds, Vals [V.int 2] ds ∧ Binds K fd ps ds
section
variable {P : Program} {w : World} {mg : Str → Option Value} {base : Heap}
theorem calK_of {x : Str} {st : Stmt} {N ps : List Str} {k n : Nat} {sp : Sp} (D : DfK K mg x st ps n) (S : FnScope N ps (defScope st)) (len : ∀ vs H Q E, sp vs H Q E → vs.length = ps.length)
    (hbody : ∀ (f : Addr) (cdv : Value) (A : Around) (outer : List Env) (s : Shared) (H : Hp) (vs : List V) (Q : VK) (E : XK), Room k (A.deeper (envOfC x (defScope st) s.heap.objs.size f cdv)) → sp vs H Q E →
      ∃ t, PSs (cxOf CX0 P w K mg base N x (defScope st) f cdv A outer s H E).nox (defBody st) t ∧ t { nx := fun _ H' => Q .non H', rt := Q } (start N vs) H) : CalK P w K mg base (k + 1) x n sp := by
  obtain ⟨f, fd, F, m, b, d⟩ := D.ex
  refine ⟨f, fd, ps, F.ok S len fun cdv A outer s H vs Q E hr hsp => ?_, m, F.kp, b, d⟩
  obtain ⟨t, h, q⟩ := hbody f cdv A outer s H vs Q E hr hsp
  exact ⟨t, h.nox, q⟩
end
section
variable {X : Cx} {k j n : Nat} {x : Str} {sp : Sp} {p pos : Pos} {e : Expr} {es : List Expr} {kws : List Keyword} {t tk : TA}
theorem pe_dk (c : CalK X.prog X.w X.K X.mg X.base k x n sp) (hr : Room j X.A) (hk : k ≤ j) (hg : Gl X x) (ha : PA X (e :: es) t) (hkw : PK X kws tk)
    (hall : (backToKw pos (keywordEach kws X.env)).all (·.1.isSome) = true := by rfl) (hks : (backToKw pos (keywordEach kws X.env)).filterMap (·.1) = kPrime := by rfl)
    (hdb : (x == ("__debug__" : Str)) = false := by decide) (he : starEach (e :: es) X.env = (false, eval e X.env) :: starEach es X.env := by rfl)
    (hpl : ((backTo pos (starEach (e :: es) X.env)).any (·.1) || (backToKw pos (keywordEach kws X.env)).any (·.1.isNone)) = false := by rfl) :
    PE X (.Call (.Name x p) (e :: es) kws pos) (tCallN n 1 sp (fun vs zs => vs ++ zs) E0 t tk) := by
  obtain ⟨f, fd, ps, F, hm, kp, b, _⟩ := c.ex
  exact pe_callN F (hr.mono hk) hg hm kp b pass0 ha hkw hall hks hdb he hpl
theorem pe_dd (c : CalK X.prog X.w X.K X.mg X.base k x n sp) (hr : Room j X.A) (hk : k ≤ j) (hg : Gl X x) (ha : PA X (e :: es) t)
    (hdb : (x == ("__debug__" : Str)) = false := by decide) (he : starEach (e :: es) X.env = (false, eval e X.env) :: starEach es X.env := by rfl) (hpl : (backTo pos (starEach es X.env)).any (·.1) = false := by rfl) :
    PE X (.Call (.Name x p) (e :: es) [] pos) (tCall sp [V.int 2] E0 t) := by
  obtain ⟨f, fd, ps, F, hm, kp, _, ds, hd, b⟩ := c.ex
  exact pe_call F (hr.mono hk) hg hm kp b hd pass0 ha hdb he hpl
end
theorem All2.append {H : Hp} {ds es : List PV} {vs us : List V} (a : All2 ds vs H) (b : All2 es us H) : All2 (ds ++ es) (vs ++ us) H := All2.app a b
section
variable {σ : L2.St} {H : Hp} {ta tb tc td te : TE} {E : XK}
theorem ev_callN {α : Type} {ds1 ds2 : List PV} {ds : α → List PV} {ok : α → Prop} {res : α → PV} {ta tk : TA} (a : α) (h1 : EvA ta σ H ds1) (h2 : EvA tk σ H ds2) (e : ds1 ++ ds2 = ds a) (hok : ok a) (m : Md (res a)) : Ev (tCallN ds1.length ds2.length (Pf ds ok res) (fun vs zs => vs ++ zs) E ta tk) σ H (res a) :=
  ⟨m, fun H1 e1 Q q => h1.run H1 e1 _ fun vs H2 e2 a2 => h2.run H2 (e1.trans e2) _ fun zs H3 e3 a3 => ⟨a2.len, a3.len, a, hok, by rw [← e]; exact (a2.mono e3 h1.md).append a3, fun v H' e4 r => q v H' ((e2.trans e3).trans e4) r⟩⟩
theorem ElD.lds {ds : List PV} (h : ElD te σ H ds) (m : ∀ d ∈ ds, Md d) : Ev te σ H (Lds ds) := ⟨Lds.mono m, fun H1 e Q q => h H1 e Q fun p vs H2 _ e2 hp a => q _ H2 e2 ⟨p, vs, rfl, hp, a⟩⟩
end
section
variable {P : Program} {w : World} {mg : Str → Option Value} {base : Heap}
abbrev s_next_digits : Stmt := topS 58
abbrev N_next_digits : List Str := ["digits", "prime", "found", "at"]
theorem sc_next_digits : FnScope N_next_digits ["digits", "prime"] (defScope s_next_digits) := ⟨rfl, rfl, rfl, by decide +kernel, rfl, by decide +kernel, by decide +kernel⟩

def p_next_digits (K : PySem.W.Frag) : Sp := PfL (fun a : List Int × Int => [Li K a.1, isV (.int a.2)]) (fun a => 1 < a.2 ∧ 0 < a.1.length ∧ a.1.length ≤ 100 ∧ Rg a.2 a.1 ∧ vd a.2 a.1 + 1 < a.2 ^ a.1.length) (fun a => (nextDigits a.1 a.2).map fun x => isV (.int x))
theorem ok_next_digits (D : Df K mg "next_digits" s_next_digits ["digits", "prime"]) (Bt : Bts mg) (Gb : Gbs K mg)  : Cal P w K mg base 1 "next_digits" (p_next_digits K) := by
  refine cal_of D sc_next_digits (fun vs H Q E ⟨a, _, h, _⟩ => h.len) fun f cdv A outer s H vs Q E hr ⟨⟨ds, p⟩, ⟨hp, h0, hl, rg, hv⟩, hds, q⟩ => ?_
  dsimp only at *
  obtain ⟨x1, x2, rfl, hx, rfl⟩ := all2_2 hds
  refine ⟨_, (pss_cons (ps_set (i := 2) sc_next_digits.nd rfl (by first | exact .inl rfl | exact .inr rfl) (pe_callTy (call_listK (K := K)) (by rfl) Bt.list (by decide +kernel) (pa_cons (pv 0) pa_nil)))
      (pss_cons (ps_set (i := 3) sc_next_digits.nd rfl (by first | exact .inl rfl | exact .inr rfl) (pe_op op_sub (pe_callB (call_lenK (K := K)) (by rfl) Bt.len PySem.boot_len (pa_cons (pv 2) pa_nil)) pe_int))
      (pss_cons (ps_while PassesOwn.never (pt_cmpR op_eq (pe_ix (ix_listK (K := K)) (pv 2) (pv 3) (fun _ _ => rfl)) (pe_op op_sub (pv 1) pe_int) (nomark _)) (pss_cons (ps_asg pe_int (pg_sub (pv 2) (pv 3) set_list))
      (pss_one (ps_aug (i := 3) sc_next_digits.nd rfl (by first | exact .inl rfl | exact .inr rfl) pe_int ip_sub))))
      (pss_cons (ps_augS (pv 2) (pv 3) pget_list pe_int ip_add set_list)
      (pss_one (ps_ret (pv 2))))))), ?_⟩
  refine q_setL (el_listL (ev_v 0 Li.mono rfl hx)) fun l H1 n1 s1 e1 => ?_
  refine q_set (P := isV (.int (ds.length - 1 : Nat))) (Ev.is (ev_I0 (ev_lenL (ev_v 2 Li.mono rfl (li_of e1))) ev_c) (by congr 1; omega)) fun v H2 s2 h2 => ?_
  obtain rfl := h2
  refine q_while (fun k σ H' => ∃ d, σ = [some x1, some (.int p), some (.ref l), some (.int k)] ∧ Fr [l] H1 H' ∧ H' l = some (.lst (d.map V.int)) ∧ d.length = ds.length ∧ k < d.length ∧ Rg p d ∧ vd p d + p ^ (d.length - 1 - k) < p ^ d.length ∧ ndL p k d = nextDigits ds p) (ds.length - 1)
    ⟨ds, rfl, Fr.of s2, s2 _ _ e1, rfl, by omega, rg, by rw [Nat.sub_self, Int.pow_zero]; exact hv, rfl⟩ ?_
  rintro k σ' H' ⟨d, rfl, fr, el, ld, hk, rd, hvd, eq⟩
  have nd := ndL_ok hp k d hk rd hvd
  refine ⟨_, et_test (ev_eq rfl (ev_ixLI (n := k) (ev_v 2 Li.mono rfl (li_of el)) (ev_i 3 rfl) (get_of hk)) (ev_I0 (ev_i 1 rfl) ev_c)), fun hb H3 s3 => ?_, fun hb H3 s3 => ?_⟩
  · have hc : d.getD k 0 = p - 1 := by simpa using hb
    have hk0 : k ≠ 0 := fun z => by
      subst z
      exact nd.2.2.2 rfl hc
    obtain ⟨j, rfl⟩ : ∃ j, k = j + 1 := ⟨k - 1, by omega⟩
    rw [ndL, if_pos hc] at eq
    have vs := vd_set (p := p) 0 hk
    rw [hc] at vs
    have pw : p ^ (d.length - 1 - j) = p ^ (d.length - 1 - (j + 1)) * p := by rw [show d.length - 1 - j = d.length - 1 - (j + 1) + 1 by omega, Int.pow_succ]
    have e3 : (0 - (p - 1)) * p ^ (d.length - 1 - (j + 1)) = p ^ (d.length - 1 - (j + 1)) - p ^ (d.length - 1 - j) := by rw [pw]; grind
    refine q_setIx (n := j + 1) (s3 _ _ el) ev_c (ev_i 2 rfl) (ev_i 3 rfl) (by rw [List.length_map]; exact hk) fun v H4 s4 h4 => ?_
    obtain rfl := h4
    refine s_aug (a := ((j + 1 : Nat) : Int)) (b := 1) rfl ev_c fun H5 s5 => ?_
    have e5 := s5 _ _ (show (upd H4 l (.lst ((d.map V.int).set (j + 1) (.int 0)))) l = some (.lst ((d.set (j + 1) 0).map V.int)) by rw [upd_same, List.map_set])
    refine ⟨j, Nat.lt_succ_self _, d.set (j + 1) 0, by simp, (((fr.trans (Fr.of (s3.trans s4))).trans (Fr.upd (by simp))).trans (Fr.of s5)), e5, by rw [List.length_set]; exact ld, by rw [List.length_set]; omega, fun a ha => ?_, by rw [List.length_set, vs, e3]; omega, eq⟩
    rcases List.mem_or_eq_of_mem_set ha with q | q
    · exact rd a q
    · omega
  · have hc : d.getD k 0 ≠ p - 1 := by simpa using hb
    have eq2 : d.set k (d.getD k 0 + 1) = nextDigits ds p := by
      cases k with
      | zero => exact eq
      | succ j => rw [ndL, if_neg hc] at eq; exact eq
    have D0 : tSeq (tAugS (tVar 2) (tVar 3) (tC (.int 1)) (rIxL K) (ipI fun i j => i + j) rSetL) (tRet (tVar 2)) { nx := fun x H' => Q V.non H', rt := Q } [some x1, some (.int p), some (.ref l), some (.int k)] H3 := by
      refine s_augSI (D := ⟨tRet (tVar 2) { nx := fun x H' => Q V.non H', rt := Q }, Q, fun _ _ => False, fun _ _ => False⟩) (n := k) (z := d.getD k 0) (s3 _ _ el) (ev_i 2 rfl) (ev_i 3 rfl) (by rw [List.getElem?_map, get_of hk]; rfl) ev_c fun H4 s4 => ?_
      refine s_ret (P := isV (.ref l)) (ev_i 2 rfl) fun v H5 s5 h5 => ?_
      obtain rfl := h5
      have fr5 : Fr [l] H1 H5 := ((fr.trans (Fr.of (s3.trans s4))).trans (Fr.upd (by simp))).trans (Fr.of s5)
      have sm : Same H H5 := fun a o h => fr5 a o (fun z => by
        rw [List.mem_singleton.mp z, n1] at h; cases h) (s1 _ _ h)
      refine q l _ H5 n1 sm (s5 _ _ upd_same) (all2_ints.mpr ?_)
      rw [← eq2, List.map_set]
    exact D0
end
end Rw
end
section
set_option maxRecDepth 100000
set_option maxHeartbeats 4000000
namespace Rw
open PySem PySem.Spec PyProof.Rows L2 Rf
variable {K : PySem.W.Frag}
structure Wit (p : Int) (n : Nat) (w : List Int) : Prop where
  rg : Rg p w
  len : w.length = n
  st : standsWhole (w ++ [1]) p = true
  le : vd p (1 :: List.replicate (n - 1) 0) ≤ vd p w
/-- some level poly of n + 1 places -/
def LvT (K : PySem.W.Frag) (p : Int) (n : Nat) : PV := fun v H => ∃ r, Mo p r ∧ r.length = n + 1 ∧ Ti K r v H
theorem LvT.mk {p : Int} {n : Nat} : Mk (LvT K p n) := fun v H H' e ⟨r, a, b, c⟩ => ⟨r, a, b, Ti.mk v H H' e c⟩
section
variable {σ : L2.St} {H : Hp} {ta tb tc td te : TE} {E : XK}
theorem el_next {ds : List Int} {p : Int} (ha : Ev ta σ H (Li K ds)) (hb : Ev tb σ H (isV (.int p))) (hp : 1 < p) (h0 : 0 < ds.length) (hl : ds.length ≤ 100) (rg : Rg p ds) (hv : vd p ds + 1 < p ^ ds.length) : EvL (tCall (p_next_digits K) [] E (tCons ta (tCons tb tNil))) σ H ((nextDigits ds p).map V.int) :=
  (ev_callL (ds, p) (ea_cons ha (ea_cons hb ea_nil)) ⟨hp, h0, hl, rg, hv⟩).ints
end
section
variable {P : Program} {w : World} {mg : Str → Option Value} {base : Heap}
abbrev s_least_rule : Stmt := topS 59
abbrev N_least_rule : List Str := ["degree", "prime", "digits"]
theorem sc_least_rule : FnScope N_least_rule ["degree", "prime"] (defScope s_least_rule) := ⟨rfl, rfl, rfl, by decide +kernel, rfl, by decide +kernel, by decide +kernel⟩

def p_least_rule (K : PySem.W.Frag) : Sp := Pf (fun a : Nat × Int => [isV (.int a.1), isV (.int a.2)]) (fun a => PR a.2 ∧ 1 ≤ a.1 ∧ a.1 ≤ 40 ∧ (a.1 = 1 ∨ ∃ w, Wit a.2 a.1 w)) (fun a => LvT K a.2 a.1)
theorem ok_least_rule (D : Df K mg "least_rule" s_least_rule ["degree", "prime"]) (Bt : Bts mg) (Gb : Gbs K mg) (c_stands_whole : Cal P w K mg base 8 "stands_whole" (p_stands_whole K)) (c_next_digits : Cal P w K mg base 1 "next_digits" (p_next_digits K)) : Cal P w K mg base 9 "least_rule" (p_least_rule K) := by
  refine cal_of D sc_least_rule (fun vs H Q E ⟨a, _, h, _⟩ => h.len) fun f cdv A outer s H vs Q E hr ⟨⟨n, p⟩, ⟨hp, n1, n40, hw⟩, hds, q⟩ => ?_
  dsimp only at *
  obtain ⟨x1, x2, rfl, rfl, rfl⟩ := all2_2 hds
  have bd := hp.bd
  refine ⟨_, (pss_cons (ps_if (pt_cmpR op_eq (pv 0) pe_int (nomark _)) (pss_one (ps_ret (pe_glob (v := .ref Gb.aX) (by rfl) Gb.PLAIN_X rfl))) pss_nil)
      (pss_cons (ps_set (i := 2) sc_least_rule.nd rfl (by first | exact .inl rfl | exact .inr rfl) (pe_op op_cat (pe_lst (pa_cons pe_int pa_nil)) (pe_op op_rep (pe_lst (pa_cons pe_int pa_nil)) (pe_op op_sub (pv 0) pe_int))))
      (pss_cons (ps_while PassesOwn.never (pt_not (pt_val (pe_d c_stands_whole hr (by decide) (by rfl) (pa_cons (pe_op (op_catAK (K := K)) (pe_callTy (call_tupK (K := K)) (by rfl) Bt.tuple (by decide +kernel) (pa_cons (pv 2) pa_nil)) (pe_tup (pa_cons pe_int pa_nil))) (pa_cons (pv 1) pa_nil))))) (pss_one (ps_set (i := 2) sc_least_rule.nd rfl (by first | exact .inl rfl | exact .inr rfl) (pe_d c_next_digits hr (by decide) (by rfl) (pa_cons (pv 2) (pa_cons (pv 1) pa_nil))))))
      (pss_one (ps_ret (pe_op (op_catAK (K := K)) (pe_callTy (call_tupK (K := K)) (by rfl) Bt.tuple (by decide +kernel) (pa_cons (pv 2) pa_nil)) (pe_tup (pa_cons pe_int pa_nil)))))))), ?_⟩
  refine q_when (et_test (ev_eq (x := .int n) (y := .int 1) rfl (ev_i 0 rfl) ev_c)) (fun hb H1 s1 => ?_) (fun hb H1 s1 => ?_)
  · have : n = 1 := by simp at hb; omega
    refine s_ret (ev_plain Gb) fun v H2 s2 h2 => q v H2 (s1.trans s2) ⟨[0, 1], ⟨Cn.X hp, by decide⟩, by rw [this]; rfl, h2⟩
  have hn1 : n ≠ 1 := fun z => by rw [z] at hb; simp at hb
  obtain ⟨wt, W⟩ := hw.resolve_left hn1
  have wb := vd_bd hp.gt W.rg
  have hL : (1 :: List.replicate (n - 1) (0 : Int)).length = n := by simp; omega
  refine q_setL (xs := (1 :: List.replicate (n - 1) (0 : Int)).map V.int) (el_cat (xs := [V.int 1]) (el_one ev_c) (el_zeros (n := n - 1) (fun H2 s2 => Ev.is (ev_I0 (ev_i 0 rfl) ev_c) (by congr 1; omega)) (by omega)) (by simp; omega)) fun l H2 n2 s2 e2 => ?_
  have key : ∀ (d : List Int) (x1' : L2.St) (l : Addr) (H' : Hp), Rg p d → d.length = n → H' l = some (.lst (d.map V.int)) → x1' = [some (.int n), some (.int p), some (.ref l)] → Ev (tOp (rCatA K) (tCB (rTupS K) (tCons (tVar 2) tNil)) (tTup (tCons (tC (.int 1)) tNil))) x1' H' (Ts (d ++ [1])) := fun d x1' l H' rd ld el ex => by
    subst ex
    exact ev_catT (ev_tupleS (ev_v 2 Li.mono rfl (li_of el))) (ev_t1 ev_c) (by simp; omega)
  refine q_while (fun m σ H' => ∃ d l, σ = [some (.int n), some (.int p), some (.ref l)] ∧ Same H H' ∧ H' l = some (.lst (d.map V.int)) ∧ d.length = n ∧ Rg p d ∧ vd p d ≤ vd p wt ∧ (vd p wt - vd p d).toNat = m) _
    ⟨_, l, rfl, s1.trans s2, e2, hL, fun a ha => ?_, W.le, rfl⟩ ?_
  · rcases List.mem_cons.mp ha with z | z
    · omega
    · rw [(List.mem_replicate.mp z).2]; omega
  rintro m σ' H' ⟨d, l, rfl, sm, el, ld, rd, le, hm⟩
  have mo := mo_snoc hp rd
  refine ⟨_, et_not (et_test (ev_stands (key d _ l H' rd ld el rfl).ti (ev_i 1 rfl) (mo.ru hp) (by simp; omega) (by simp; omega))), fun hb H3 s3 => ?_, fun hb H3 s3 => ?_⟩
  · have hs : standsWhole (d ++ [1]) p = false := by simpa using hb
    have lt : vd p d < vd p wt := by
      rcases Int.lt_or_eq_of_le le with z | z
      · exact z
      · have := vd_inj hp.gt (ld.trans W.len.symm) rd W.rg z
        rw [this, W.st] at hs; cases hs
    have nx := next_ok hp.gt (by omega) rd (ld.trans W.len.symm) W.rg lt
    rw [W.len, ← ld] at wb
    refine s_setL (el_next (ev_v 2 Li.mono rfl (li_of (s3 _ _ el))) (ev_i 1 rfl) hp.gt (by omega) (by omega) rd (by omega)) fun l2 H4 n4 s4 e4 => ?_
    exact ⟨_, by omega, nextDigits d p, l2, rfl, (sm.trans s3).trans s4, e4, nx.2.1.trans ld, nx.1, by omega, rfl⟩
  · refine s_ret (key d _ l H3 rd ld (s3 _ _ el) rfl).ti fun v H4 s4 h4 => q v H4 ((sm.trans s3).trans s4) ⟨_, mo, by rw [List.length_append, ld]; rfl, h4⟩
section
variable {σ : L2.St} {H : Hp} {ta tb tc td te : TE} {E : XK}
theorem ev_least_rule {n : Nat} {p : Int} (ha : Ev ta σ H (isV (.int n))) (hb : Ev tb σ H (isV (.int p))) (hp : PR p) (n1 : 1 ≤ n) (n2 : n ≤ 40) (hw : n = 1 ∨ ∃ w, Wit p n w) : Ev (tCall (p_least_rule K) [] E (tCons ta (tCons tb tNil))) σ H (LvT K p n) :=
  ev_call (n, p) (ea_cons ha (ea_cons hb ea_nil)) ⟨hp, n1, n2, hw⟩ LvT.mk.md
end
abbrev s_least_whole : Stmt := topS 60
abbrev N_least_whole : List Str := ["degree", "prime"]
theorem sc_least_whole : FnScope N_least_whole ["degree", "prime"] (defScope s_least_whole) := ⟨rfl, rfl, rfl, by decide +kernel, rfl, by decide +kernel, by decide +kernel⟩

def p_least_whole (K : PySem.W.Frag) : Sp := Pf (fun a : Nat × Int => [isV (.int a.1), isV (.int a.2)]) (fun a => PR a.2 ∧ 1 ≤ a.1 ∧ a.1 ≤ 12 ∧ (a.1 = 1 ∨ ∃ w, Wit a.2 a.1 w)) (fun a => LvT K a.2 a.1)
theorem ok_least_whole (D : DfK K mg "least_whole" s_least_whole ["degree", "prime"] 1) (Bt : Bts mg) (Gb : Gbs K mg) (c_need_prime : Cal P w K mg base 2 "need_prime" p_need_prime) (c_least_rule : Cal P w K mg base 9 "least_rule" (p_least_rule K)) : CalK P w K mg base 10 "least_whole" 1 (p_least_whole K) := by
  refine calK_of D sc_least_whole (fun vs H Q E ⟨a, _, h, _⟩ => h.len) fun f cdv A outer s H vs Q E hr ⟨⟨n, p⟩, ⟨hp, n1, n12, hw⟩, hds, q⟩ => ?_
  dsimp only at *
  obtain ⟨x1, x2, rfl, rfl, rfl⟩ := all2_2 hds
  have bd := hp.bd
  refine ⟨_, (pss_cons (ps_expr (pe_d c_need_prime hr (by decide) (by rfl) (pa_cons (pv 1) pa_nil)))
      (pss_cons (ps_if (pt_not (pt_chain op_le op_le pe_int (pv 0) (pe_glob (v := .int 12) (by rfl) Gb.MOST_DEGREE ⟨_, rfl⟩))) (pss_one ps_never) pss_nil)
      (pss_one (ps_ret (pe_d c_least_rule hr (by decide) (by rfl) (pa_cons (pv 0) (pa_cons (pv 1) pa_nil))))))), ?_⟩
  refine q_drop (ev_needp (ev_i 1 rfl) hp) fun H1 s1 => ?_
  refine q_when (b := !(decide ((1 : Int) ≤ n) && decide ((n : Int) ≤ 12))) (et_not (et_test (ev_chain ev_c (ev_i 0 rfl) ev_c))) (fun hb => ?_) (fun hb H2 s2 => ?_)
  · rw [decide_eq_true (show (1 : Int) ≤ n by omega), decide_eq_true (show (n : Int) ≤ 12 by omega)] at hb; cases hb
  · exact s_ret (ev_least_rule (ev_i 0 rfl) (ev_i 1 rfl) hp n1 (by omega) hw) fun v H3 s3 h3 => q v H3 ((s1.trans s2).trans s3) h3
abbrev s_is_whole : Stmt := topS 53
abbrev N_is_whole : List Str := ["poly", "prime"]
theorem sc_is_whole : FnScope N_is_whole ["poly", "prime"] (defScope s_is_whole) := ⟨rfl, rfl, rfl, by decide +kernel, rfl, by decide +kernel, by decide +kernel⟩

def p_is_whole (K : PySem.W.Frag) : Sp := Pf (fun a : List Int × Int => [Ti K a.1, isV (.int a.2)]) (fun a => Val a.2 a.1) (fun a => isV (.bl (isWhole a.1 a.2)))
theorem ok_is_whole (D : DfK K mg "is_whole" s_is_whole ["poly", "prime"] 1) (Bt : Bts mg) (Gb : Gbs K mg) (c_need_polys : Cal P w K mg base 3 "need_polys" (p_need_polys K)) (c_levelled : Cal P w K mg base 3 "levelled" (p_levelled K)) (c_stands_whole : Cal P w K mg base 8 "stands_whole" (p_stands_whole K)) : CalK P w K mg base 9 "is_whole" 1 (p_is_whole K) := by
  refine calK_of D sc_is_whole (fun vs H Q E ⟨a, _, h, _⟩ => h.len) fun f cdv A outer s H vs Q E hr ⟨⟨one, p⟩, v, hds, q⟩ => ?_
  dsimp only at *
  obtain ⟨x1, x2, rfl, hx, rfl⟩ := all2_2 hds
  have hp := v.pr
  have bd := hp.bd
  have lo := v.lo
  have hi := v.hi
  have mo := v.mo
  refine ⟨_, (pss_cons (ps_expr (pe_d c_need_polys hr (by decide) (by rfl) (pa_cons (pe_tup (pa_cons (pv 0) pa_nil)) (pa_cons (pv 1) pa_nil))))
      (pss_one (ps_ret (pe_and (pe_cmpR op_gt (pe_callB (call_lenK (K := K)) (by rfl) Bt.len PySem.boot_len (pa_cons (pv 0) pa_nil)) pe_int (nomark _)) (pe_one (pe_d c_stands_whole hr (by decide) (by rfl) (pa_cons (pe_d c_levelled hr (by decide) (by rfl) (pa_cons (pv 0) (pa_cons (pv 1) pa_nil))) (pa_cons (pv 1) pa_nil)))))))), ?_⟩
  refine q_drop (ev_need_polys (ev_v 0 Ti.mono rfl hx) (ev_i 1 rfl) hp (by omega) (isPoly_of v.cn (by omega))) fun H1 s1 => ?_
  have hx := Ti.mono _ _ _ s1 hx
  refine s_ret (P := isV (.bl (decide ((1 : Int) < one.length) && standsWhole (levelled one p) p))) (ev_andV (ev_I0 (ev_lenT (ev_v 0 Ti.mono rfl hx)) ev_c) fun _ => ev_stands (ev_levelled (ev_v 0 Ti.mono rfl hx) (ev_i 1 rfl) hp (by omega) v.ne v.cn.rg).ti (ev_i 1 rfl) (mo.1.ru hp) (by omega) (by omega)) fun u H2 s2 h2 => q u H2 (s1.trans s2) ?_
  rw [isWhole]
  have : decide (1 < one.length) = decide ((1 : Int) < one.length) := decide_eq_decide.mpr (by omega)
  rw [this]; exact h2
/-- what in_rank asks of the parts -/
theorem parts_facts {one : List Int} {p : Int} (v : Val p one) (s : standsWhole (levelled one p) p = false) : ((allParts (levelled one p) p).map (·.1)).Nodup ∧ (∀ e ∈ allParts (levelled one p) p, e.1.length ≤ 1000) ∧ ∃ e, (inRank (allParts (levelled one p) p))[0]? = some e ∧ e = (inRank (allParts (levelled one p) p)).headD ([], 0) ∧ PcOk p (levelled one p) (one.length - 1) e.1 := by
  have mo := v.mo
  have lo := v.lo
  have hi := v.hi
  obtain ⟨b1, b2⟩ := parts_less v.pr mo.1 (by omega) s
  refine ⟨apL_nodup _ _ _ _ List.nodup_nil, fun e he => ?_, ?_⟩
  · have := (b1.all e he).hi
    omega
  · have hne : inRank (allParts (levelled one p) p) ≠ [] := fun z => b2 (by
      have := (inRank_perm (allParts (levelled one p) p)).length_eq
      rw [z] at this
      exact List.length_eq_zero_iff.mp this.symm)
    cases h : inRank (allParts (levelled one p) p) with
    | nil => exact (hne h).elim
    | cons e r =>
      refine ⟨e, rfl, rfl, ?_⟩
      have hm : e ∈ allParts (levelled one p) p := (inRank_perm _).mem_iff.mp (by rw [h]; exact List.mem_cons_self)
      have := b1.all e hm
      rw [mo.2] at this
      exact this
theorem run_rank {T : List (Addr × Str)} {σ : L2.St} {H : Hp} {ta : TE} {f : Bag} (h : Ev ta σ H (DtL f)) (hT : LamX.Tabs T H) (nd : (f.map (·.1)).Nodup) (hb : ∀ e ∈ f, e.1.length ≤ 1000) (Q : VK)
    (q : ∀ v H1, LamX.ExtN H H1 → LamX.Tabs T H1 → Lds ((inRank f).map Pd) v H1 → Q v H1) : tCall (p_in_rank T) [] E0 (tCons ta tNil) σ H Q :=
  h.run H (Same.refl _) _ fun v H1 e1 ⟨h1, h2⟩ => ⟨f, ⟨h2, nd, hb⟩, ⟨h1, trivial⟩, hT.ext e1, fun v' H' eN T' r => q v' H' ((LamX.ExtN.of e1).trans eN) T' r⟩
theorem s_retPair {T : List (Addr × Str)} {σ : L2.St} {H : Hp} {ta tb : TE} {f : Bag} {x : V} {D : Ends} (h1 : Ev ta σ H (isV x)) (h : Ev tb σ H (DtL f)) (hT : LamX.Tabs T H) (nd : (f.map (·.1)).Nodup) (hb : ∀ e ∈ f, e.1.length ≤ 1000)
    (k : ∀ v H1, LamX.ExtN H H1 → LamX.Tabs T H1 → Tds [isV x, Lds ((inRank f).map Pd)] v H1 → D.rt v H1) : tRet (tTup (tCons ta (tCons (tCall (p_in_rank T) [] E0 (tCons tb tNil)) tNil))) D σ H :=
  h1.run H (Same.refl _) _ fun y H1 e1 p1 => run_rank (h.mono e1) (hT.ext e1) nd hb _ fun v H2 eN T2 r => ⟨by show 2 ≤ sizeLine; decide, fun p hp => by
    have sn : Same H2 (upd H2 p (.tup [y, v])) := Same.new hp
    exact k _ _ (((LamX.ExtN.of e1).trans eN).trans (LamX.ExtN.of sn)) (T2.ext sn) ⟨p, _, rfl, upd_same, p1, Lds.mono (fun d hd => (pd_mk d hd).md) _ _ _ sn r, trivial⟩⟩
theorem q_setRank {T : List (Addr × Str)} {σ : L2.St} {H : Hp} {tb : TE} {f : Bag} {e : List Int × Int} {n : Nat} {D : Ends} {tz : L2.TS} (h : Ev tb σ H (DtL f)) (hT : LamX.Tabs T H) (nd : (f.map (·.1)).Nodup) (hb : ∀ e ∈ f, e.1.length ≤ 1000) (he : (inRank f)[0]? = some e)
    (k : ∀ v H1, LamX.ExtN H H1 → LamX.Tabs T H1 → Ts e.1 v H1 → tz D (σ.set n (some v)) H1) : tSeq (tAsg (tOp (rIxT K) (tOp (rIxL K) (tCall (p_in_rank T) [] E0 (tCons tb tNil)) (tC (.int 0))) (tC (.int 0))) (gName n)) tz D σ H :=
  run_rank h hT nd hb _ fun v H1 eN T1 ⟨p, us, ep, h1, h2⟩ => by
    obtain ⟨y, hy, hd⟩ := h2.get (i := 0) (d := Pd e) (by rw [List.getElem?_map, he]; rfl)
    obtain ⟨a, vs, ea, ha, hvs⟩ := hd
    obtain ⟨w1, w2, rfl, g1, g2⟩ := all2_2 hvs
    exact ⟨p, us, 0, y, ep, rfl, SqL.of h1, atI_nat (j := 0) hy, a, [w1, w2], 0, w1, ea, rfl, SqT.of ha, atI_nat (j := 0) rfl, k w1 H1 eN T1 g1⟩
theorem pd_md {ls : Bag} : ∀ d ∈ ls.map Pd, Md d := fun d hd => (pd_mk d hd).md
abbrev s_parts : Stmt := topS 47
abbrev N_parts : List Str := ["poly", "prime"]
theorem sc_parts : FnScope N_parts ["poly", "prime"] (defScope s_parts) := ⟨rfl, rfl, rfl, by decide +kernel, rfl, by decide +kernel, by decide +kernel⟩

def p_parts (K : PySem.W.Frag) (T : List (Addr × Str)) : Sp := PfX T (fun a : List Int × Int => [Ti K a.1, isV (.int a.2)]) (fun a => Val a.2 a.1 ∧ standsWhole (levelled a.1 a.2) a.2 = false) (fun a => Tds [isV (.int (a.1.getLastD 0)), Lds ((partsOf a.1 a.2).map Pd)])
theorem ok_parts (D : DfK K mg "parts" s_parts ["poly", "prime"] 1) (Bt : Bts mg) (Gb : Gbs K mg) {T : List (Addr × Str)} (c_need_polys : Cal P w K mg base 3 "need_polys" (p_need_polys K)) (c_levelled : Cal P w K mg base 3 "levelled" (p_levelled K)) (c_all_parts : Cal P w K mg base 10 "all_parts" (p_all_parts K)) (c_in_rank : Cal P w K mg base 1 "in_rank" (p_in_rank T)) : CalK P w K mg base 11 "parts" 1 (p_parts K T) := by
  refine calK_of D sc_parts (fun vs H Q E ⟨a, _, h, _⟩ => h.len) fun f cdv A outer s H vs Q E hr ⟨⟨one, p⟩, ⟨v, sw⟩, hds, q⟩ => ?_
  dsimp only at *
  obtain ⟨hT, q⟩ := q
  obtain ⟨x1, x2, rfl, hx, rfl⟩ := all2_2 hds
  have hp := v.pr
  have lo := v.lo
  have hi := v.hi
  have mo := v.mo
  obtain ⟨nd, hb, _⟩ := parts_facts v sw
  refine ⟨_, (pss_cons (ps_expr (pe_d c_need_polys hr (by decide) (by rfl) (pa_cons (pe_tup (pa_cons (pv 0) pa_nil)) (pa_cons (pv 1) pa_nil))))
      (pss_cons (ps_if (pt_cmpR (op_eqDK (K := K) hr.units) (pv 0) (pe_tup pa_nil) (nomark _)) (pss_one ps_never) pss_nil)
      (pss_one (ps_ret (pe_tup (pa_cons (pe_ix (ix_tupK (K := K)) (pv 0) (pe_un un_neg pe_int) (fun _ _ => rfl)) (pa_cons (pe_d c_in_rank hr (by decide) (by rfl) (pa_cons (pe_d c_all_parts hr (by decide) (by rfl) (pa_cons (pe_d c_levelled hr (by decide) (by rfl) (pa_cons (pv 0) (pa_cons (pv 1) pa_nil))) (pa_cons (pv 1) pa_nil))) pa_nil)) pa_nil))))))), ?_⟩
  refine q_drop (ev_need_polys (ev_v 0 Ti.mono rfl hx) (ev_i 1 rfl) hp (by omega) (isPoly_of v.cn (by omega))) fun H1 s1 => ?_
  have hx := Ti.mono _ _ _ s1 hx
  refine q_when (et_test (ev_eqT (ev_v 0 Ti.mono rfl hx) ev_t0.ti)) (fun hb => ?_) (fun hb2 H2 s2 => ?_)
  · exact (v.ne (by simpa using hb)).elim
  have hx := Ti.mono _ _ _ s2 hx
  refine s_retPair (ev_lastTI (ev_v 0 Ti.mono rfl hx) (ev_neg ev_c) (last_of v.ne)) (ev_all_parts (ev_levelled (ev_v 0 Ti.mono rfl hx) (ev_i 1 rfl) hp (by omega) v.ne v.cn.rg) (ev_i 1 rfl) hp mo.1 (by omega)) ((hT.ext s1).ext s2) nd hb fun u H3 e3 T3 h3 => q u H3 ((LamX.ExtN.of (s1.trans s2)).trans e3) T3 h3
def PapD (x : Paper) : PV := match x with
  | .whole t s => Tds [isV (.str "whole"), Lds (t.map Ts), Lds (s.map Sd)]
  | .parts a b => Tds [isV (.str "parts"), Ts a, Ts b]
abbrev s_paper : Stmt := topS 54
abbrev N_paper : List Str := ["poly", "prime", "level", "turns", "part"]
theorem sc_paper : FnScope N_paper ["poly", "prime"] (defScope s_paper) := ⟨rfl, rfl, rfl, by decide +kernel, rfl, by decide +kernel, by decide +kernel⟩

def p_paper (K : PySem.W.Frag) (T : List (Addr × Str)) : Sp := PfX T (fun a : List Int × Int => [Ti K a.1, isV (.int a.2)]) (fun a => Val a.2 a.1) (fun a => PapD (Rf.paper a.1 a.2))
theorem ok_paper (D : DfK K mg "paper" s_paper ["poly", "prime"] 1) (Bt : Bts mg) (Gb : Gbs K mg) {T : List (Addr × Str)} (c_need_polys : Cal P w K mg base 3 "need_polys" (p_need_polys K)) (c_divided : Cal P w K mg base 3 "divided" (p_divided K)) (c_levelled : Cal P w K mg base 3 "levelled" (p_levelled K)) (c_all_parts : Cal P w K mg base 10 "all_parts" (p_all_parts K)) (c_in_rank : Cal P w K mg base 1 "in_rank" (p_in_rank T)) (c_stands_whole : Cal P w K mg base 8 "stands_whole" (p_stands_whole K)) (c_turns_of : Cal P w K mg base 6 "turns_of" (p_turns_of K)) (c_shows_of : Cal P w K mg base 5 "shows_of" (p_shows_of K)) : CalK P w K mg base 11 "paper" 1 (p_paper K T) := by
  refine calK_of D sc_paper (fun vs H Q E ⟨a, _, h, _⟩ => h.len) fun f cdv A outer s H vs Q E hr ⟨⟨one, p⟩, v, hds, q⟩ => ?_
  dsimp only at *
  obtain ⟨hT, q⟩ := q
  obtain ⟨x1, x2, rfl, hx, rfl⟩ := all2_2 hds
  have hp := v.pr
  have bd := hp.bd
  have lo := v.lo
  have hi := v.hi
  have mo := v.mo
  refine ⟨_, (pss_cons (ps_expr (pe_d c_need_polys hr (by decide) (by rfl) (pa_cons (pe_tup (pa_cons (pv 0) pa_nil)) (pa_cons (pv 1) pa_nil))))
      (pss_cons (ps_if (pt_cmpR op_lt (pe_callB (call_lenK (K := K)) (by rfl) Bt.len PySem.boot_len (pa_cons (pv 0) pa_nil)) pe_int (nomark _)) (pss_one ps_never) pss_nil)
      (pss_cons (ps_set (i := 2) sc_paper.nd rfl (by first | exact .inl rfl | exact .inr rfl) (pe_d c_levelled hr (by decide) (by rfl) (pa_cons (pv 0) (pa_cons (pv 1) pa_nil))))
      (pss_cons (ps_if (pt_val (pe_d c_stands_whole hr (by decide) (by rfl) (pa_cons (pv 2) (pa_cons (pv 1) pa_nil)))) (pss_cons (ps_set (i := 3) sc_paper.nd rfl (by first | exact .inl rfl | exact .inr rfl) (pe_d c_turns_of hr (by decide) (by rfl) (pa_cons (pv 0) (pa_cons (pv 1) pa_nil))))
      (pss_one (ps_ret (pe_tup (pa_cons pe_str (pa_cons (pv 3) (pa_cons (pe_d c_shows_of hr (by decide) (by rfl) (pa_cons (pv 0) (pa_cons (pv 3) (pa_cons (pv 1) pa_nil)))) pa_nil))))))) pss_nil)
      (pss_cons (ps_set (i := 4) sc_paper.nd rfl (by first | exact .inl rfl | exact .inr rfl) (pe_ix (ix_tupK (K := K)) (pe_ix (ix_listK (K := K)) (pe_d c_in_rank hr (by decide) (by rfl) (pa_cons (pe_d c_all_parts hr (by decide) (by rfl) (pa_cons (pv 2) (pa_cons (pv 1) pa_nil))) pa_nil)) pe_int (fun _ _ => rfl)) pe_int (fun _ _ => rfl)))
      (pss_one (ps_ret (pe_tup (pa_cons pe_str (pa_cons (pv 4) (pa_cons (pe_ix (ix_tupK (K := K)) (pe_d c_divided hr (by decide) (by rfl) (pa_cons (pv 0) (pa_cons (pv 4) (pa_cons (pv 1) pa_nil)))) pe_int (fun _ _ => rfl)) pa_nil))))))))))), ?_⟩
  refine q_drop (ev_need_polys (ev_v 0 Ti.mono rfl hx) (ev_i 1 rfl) hp (by omega) (isPoly_of v.cn (by omega))) fun H1 s1 => ?_
  have hx := Ti.mono _ _ _ s1 hx
  refine q_when (b := decide ((one.length : Int) < 2)) (et_test (ev_I0 (ev_lenT (ev_v 0 Ti.mono rfl hx)) ev_c)) (fun hb => ?_) (fun hb2 H2 s2 => ?_)
  · have := of_decide_eq_true hb; omega
  have hx := Ti.mono _ _ _ s2 hx
  refine q_set (ev_levelled (ev_v 0 Ti.mono rfl hx) (ev_i 1 rfl) hp (by omega) v.ne v.cn.rg) fun v2 H3 s3 h3 => ?_
  have hx := Ti.mono _ _ _ s3 hx
  refine q_when (et_test (ev_stands (ev_v 2 Ts.mk.md rfl h3).ti (ev_i 1 rfl) (mo.1.ru hp) (by omega) (by omega))) (fun hb H4 s4 => ?_) (fun hb H4 s4 => ?_)
  · have hx := Ti.mono _ _ _ s4 hx
    obtain ⟨tl, tt⟩ := turns_ok v.ru (by omega)
    refine q_setD (el_turns (ev_v 0 Ti.mono rfl hx) (ev_i 1 rfl) v.ru lo (by omega)) fun l us H5 n5 s5 e5 a5 => ?_
    have hx := Ti.mono _ _ _ s5 hx
    have tm : ∀ d ∈ (turnsOf one p).map Ts, Md d := fun d hd => (ts_md d hd).md
    have hl5 : Lds ((turnsOf one p).map Ts) (.ref l) H5 := ⟨l, us, rfl, e5, a5⟩
    refine s_ret (ev_tupS (ea_cons (ev_c (v := .str "whole")) (ea_cons (ev_v 3 (Lds.mono tm) rfl hl5) (ea_cons ((el_shows (turns := turnsOf one p) (ev_v 0 Ti.mono rfl hx) (ev_v 3 (Lds.mono tm) rfl hl5) (ev_i 1 rfl) v.ru lo (by omega) tl fun t ht => ?_).lds fun d hd => (sd_mk d hd).md) ea_nil)))) fun u H6 s6 h6 => ?_
    · obtain ⟨i, hi⟩ := List.getElem?_of_mem ht
      have := (tt i t hi).lt
      omega
    · have sm := ((((s1.trans s2).trans s3).trans s4).trans s5).trans s6
      refine q u H6 (LamX.ExtN.of sm) (hT.ext sm) ?_
      rw [Rf.paper, if_pos hb]; exact h6
  · have hx := Ti.mono _ _ _ s4 hx
    have h3 := Ts.mk.md _ _ _ s4 h3
    obtain ⟨nd, hbb, e, he0, heD, po⟩ := parts_facts v hb
    have pl := po.lo
    have ph := po.hi
    have sm := ((s1.trans s2).trans s3).trans s4
    refine q_setRank (e := e) (ev_all_parts (ev_v 2 Ts.mk.md rfl h3) (ev_i 1 rfl) hp mo.1 (by omega)) (hT.ext sm) nd hbb he0 fun v4 H5 e5 T5 h5 => ?_
    have hx := Ti.mk _ _ _ (tk_of_ext e5) hx
    refine s_ret (ev_tupS (ea_cons (ev_c (v := .str "parts")) (ea_cons (ev_v 4 Ts.mk.md rfl h5) (ea_cons (ev_ixT (n := 0) ((ev_divided (ev_v 0 Ti.mono rfl hx) (ev_v 4 Ts.mk.md rfl h5).ti (ev_i 1 rfl) hp po.mo.cn.rg po.mo.ne (by omega) (by omega)).tdd tsts_md) ev_c rfl Ts.mk.md) ea_nil)))) fun u H6 s6 h6 => q u H6 (((LamX.ExtN.of sm).trans e5).trans (LamX.ExtN.of s6)) (T5.ext s6) ?_
    rw [Rf.paper, if_neg (by rw [hb]; decide), ← heD]; exact h6
end
end Rw
end
section
set_option maxRecDepth 100000
set_option maxHeartbeats 4000000
namespace Rw
open PySem PySem.Spec PyProof.Rows L2 Rf
variable {K : PySem.W.Frag}
def flat2 (s : List (List Int × List Int)) : List (List Int) := s.flatMap fun x => [x.1, x.2]
theorem flat2_snoc (s : List (List Int × List Int)) (x : List Int × List Int) : flat2 (s ++ [x]) = flat2 s ++ [x.1, x.2] := by simp [flat2]
theorem flat2_len : ∀ s : List (List Int × List Int), (flat2 s).length = 2 * s.length
  | [] => rfl
  | x :: s => by
    rw [show flat2 (x :: s) = x.1 :: x.2 :: flat2 s from rfl, List.length_cons, List.length_cons, List.length_cons, flat2_len s]; omega
section
variable {H H' : Hp} {ta tb tc td te : TE} {E : XK}
theorem eld_two {b : Addr} {sv : List V} {shows : List (List Int × List Int)} {c0 c1 c2 c3 c4 c6 c7 c8 c9 : Option V} (hb : H b = some (.lst sv)) (hs : All2 (shows.map Sd) sv H) (hl : shows.length ≤ 1000) :
    ElD (tLc2 (iList K (tVar 5)) (gName 8) tYes (iTup K (tVar 8)) (gName 9) tYes (tVar 9) [8, 9] [9]) [c0, c1, c2, c3, c4, some (.ref b), c6, c7, c8, c9] H ((flat2 shows).map Ts) := by
  intro H1 e Q q
  refine ei_lst (K := K) (σ := [c0, c1, c2, c3, c4, some (.ref b), c6, c7, c8, c9]) (H := H) (ev_i 5 rfl) (SqL.of hb) hs sd_mk H1 e _ fun J S H2 e2 s2 src it D hD => ?_
  have hn : (shows.map Sd).length = shows.length := List.length_map ..
  refine ⟨fun i m H' => m = shows.length - i ∧ i ≤ shows.length ∧ Same H2 H' ∧ ∃ us, H' D = some (.lst us) ∧ All2 ((flat2 (shows.take i)).map Ts) us H', ⟨shows.length, by simp, Nat.zero_le _, Same.new hD, [], upd_same, trivial⟩, ?_⟩
  rintro i m H' ⟨rfl, hi, e3, us, hus, ha⟩
  have q' := src.same H2 H' e3 s2
  by_cases hlt : i < shows.length
  · refine .inr ⟨it.go i H' (by rw [hn]; exact hlt) q', fun H3 => Same H2 H3 ∧ ∃ us, H3 D = some (.lst us) ∧ All2 ((flat2 (shows.take (i + 1))).map Ts) us H3, fun H3 p' => ⟨shows.length - (i + 1), by omega, rfl, hlt, p'⟩, fun x H'' y => ?_⟩
    obtain ⟨a, hx⟩ := it.yld i H' x H'' (by rw [hn]; exact hlt) q' y
    obtain ⟨s, hs1, hs2⟩ := nth_map hx
    refine ⟨rfl, ?_⟩
    have e5 := e3.trans a
    have ha5 := ha.mono a fun d hd => (ts_md d hd).md
    simp only [tYes, if_true]
    refine ei_tup (K := K) (σ := [c0, c1, c2, c3, c4, some (.ref b), c6, c7, some x, none]) (H := H'') ((ev_v 8 (Tds.mono tsts_md) rfl hs2).tdd tsts_md) two_mk H'' (Same.refl _) _ fun J1 S1 H4 e4 s4 src4 it4 => ?_
    have hus4 := e4 _ _ (a _ _ hus)
    have ha4 := ha5.mono e4 fun d hd => (ts_md d hd).md
    refine ⟨fun j k H' => k = 2 - j ∧ j ≤ 2 ∧ Same H2 H' ∧ S1 H' ∧ ∃ us, H' D = some (.lst us) ∧ All2 ((flat2 (shows.take i)).map Ts ++ [Ts s.1, Ts s.2].take j) us H', ⟨2, rfl, by omega, e5.trans e4, s4, us, hus4, by rw [List.take_zero, List.append_nil]; exact ha4⟩, ?_⟩
    rintro j k H6 ⟨rfl, hj, e6, s6, us6, hus6, ha6⟩
    by_cases hj2 : j < 2
    · refine .inr ⟨it4.go j H6 hj2 s6, fun H7 => Same H2 H7 ∧ S1 H7 ∧ ∃ us, H7 D = some (.lst us) ∧ All2 ((flat2 (shows.take i)).map Ts ++ [Ts s.1, Ts s.2].take (j + 1)) us H7, fun H7 p' => ⟨2 - (j + 1), by omega, rfl, by omega, p'⟩, fun x7 H7 y7 => ?_⟩
      obtain ⟨a7, hx7⟩ := it4.yld j H6 x7 H7 hj2 s6 y7
      refine ⟨rfl, ?_⟩
      obtain ⟨d, hd, hdx⟩ := hx7
      have hus7 := a7 _ _ hus6
      have lu := ha6.len
      rw [List.length_append, List.length_map, flat2_len, List.length_take, List.length_take] at lu
      have s7 := src4.same _ _ a7 s6
      have md6 : ∀ d ∈ (flat2 (shows.take i)).map Ts ++ [Ts s.1, Ts s.2].take j, Mk d := fun d hd => by
        rcases List.mem_append.mp hd with z | z
        · exact ts_md d z
        · exact two_mk d (List.mem_of_mem_take z)
      have tk7 : Tk H7 (upd H7 D (.lst (us6 ++ [x7]))) := Tk.upd hus7 trivial
      refine ⟨x7, rfl, us6, hus7, sz_lt (by omega), Same.mut (e6.trans a7) hD, ?_, us6 ++ [x7], upd_same, ?_⟩
      · exact src4.upd _ _ _ _ s7 hus7 trivial (by rw [a _ _ hus]; simp) (by simp)
      · rw [List.take_add_one, hd]
        rw [← List.append_assoc]
        exact All2.app (ha6.mk ((Tk.of a7).trans tk7) md6) ⟨two_mk d (List.mem_of_getElem? hd) _ _ _ tk7 hdx, trivial⟩
    · have ej : j = 2 := by omega
      subst ej
      refine .inl ⟨it4.stop H6 s6, e6, us6, hus6, ?_⟩
      rw [take_snoc hs1, flat2_snoc, List.map_append]; exact ha6
  · have e4 : i = shows.length := by omega
    subst e4
    rw [List.take_length] at ha
    refine .inl ⟨?_, q D us H' (e2.free hD) (e2.trans e3) hus ha⟩
    have := it.stop H' q'
    rw [hn] at this; exact this
theorem eld_cat {σ : L2.St} {ds es : List PV} (ha : ElD ta σ H ds) (hb : ElD tb σ H es) (m : ∀ d ∈ ds, Mk d) (m2 : ∀ d ∈ es, Mk d) (hl : ds.length + es.length ≤ 100000) : ElD (tOp rCat ta tb) σ H (ds ++ es) := fun H1 e Q q =>
  ha H1 e _ fun p vs H2 hp e2 h a => hb H2 (e.trans e2) _ fun r us H3 hr e3 h' a' => ⟨p, r, vs, us, rfl, rfl, e3 _ _ h, h', by rw [a.len, a'.len]; exact sz_of hl, fun l hl => by
    have sn : Same H3 (upd H3 l (.lst (vs ++ us))) := Same.new hl
    exact q l _ _ (e2.free (e3.free hl)) ((e2.trans e3).trans sn) upd_same (All2.app (a.mono (e3.trans sn) fun d hd => (m d hd).md) (a'.mono sn fun d hd => (m2 d hd).md))⟩
theorem eld_list {σ : L2.St} {ds : List PV} (ha : Ev ta σ H (Lds ds)) (m : ∀ d ∈ ds, Mk d) : ElD (tCB (Evl.rListS K) (tCons ta tNil)) σ H ds := fun H1 e Q q =>
  ha.run H1 e _ fun v H2 e2 ⟨a, us, e3, h, al⟩ => ⟨a, us, by rw [e3], .inl (SqL.of h), fun l hl => q l us _ (e2.free hl) (e2.trans (Same.new hl)) upd_same (al.mono (Same.new hl) fun d hd => (m d hd).md)⟩
theorem s_set3 {σ : L2.St} {n m k : Nat} {P1 P2 P3 : PV} {D : Ends} {tz : L2.TS} (h : Ev te σ H (Td K [P1, P2, P3])) (q : ∀ u v w H1, Same H H1 → P1 u H1 → P2 v H1 → P3 w H1 → tz D (((σ.set n (some u)).set m (some v)).set k (some w)) H1) : tSeq (tAsg te (gTup K 3 (gCons (gName n) (gCons (gName m) (gCons (gName k) gNil))))) tz D σ H :=
  h.run H (Same.refl _) _ fun v H1 e ⟨a, vs, e1, hq, al⟩ => by
    obtain ⟨x, y, z, rfl, h1, h2, h3⟩ := all2_3 al
    exact ⟨a, _, e1, hq, rfl, x, [y, z], rfl, y, [z], rfl, z, [], rfl, rfl, q x y z H1 e h1 h2 h3⟩
end
theorem show_facts {rule : List Int} {p : Int} (u : Ru p rule) (hl : rule.length ≤ 20) {t : List Int} (ht : t.length ≤ 20) : Rg p (shared (less t [0, 1] p) rule p).2.1 ∧ Rg p (shared (less t [0, 1] p) rule p).2.2 ∧ (shared (less t [0, 1] p) rule p).2.1.length ≤ 25 ∧ (shared (less t [0, 1] p) rule p).2.2.length ≤ 25 := by
  have cl := cn_less (p := p) u.pr.pos t [0, 1]
  have G := gcd_ok u.pr cl u.cn
  have lb := len_blended (p := p) t [0, 1] (p - 1)
  have l2 : ([0, 1] : List Int).length = 2 := rfl
  have ll : (less t [0, 1] p).length ≤ 20 := by
    show (blended _ _ _ _).length ≤ 20
    omega
  have n2 := G.n2
  have n3 := G.n3
  exact ⟨G.c2.rg, G.c3.rg, by omega, by omega⟩
section
variable {P : Program} {w : World} {mg : Str → Option Value} {base : Heap}
abbrev s_paper_holds : Stmt := topS 57
abbrev N_paper_holds : List Str := ["poly", "told", "prime", "word", "one", "other", "good", "some", "pair", "more"]
theorem sc_paper_holds : FnScope N_paper_holds ["poly", "told", "prime"] (defScope s_paper_holds) := ⟨rfl, rfl, rfl, by decide +kernel, rfl, by decide +kernel, by decide +kernel⟩

def p_paper_holds (K : PySem.W.Frag) : Sp := Pf (fun a : List Int × Int => [Ti K a.1, PapD (Rf.paper a.1 a.2), isV (.int a.2)]) (fun a => Val a.2 a.1) (fun a => isV (.bl (paperHolds a.1 (Rf.paper a.1 a.2) a.2)))
theorem ok_paper_holds (D : DfK K mg "paper_holds" s_paper_holds ["poly", "told", "prime"] 2) (Bt : Bts mg) (Gb : Gbs K mg) (c_is_poly : Cal P w K mg base 2 "is_poly" (p_is_poly K)) (c_need_polys : Cal P w K mg base 3 "need_polys" (p_need_polys K)) (c_multiplied : Cal P w K mg base 2 "multiplied" (p_multiplied K)) (c_whole_holds : Cal P w K mg base 7 "whole_holds" (p_whole_holds K)) : CalK P w K mg base 8 "paper_holds" 2 (p_paper_holds K) := by
  refine calK_of D sc_paper_holds (fun vs H Q E ⟨a, _, h, _⟩ => h.len) fun f cdv A outer s H vs Q E hr ⟨⟨one, p⟩, v, hds, q⟩ => ?_
  dsimp only at *
  obtain ⟨x1, x2, x3, rfl, hx, ht, rfl⟩ := all2_3 hds
  have hp := v.pr
  have bd := hp.bd
  have lo := v.lo
  have hi := v.hi
  have mo := v.mo
  refine ⟨_, (pss_cons (ps_expr (pe_d c_need_polys hr (by decide) (by rfl) (pa_cons (pe_tup (pa_cons (pv 0) pa_nil)) (pa_cons (pv 2) pa_nil))))
      (pss_cons (ps_if (pt_cmpR op_lt (pe_callB (call_lenK (K := K)) (by rfl) Bt.len PySem.boot_len (pa_cons (pv 0) pa_nil)) pe_int (nomark _)) (pss_one ps_never) pss_nil)
      (pss_cons (ps_asg (pv 1) (pg_tupK (K := K) (n := 3) rfl (pgs_cons (pg_name (i := 3) sc_paper_holds.nd rfl (by first | exact .inl rfl | exact .inr rfl)) (pgs_cons (pg_name (i := 4) sc_paper_holds.nd rfl (by first | exact .inl rfl | exact .inr rfl)) (pgs_cons (pg_name (i := 5) sc_paper_holds.nd rfl (by first | exact .inl rfl | exact .inr rfl)) pgs_nil)))))
      (pss_cons (ps_if (pt_cmpR op_eq (pv 3) pe_str (nomark _)) (pss_cons (ps_set (i := 6) sc_paper_holds.nd rfl (by first | exact .inl rfl | exact .inr rfl) (pe_and (pe_d c_is_poly hr (by decide) (by rfl) (pa_cons (pv 4) (pa_cons (pv 2) pa_nil))) (pe_and (pe_d c_is_poly hr (by decide) (by rfl) (pa_cons (pv 5) (pa_cons (pv 2) pa_nil))) (pe_and (pe_cmpR op_gt (pe_callB (call_lenK (K := K)) (by rfl) Bt.len PySem.boot_len (pa_cons (pv 4) pa_nil)) pe_int (nomark _)) (pe_one (pe_cmpR op_gt (pe_callB (call_lenK (K := K)) (by rfl) Bt.len PySem.boot_len (pa_cons (pv 5) pa_nil)) pe_int (nomark _)))))))
      (pss_one (ps_ret (pe_and (pv 6) (pe_one (pe_cmpR (op_eqDK (K := K) hr.units) (pe_d c_multiplied hr (by decide) (by rfl) (pa_cons (pv 4) (pa_cons (pv 5) (pa_cons (pv 2) pa_nil)))) (pv 0) (nomark _))))))) pss_nil)
      (pss_cons (ps_if (pt_cmpR op_ne (pv 3) pe_str (nomark _)) (pss_one (ps_ret pe_bl)) pss_nil)
      (pss_cons (ps_set (i := 7) sc_paper_holds.nd rfl (by first | exact .inl rfl | exact .inr rfl) (pe_op op_cat (pe_callTy (call_listK (K := K)) (by rfl) Bt.list (by decide +kernel) (pa_cons (pv 4) pa_nil)) (pe_lc2 (own := [("pair", 8), ("more", 9)]) (vs1 := [9]) rfl sc_paper_holds.nd (pi_list (pv 5)) (blkOk_by (N := N_paper_holds) (sc := defScope s_paper_holds) (by decide +kernel)) (by decide) (fun _ _ _ _ _ => (pg_name (i := 8) sc_paper_holds.nd rfl (by first | exact .inl rfl | exact .inr rfl))) (fun _ _ _ _ _ => pts_nil) (fun _ _ _ _ _ => (pi_tupK (K := K) (pv 8))) (fun _ _ _ _ _ => (pg_name (i := 9) sc_paper_holds.nd rfl (by first | exact .inl rfl | exact .inr rfl))) (fun _ _ _ _ _ => pts_nil) (fun _ _ _ _ _ => (pv 9)))))
      (pss_one (ps_ret (pe_and (pe_callB (cr_allK (K := K) rfl) (by rfl) Bt.all (by decide +kernel) (pa_cons (pe_lc (own := [("more", 9)]) rfl sc_paper_holds.nd (pi_list (pv 7)) (blkOk_by (N := N_paper_holds) (sc := defScope s_paper_holds) (by decide +kernel)) (fun _ _ _ _ _ => (pg_name (i := 9) sc_paper_holds.nd rfl (by first | exact .inl rfl | exact .inr rfl))) (fun _ _ _ _ _ => pts_nil) (fun _ _ _ _ _ => (pe_d c_is_poly hr (by decide) (by rfl) (pa_cons (pv 9) (pa_cons (pv 2) pa_nil))))) pa_nil)) (pe_one (pe_d c_whole_holds hr (by decide) (by rfl) (pa_cons (pv 0) (pa_cons (pv 4) (pa_cons (pv 5) (pa_cons (pv 2) pa_nil))))))))))))))), ?_⟩
  refine q_drop (ev_need_polys (ev_v 0 Ti.mono rfl hx) (ev_i 2 rfl) hp (by omega) (isPoly_of v.cn (by omega))) fun H1 s1 => ?_
  have hx := Ti.mono _ _ _ s1 hx
  refine q_when (b := decide ((one.length : Int) < 2)) (et_test (ev_I0 (ev_lenT (ev_v 0 Ti.mono rfl hx)) ev_c)) (fun hb => ?_) (fun hb2 H2 s2 => ?_)
  · have := of_decide_eq_true hb; omega
  have hx := Ti.mono _ _ _ s2 hx
  cases hpap : Rf.paper one p with
  | parts a b =>
    rw [hpap] at ht q
    have sw : standsWhole (levelled one p) p = false := by
      cases h : standsWhole (levelled one p) p with
      | false => rfl
      | true => rw [Rf.paper, if_pos h] at hpap; cases hpap
    obtain ⟨nd, hbb, e, he0, heD, po⟩ := parts_facts v sw
    have pl := po.lo
    have ph := po.hi
    have hab : a = e.1 ∧ b = (divided one e.1 p).1 := by
      rw [Rf.paper, if_neg (by rw [sw]; decide), ← heD] at hpap
      injection hpap with h1 h2
      exact ⟨h1.symm, h2.symm⟩
    obtain ⟨rfl, hbq⟩ := hab
    have D1 := (div_ok hp po.mo.cn po.mo.ne v.cn.rg).l1
    rw [← hbq] at D1
    have ht1 := Tds.mono (ds := [isV (.str "parts"), Ts e.1, Ts b]) (fun d hd => by
      rcases List.mem_cons.mp hd with z | hd
      · rw [z]; exact md_isV
      · exact tsts_md d hd) _ _ _ (s1.trans s2) ht
    have m3 : ∀ d ∈ [isV (.str "parts"), Ts e.1, Ts b], Md d := fun d hd => by
      rcases List.mem_cons.mp hd with z | hd
      · rw [z]; exact md_isV
      · exact tsts_md d hd
    refine s_set3 ((ev_v 1 (Tds.mono m3) rfl ht1).tdd m3) fun u v4 v5 H3 s3 h3 h4 h5 => ?_
    obtain rfl := h3
    have hx := Ti.mono _ _ _ s3 hx
    refine q_when (b := true) (EvT.is (et_test (ev_eq (x := .str "parts") (y := .str "parts") rfl (ev_i 3 rfl) ev_c)) (by simp)) (fun _ H4 s4 => ?_) (fun hb => by cases hb)
    have hx := Ti.mono _ _ _ s4 hx
    have h4 := Ts.mk.md _ _ _ s4 h4
    have h5 := Ts.mk.md _ _ _ s4 h5
    refine q_set (P := isV (.bl (isPoly e.1 p && (isPoly b p && (decide ((1 : Int) < e.1.length) && decide ((1 : Int) < b.length)))))) (ev_andV (ev_is_poly (ev_v 4 Ts.mk.md rfl h4).ti (ev_i 2 rfl) (by omega)) fun _ => ev_andV (ev_is_poly (ev_v 5 Ts.mk.md rfl h5).ti (ev_i 2 rfl) (by omega)) fun _ => ev_andV (ev_I0 (ev_lenT (ev_v 4 Ts.mk.md rfl h4).ti) ev_c) fun _ => ev_I0 (ev_lenT (ev_v 5 Ts.mk.md rfl h5).ti) ev_c) fun v6 H5 s5 h6 => ?_
    obtain rfl := h6
    have hx := Ti.mono _ _ _ s5 hx
    have h4 := Ts.mk.md _ _ _ s5 h4
    have h5 := Ts.mk.md _ _ _ s5 h5
    refine s_ret (ev_andV (ev_i 6 rfl) fun _ => ev_eqT (ev_multiplied (ev_v 4 Ts.mk.md rfl h4).ti (ev_v 5 Ts.mk.md rfl h5).ti (ev_i 2 rfl) hp po.mo.cn.rg (by omega) (by omega)).ti (ev_v 0 Ti.mono rfl hx)) fun v7 H6 s6 h7 => q v7 H6 (((((s1.trans s2).trans s3).trans s4).trans s5).trans s6) ?_
    have d1 : decide ((1 : Int) < e.1.length) = decide (1 < e.1.length) := decide_eq_decide.mpr (by omega)
    have d2 : decide ((1 : Int) < b.length) = decide (1 < b.length) := decide_eq_decide.mpr (by omega)
    rw [d1, d2, ← Bool.and_assoc, ← Bool.and_assoc] at h7
    exact h7
  | whole turns shows =>
    rw [hpap] at ht q
    have sw : standsWhole (levelled one p) p = true := by
      cases h : standsWhole (levelled one p) p with
      | true => rfl
      | false => rw [Rf.paper, if_neg (by rw [h]; decide)] at hpap; cases hpap
    have hts : turns = turnsOf one p ∧ shows = showsOf one (turnsOf one p) p := by
      rw [Rf.paper, if_pos sw] at hpap
      injection hpap with h1 h2
      exact ⟨h1.symm, h2.symm⟩
    obtain ⟨rfl, hsh⟩ := hts
    obtain ⟨tl, tt⟩ := turns_ok v.ru (by omega)
    have htt : ∀ t ∈ turnsOf one p, Cn p t ∧ t.length < one.length := fun t ht => by
      obtain ⟨i, hi⟩ := List.getElem?_of_mem ht
      exact ⟨(tt i t hi).cn, (tt i t hi).lt⟩
    have hss : ∀ s ∈ shows, Rg p s.1 ∧ Rg p s.2 ∧ s.1.length ≤ 25 ∧ s.2.length ≤ 25 := fun s hs => by
      rw [hsh, showsOf] at hs
      obtain ⟨qq, hq, rfl⟩ := List.mem_map.mp hs
      refine show_facts v.ru (by omega) ?_
      rw [List.getD_eq_getElem?_getD]
      cases h : (turnsOf one p)[(one.length - 1) / qq - 1]? with
      | none => exact Nat.zero_le _
      | some t =>
        have := (htt t (List.mem_of_getElem? h)).2
        show t.length ≤ 20
        omega
    have hsl : shows.length ≤ 9 := by
      rw [hsh, showsOf, List.length_map]
      exact Nat.le_trans (List.length_filter_le _ _) (by decide)
    have mT : ∀ d ∈ (turnsOf one p).map Ts, Md d := fun d hd => (ts_md d hd).md
    have mS : ∀ d ∈ shows.map Sd, Md d := fun d hd => (sd_mk d hd).md
    have m3 : ∀ d ∈ [isV (.str "whole"), Lds ((turnsOf one p).map Ts), Lds (shows.map Sd)], Md d := fun d hd => by
      rcases List.mem_cons.mp hd with z | hd
      · rw [z]; exact md_isV
      rcases List.mem_cons.mp hd with z | hd
      · rw [z]; exact Lds.mono mT
      · rw [List.mem_singleton.mp hd]; exact Lds.mono mS
    have ht1 := Tds.mono m3 _ _ _ (s1.trans s2) ht
    refine s_set3 ((ev_v 1 (Tds.mono m3) rfl ht1).tdd m3) fun u v4 v5 H3 s3 h3 h4 h5 => ?_
    obtain rfl := h3
    obtain ⟨b, sv, rfl, hb, hsb⟩ := h5
    have hx := Ti.mono _ _ _ s3 hx
    refine q_when (b := false) (EvT.is (et_test (ev_eq (x := .str "whole") (y := .str "parts") rfl (ev_i 3 rfl) ev_c)) (by decide)) (fun hb => by cases hb) (fun _ H4 s4 => ?_)
    refine q_when (b := false) (EvT.is (et_test (ev_ne (x := .str "whole") (y := .str "whole") rfl (ev_i 3 rfl) ev_c)) (by simp)) (fun hb => by cases hb) (fun _ H5 s5 => ?_)
    have s35 := s4.trans s5
    have hx := Ti.mono _ _ _ s35 hx
    have h4 := Lds.mono mT _ _ _ s35 h4
    have hb := s35 _ _ hb
    have hsb := hsb.mono s35 mS
    have hfl : (flat2 shows).length ≤ 18 := by rw [flat2_len]; omega
    refine q_setD (ds := (turnsOf one p ++ flat2 shows).map Ts) ?_ fun l us H6 n6 s6 e6 a6 => ?_
    · rw [List.map_append]
      exact eld_cat (eld_list (ev_v 4 (Lds.mono mT) rfl h4) ts_md) (eld_two hb hsb (by omega)) ts_md ts_md (by rw [List.length_map, List.length_map]; omega)
    have hx := Ti.mono _ _ _ s6 hx
    have h4 := Lds.mono mT _ _ _ s6 h4
    have hb := s6 _ _ hb
    have hsb := hsb.mono s6 mS
    have hll : (turnsOf one p ++ flat2 shows).length ≤ 40 := by rw [List.length_append]; omega
    have hel : ∀ t ∈ turnsOf one p ++ flat2 shows, t.length ≤ 50 := fun t ht => by
      rcases List.mem_append.mp ht with z | z
      · have := (htt t z).2; omega
      · obtain ⟨s, hs, hs2⟩ := List.mem_flatMap.mp z
        have := hss s hs
        rcases List.mem_cons.mp hs2 with y | y
        · rw [y]; omega
        · rw [List.mem_singleton.mp y]; omega
    refine s_ret (ev_andV (ev_all (bs := (turnsOf one p ++ flat2 shows).map (isPoly · p)) (eld_lcD _ (ei_lst (ev_i 7 rfl) (SqL.of e6) a6 ts_md) (by rw [List.length_map]; omega) (by rw [List.length_map, List.length_map, List.length_map]) bls_mk ?_)) fun _ => ev_whole_holds (ev_v 0 Ti.mono rfl hx) (ev_v 4 (Lds.mono mT) rfl h4) (ev_v 5 (Lds.mono mS) rfl ⟨b, sv, rfl, hb, hsb⟩) (ev_i 2 rfl) v.ru lo (by omega) tl (fun t ht => ⟨(htt t ht).1, by have := (htt t ht).2; omega⟩) (fun s hs => by
      have := hss s hs
      exact ⟨this.1, this.2.1, by omega, by omega⟩)) fun v7 H7 s7 h7 => q v7 H7 ((((s1.trans s2).trans s3).trans s35).trans (s6.trans s7)) ?_
    · rintro i x H8 d hd s8 hx8
      obtain ⟨t, ht, hxt⟩ := nth_map hx8
      rw [List.getElem?_map, List.getElem?_map, ht] at hd
      obtain rfl : isV (.bl (isPoly t p)) = d := Option.some.inj hd
      exact ⟨_, fun k hk => hk, rfl, et_yes, ev_is_poly (ev_v 9 Ts.mk.md rfl hxt).ti (ev_i 2 rfl) (by have := hel t (List.mem_of_getElem? ht); omega)⟩
    · rw [List.all_map] at h7
      exact h7
end
end Rw
end
section
set_option maxRecDepth 100000
set_option maxHeartbeats 4000000
namespace Rw
open PySem PySem.Spec PyProof.Rows L2 Rf
variable {K : PySem.W.Frag}
section
variable {σ : L2.St} {H H' : Hp} {ta tb tc td ty tv te tl : TE} {D : Ends} {tz : L2.TS} {tt : TT}
theorem ei_range2 {a b : Int} {n : Nat} (h1 : Ev ta σ H (isV (.int a))) (h2 : Ev tb σ H (isV (.int b))) (ha : -100000 ≤ a ∧ a ≤ 100000) (hb : -100000 ≤ b ∧ b ≤ 100000) (hn : (b - a).toNat = n) : EvI (iRng2 (tCons ta (tCons tb tNil))) σ H n (fun i => isV (.int (a + i))) [] := fun H1 e R q =>
  h1.run H1 e _ fun v H2 e2 p => h2.run H2 (e.trans e2) _ fun v2 H3 e3 p2 => ⟨a, b, by rw [show v = _ from p, show v2 = _ from p2], ⟨by omega, by omega, by omega, by omega⟩, by
    rw [hn]
    exact q (Itr a n) (fun _ => True) H3 (e2.trans e3) trivial src_true iter_r⟩
/-- a list of new lists of ints -/
def ElLL (te : TE) (σ : L2.St) (H : Hp) (ls : List (List Int)) : Prop := ∀ H1, Same H H1 → ∀ Q : VK, (∀ p vs H2, H1 p = none → Same H1 H2 → H2 p = some (.lst vs) → All2 (ls.map (Lx p)) vs H2 → Q (.ref p) H2) → te σ H1 Q
theorem q_setLL {n : Nat} {ls : List (List Int)} (h : ElLL te σ H ls) (k : ∀ p vs H1, H p = none → Same H H1 → H1 p = some (.lst vs) → All2 (ls.map (Lx p)) vs H1 → tz D (σ.set n (some (.ref p))) H1) : tSeq (tAsg te (gName n)) tz D σ H := h H (Same.refl _) _ k
theorem ell_lc {wi : L2.TI} {g : TG} {vs : List Nat} {n : Nat} {P : Nat → PV} {L : List Addr} (ls : List (List Int)) (he : EvI wi σ H n P L) (hn : n ≤ 50000) (hl : ls.length = n)
    (hs : ∀ (i : Nat) x H1 l, ls[i]? = some l → Same H H1 → P i x H1 → ∃ τ : L2.St, (∀ k : L2.St → Hp → Prop, k τ H1 → g x (wipe σ vs) H1 k) ∧ wipe τ vs = wipe σ vs ∧ EvT tt τ H1 true ∧ EvL te τ H1 (l.map V.int)) :
    ElLL (tLc wi g tt te vs) σ H ls := fun H1 e Q q => he H1 e _ fun J S H2 e2 s2 src it D hD => by
  refine ⟨fun i mm H' => mm = n - i ∧ i ≤ n ∧ Same H2 H' ∧ ∃ us, H' D = some (.lst us) ∧ All2 ((ls.take i).map (Lx D)) us H', ⟨n, by simp, Nat.zero_le _, Same.new hD, [], upd_same, trivial⟩, ?_⟩
  rintro i mm H' ⟨rfl, hi, e3, us, hus, ha⟩
  have q' := src.same H2 H' e3 s2
  by_cases hlt : i < n
  · refine .inr ⟨it.go i H' hlt q', fun H3 => Same H2 H3 ∧ ∃ us, H3 D = some (.lst us) ∧ All2 ((ls.take (i + 1)).map (Lx D)) us H3, fun H3 p' => ⟨n - (i + 1), by omega, rfl, hlt, p'⟩, fun x H'' y => ?_⟩
    obtain ⟨a, b⟩ := it.yld i H' x H'' hlt q' y
    have hli : ls[i]? = some ls[i] := List.getElem?_eq_getElem (by omega)
    obtain ⟨τ, h1, h2, h3, h4⟩ := hs i x H'' _ hli (((e.trans e2).trans e3).trans a) b
    refine h1 _ ⟨h2, h3 H'' (Same.refl _) _ fun H3 e4 => ?_⟩
    show te τ H3 _
    have lu := ha.len
    rw [List.length_map, List.length_take] at lu
    refine h4 H3 e4 _ fun p H4 hp e5 hpx => ⟨us, e5 _ _ (e4 _ _ (a _ _ hus)), sz_lt (by omega), Same.mut ((e3.trans a).trans (e4.trans e5)) hD, us ++ [.ref p], upd_same, ?_⟩
    have npD : p ≠ D := fun z => by
      have := e4 _ _ (a _ _ hus)
      rw [← z, hp] at this; cases this
    rw [take_snoc hli, List.map_append]
    refine All2.app (all2_lx_upd (ha.mono ((a.trans e4).trans e5) lx_md)) ⟨⟨p, rfl, npD, by rw [upd_ne npD]; exact hpx⟩, trivial⟩
  · have e4 : i = n := by omega
    subst e4
    rw [show ls.take i = ls from List.take_of_length_le (by omega)] at ha
    exact .inl ⟨it.stop H' q', q D us H' (e2.free hD) (e2.trans e3) hus ha⟩
theorem el_litI {ns : List Int} {ta : TA} (h : EvA ta σ H (ns.map fun x => isV (.int x))) (hl : ns.length ≤ 1000) : EvL (tLst ta) σ H (ns.map V.int) := (eld_lst h (by rw [List.length_map]; omega)).ints
end
section
variable {P : Program} {w : World} {mg : Str → Option Value} {base : Heap}
abbrev s__law_primes : Stmt := topS 66
abbrev N__law_primes : List Str := []
theorem sc__law_primes : FnScope N__law_primes [] (defScope s__law_primes) := ⟨rfl, rfl, rfl, by decide +kernel, rfl, by decide +kernel, by decide +kernel⟩

def p__law_primes : Sp := PfL (fun _ : Unit => []) (fun _ => True) (fun _ => Rf.PRIMES.map fun x => isV (.int x))
theorem ok__law_primes (D : Df K mg "_law_primes" s__law_primes []) (Bt : Bts mg) (Gb : Gbs K mg) : Cal P w K mg base 1 "_law_primes" p__law_primes := by
  refine cal_of D sc__law_primes (fun vs H Q E ⟨a, _, h, _⟩ => h.len) fun f cdv A outer s H vs Q E hr ⟨_, _, hds, q⟩ => ?_
  obtain rfl := all2_0 hds
  refine ⟨_, (pss_one (ps_ret (pe_lst (pa_cons pe_int (pa_cons pe_int (pa_cons pe_int (pa_cons pe_int (pa_cons pe_int (pa_cons pe_int (pa_cons pe_int (pa_cons pe_int (pa_cons pe_int (pa_cons pe_int (pa_cons pe_int (pa_cons pe_int (pa_cons pe_int (pa_cons pe_int (pa_cons pe_int (pa_cons pe_int (pa_cons pe_int (pa_cons pe_int (pa_cons pe_int (pa_cons pe_int (pa_cons pe_int (pa_cons pe_int (pa_cons pe_int (pa_cons pe_int (pa_cons pe_int pa_nil)))))))))))))))))))))))))))), ?_⟩
  refine s_retL (el_litI (ns := Rf.PRIMES) ?_ (by decide)) fun p H1 hp s1 h1 => q p _ H1 hp s1 h1 (all2_ints.mpr rfl)
  repeat' first | exact ea_nil | refine ea_cons ev_c ?_
abbrev s__law_trim : Stmt := topS 67
abbrev N__law_trim : List Str := ["_law_numbers", "_law_many", "_law_k"]
theorem sc__law_trim : FnScope N__law_trim ["_law_numbers"] (defScope s__law_trim) := ⟨rfl, rfl, rfl, by decide +kernel, rfl, by decide +kernel, by decide +kernel⟩

def p__law_trim (K : PySem.W.Frag) : Sp := Pf (fun a : List Int => [Li K a]) (fun a => a.length ≤ 1000) (fun a => Ts (cut a))
theorem ok__law_trim (D : Df K mg "_law_trim" s__law_trim ["_law_numbers"]) (Bt : Bts mg) (Gb : Gbs K mg)  : Cal P w K mg base 1 "_law_trim" (p__law_trim K) := by
  refine cal_of D sc__law_trim (fun vs H Q E ⟨a, _, h, _⟩ => h.len) fun f cdv A outer s H vs Q E hr ⟨xs, hl, hds, q⟩ => ?_
  dsimp only at *
  obtain ⟨x1, rfl, hx⟩ := all2_1 hds
  refine ⟨_, (pss_cons (ps_set (i := 1) sc__law_trim.nd rfl (by first | exact .inl rfl | exact .inr rfl) (pe_callB (call_lenK (K := K)) (by rfl) Bt.len PySem.boot_len (pa_cons (pv 0) pa_nil)))
      (pss_cons (ps_for PassesOwn.never rfl (pi_range1 (by rfl) Bt.range (pa_cons (pe_callB (call_lenK (K := K)) (by rfl) Bt.len PySem.boot_len (pa_cons (pv 0) pa_nil)) pa_nil)) (pg_name (i := 2) sc__law_trim.nd rfl (by first | exact .inl rfl | exact .inr rfl)) (pss_one (ps_if ((pw_and (pt_cmpR op_gt (pv 1) pe_int (nomark _)) (pw_and1 (pt_cmpR op_eq (pe_ix (ix_listK (K := K)) (pv 0) (pe_op op_sub (pv 1) pe_int) (fun _ _ => rfl)) pe_int (nomark _))))).pt (pss_one (ps_set (i := 1) sc__law_trim.nd rfl (by first | exact .inl rfl | exact .inr rfl) (pe_op op_sub (pv 1) pe_int))) pss_nil)))
      (pss_one (ps_ret (pe_callTy (call_tupK (K := K)) (by rfl) Bt.tuple (by decide +kernel) (pa_cons (pe_slice (sl_listK (K := K)) (pv 0) po_none (po_some (pv 1))) pa_nil)))))), ?_⟩
  refine q_set (ev_lenL (ev_v 0 Li.mono rfl hx)) fun v H1 s1 h1 => ?_
  obtain rfl := h1
  have hx := Li.mono _ _ _ s1 hx
  refine q_forM (ei_range (n := xs.length) (ev_lenL (ev_v 0 Li.mono rfl hx)) (by omega)) [] (fun _ h => (by cases h)) (fun _ h => (by cases h)) (fun i σ' H' => ∃ (m : Nat) (c : Option V), σ' = [some x1, some (.int m), c] ∧ Same H1 H' ∧ m ≤ xs.length ∧ cut (xs.take m) = cut xs ∧ (m + i = xs.length ∨ (0 < m ∧ xs.getD (m - 1) 0 ≠ 0)))
    (fun B e => ⟨_, _, rfl, e, Nat.le_refl _, by rw [List.take_length], .inl rfl⟩) ?_ ?_
  · rintro T kp i σ' H' hi hT ⟨m, c, rfl, sm, hm, eq, hc⟩ x H'' s2 rfl hT2
    have hx' := Li.mono _ _ _ (sm.trans s2) hx
    refine s_when (b := decide (0 < (m : Int)) && decide (xs.getD (m - 1) 0 = 0)) (et_and (et_test (ev_I0 (ev_i 1 rfl) ev_c)) (fun h => ?_)) (fun hb H3 s3 => ?_) (fun hb H3 s3 => ?_)
    · have hm0 : 0 < m := by simpa using h
      refine et_test (Ev.is (ev_eq (x := .int (xs.getD (m - 1) 0)) (y := .int 0) rfl (ev_ixLI (n := m - 1) (ev_v 0 Li.mono rfl hx') ((ev_I0 (ev_i 1 rfl) ev_c).is (by show V.int _ = V.int _; congr 1; omega)) (get_of (by omega))) ev_c) (by simp))
    · simp only [Bool.and_eq_true, decide_eq_true_eq] at hb
      obtain ⟨h0, h1⟩ := hb
      obtain ⟨k, rfl⟩ : ∃ k, m = k + 1 := ⟨m - 1, by omega⟩
      rw [Nat.add_sub_cancel] at h1
      have hcc : k + 1 + i = xs.length := by
        rcases hc with z | ⟨_, z⟩
        · exact z
        · rw [Nat.add_sub_cancel] at z; exact (z h1).elim
      refine s_set (P := isV (.int (k : Nat))) (Ev.is (ev_I0 (ev_i 1 rfl) ev_c) (by congr 1; omega)) fun v H4 s4 h4 => ?_
      obtain rfl := h4
      refine ⟨kp.same _ _ (s3.trans s4) hT2, k, _, rfl, ((sm.trans s2).trans s3).trans s4, by omega, ?_, .inl (by omega)⟩
      rw [← eq, take_snoc (get_of (show k < xs.length by omega)), h1, cut_snoc0]
    · simp only [Bool.and_eq_false_iff, decide_eq_false_iff_not] at hb
      refine ⟨kp.same _ _ s3 hT2, m, _, rfl, (sm.trans s2).trans s3, hm, eq, ?_⟩
      rcases hc with z | z
      · rcases hb with y | y
        · omega
        · exact .inr ⟨by omega, y⟩
      · exact .inr z
  · rintro σ' H' fr ⟨m, c, rfl, sm, hm, eq, hc⟩
    refine s_ret (ev_tupleS (el_to (n := m) (ev_v 0 Li.mono rfl (Li.mono _ _ _ sm hx)) (ev_i 1 rfl)).li) fun v H4 s4 h4 => q v H4 ((s1.trans sm).trans s4) ?_
    rw [← eq]
    rcases hc with z | ⟨z1, z2⟩
    · obtain rfl : m = 0 := by omega
      rw [List.take_zero] at h4 ⊢; exact h4
    · obtain ⟨k, rfl⟩ : ∃ k, m = k + 1 := ⟨m - 1, by omega⟩
      rw [Nat.add_sub_cancel] at z2
      have e2 := take_snoc (get_of (show k < xs.length by omega))
      rw [e2] at h4 ⊢
      rw [cut_snoc z2]; exact h4
section
variable {σ : L2.St} {H : Hp} {ta tb tc td : TE} {E : XK}
theorem ev_trim {xs : List Int} (ha : Ev ta σ H (Li K xs)) (hl : xs.length ≤ 1000) : Ev (tCall (p__law_trim K) [] E (tCons ta tNil)) σ H (Ts (cut xs)) := ev_call xs (ea_cons ha ea_nil) hl Ts.mk.md
end
abbrev s__law_blend : Stmt := topS 70
abbrev N__law_blend : List Str := ["_law_one", "_law_other", "_law_weight", "_law_p", "_law_many", "_law_wide", "_law_row", "_law_a", "_law_b"]
theorem sc__law_blend : FnScope N__law_blend ["_law_one", "_law_other", "_law_weight", "_law_p"] (defScope s__law_blend) := ⟨rfl, rfl, rfl, by decide +kernel, rfl, by decide +kernel, by decide +kernel⟩

def p__law_blend (K : PySem.W.Frag) : Sp := Pf (fun a : List Int × List Int × Int × Int => [Ti K a.1, Ti K a.2.1, isV (.int a.2.2.1), isV (.int a.2.2.2)]) (fun a => 0 < a.2.2.2 ∧ a.1.length ≤ 500 ∧ a.2.1.length ≤ 500 ∧ -1000000 < a.2.2.1 ∧ a.2.2.1 < 1000000) (fun a => Ts (lBlend a.1 a.2.1 a.2.2.1 a.2.2.2))
theorem ok__law_blend (D : Df K mg "_law_blend" s__law_blend ["_law_one", "_law_other", "_law_weight", "_law_p"]) (Bt : Bts mg) (Gb : Gbs K mg) (c__law_trim : Cal P w K mg base 1 "_law_trim" (p__law_trim K)) : Cal P w K mg base 2 "_law_blend" (p__law_blend K) := by
  refine cal_of D sc__law_blend (fun vs H Q E ⟨a, _, h, _⟩ => h.len) fun f cdv A outer s H vs Q E hr ⟨⟨xs, ys, wt, p⟩, ⟨hp, hx1, hy1, w0, w1⟩, hds, q⟩ => ?_
  dsimp only at *
  obtain ⟨x1, x2, x3, x4, rfl, hx, hy, rfl, rfl⟩ := all2_4 hds
  refine ⟨_, (pss_cons (ps_set (i := 4) sc__law_blend.nd rfl (by first | exact .inl rfl | exact .inr rfl) (pe_callB (call_maxS rfl) (by rfl) Bt.max (by decide +kernel) (pa_cons (pe_callB (call_lenK (K := K)) (by rfl) Bt.len PySem.boot_len (pa_cons (pv 0) pa_nil)) (pa_cons (pe_callB (call_lenK (K := K)) (by rfl) Bt.len PySem.boot_len (pa_cons (pv 1) pa_nil)) pa_nil))))
      (pss_cons (ps_setLc (i := 5) (own := [("_law_row", 6)]) rfl sc__law_blend.nd rfl rfl (sw_true rfl rfl rfl (by decide +kernel)) (pi_tup (pe_tup (pa_cons (pv 0) (pa_cons (pv 1) pa_nil)))) (blkOk_by (N := N__law_blend) (sc := defScope s__law_blend) (by decide +kernel)) (fun _ _ _ _ _ => (pg_name (i := 6) sc__law_blend.nd rfl (by first | exact .inl rfl | exact .inr rfl))) (fun _ _ _ _ _ => pts_nil) (fun _ _ _ _ _ => (pe_op op_cat (pe_callTy (call_listK (K := K)) (by rfl) Bt.list (by decide +kernel) (pa_cons (pv 6) pa_nil)) (pe_op op_rep (pe_lst (pa_cons pe_int pa_nil)) (pe_op op_sub (pv 4) (pe_callB (call_lenK (K := K)) (by rfl) Bt.len PySem.boot_len (pa_cons (pv 6) pa_nil)))))))
      (pss_one (ps_ret (pe_d c__law_trim hr (by decide) (by rfl) (pa_cons (pe_lc (own := [("_law_a", 7), ("_law_b", 8)]) rfl sc__law_blend.nd (RZ.pi_zipA (by rfl) Bt.zip (pa_cons (pe_ix (ix_listK (K := K)) (pv 5) pe_int (fun _ _ => rfl)) (pa_cons (pe_ix (ix_listK (K := K)) (pv 5) pe_int (fun _ _ => rfl)) pa_nil))) (blkOk_by (N := N__law_blend) (sc := defScope s__law_blend) (by decide +kernel)) (fun _ _ _ _ _ => (pg_tupK (K := K) (n := 2) rfl (pgs_cons (pg_name (i := 7) sc__law_blend.nd rfl (by first | exact .inl rfl | exact .inr rfl)) (pgs_cons (pg_name (i := 8) sc__law_blend.nd rfl (by first | exact .inl rfl | exact .inr rfl)) pgs_nil)))) (fun _ _ _ _ _ => pts_nil) (fun _ _ _ _ _ => (pe_op op_mod (pe_op op_add (pv 7) (pe_op op_mul (pv 2) (pv 8))) (pv 3)))) pa_nil)))))), ?_⟩
  refine q_set (ev_max (ev_lenT (ev_v 0 Ti.mono rfl hx)) (ev_lenT (ev_v 1 Ti.mono rfl hy))) fun v H1 s1 h1 => ?_
  obtain rfl := h1
  have hx := Ti.mono _ _ _ s1 hx
  have hy := Ti.mono _ _ _ s1 hy
  have hl1 := wid_len xs (m := max xs.length ys.length) (Nat.le_max_left _ _)
  have hl2 := wid_len ys (m := max xs.length ys.length) (Nat.le_max_right _ _)
  have tim : ∀ d ∈ [Ti K xs, Ti K ys], Mk d := fun d hd => by
    rcases List.mem_cons.mp hd with z | z
    · rw [z]; exact Ti.mk
    · rw [List.mem_singleton.mp z]; exact Ti.mk
  have wide : ∀ (zs : List Int) (τ : L2.St) (x : V) (H2 : Hp), Ti K zs x H2 → τ[6]? = some (some x) → τ[4]? = some (some (.int (max xs.length ys.length : Nat))) → zs.length ≤ max xs.length ys.length → EvL (tOp rCat (tCB (Evl.rListS K) (tCons (tVar 6) tNil)) (tOp rRep (tLst (tCons (tC (.int 0)) tNil)) (tOp (rI0 fun i j => .int (i - j)) (tVar 4) (tCB (Evl.rLenS K) (tCons (tVar 6) tNil))))) τ H2 ((wid zs (max xs.length ys.length)).map V.int) := fun zs τ x H2 hz h6 h4 hle => by
    rw [wid, List.map_append]
    exact el_cat (el_listT (ev_v 6 Ti.mono h6 hz)) (el_zeros (n := max xs.length ys.length - zs.length) (fun H3 s3 => Ev.is (ev_I0 (ev_i 4 h4) (ev_lenT (ev_v 6 Ti.mono h6 (Ti.mono _ _ _ s3 hz)))) (by congr 1; omega)) (by omega)) (by rw [List.length_map, List.length_map, List.length_replicate]; omega)
  have ell : ElLL (tLc (iTup K (tTup (tCons (tVar 0) (tCons (tVar 1) tNil)))) (gName 6) tYes (tOp rCat (tCB (Evl.rListS K) (tCons (tVar 6) tNil)) (tOp rRep (tLst (tCons (tC (.int 0)) tNil)) (tOp (rI0 fun i j => .int (i - j)) (tVar 4) (tCB (Evl.rLenS K) (tCons (tVar 6) tNil))))) [6]) [some x1, some x2, some (.int wt), some (.int p), some (.int (max xs.length ys.length : Nat)), none, none, none, none] H1 [wid xs (max xs.length ys.length), wid ys (max xs.length ys.length)] := by
    refine ell_lc _ (ei_tup (ev_tup (K := K) (ea_cons (ev_v 0 Ti.mono rfl hx) (ea_cons (ev_v 1 Ti.mono rfl hy) ea_nil))) tim) (by show 2 ≤ 50000; decide) rfl ?_
    rintro i x H2 l hli s2 ⟨d, hd, hdx⟩
    refine ⟨_, fun k hk => hk, rfl, et_yes, ?_⟩
    match i, hli, hd with
    | 0, hli, hd =>
      obtain rfl : wid xs (max xs.length ys.length) = l := Option.some.inj hli
      obtain rfl : Ti K xs = d := Option.some.inj hd
      exact wide xs _ x H2 hdx rfl rfl (Nat.le_max_left _ _)
    | 1, hli, hd =>
      obtain rfl : wid ys (max xs.length ys.length) = l := Option.some.inj hli
      obtain rfl : Ti K ys = d := Option.some.inj hd
      exact wide ys _ x H2 hdx rfl rfl (Nat.le_max_right _ _)
  refine q_setLL ell fun l us H2 n2 s2 e2 a2 => ?_
  obtain ⟨u1, u2, rfl, ⟨b1, rfl, _, hb1⟩, ⟨b2, rfl, _, hb2⟩⟩ := all2_2 a2
  have it : ∀ (i : Nat) (b : Addr) (H3 : Hp) (ti : TE), Same H2 H3 → [V.ref b1, V.ref b2][i]? = some (.ref b) → Ev ti [some x1, some x2, some (.int wt), some (.int p), some (.int (max xs.length ys.length : Nat)), some (.ref l), none, none, none] H3 (isV (.int i)) → Ev (tOp (rIxL K) (tVar 5) ti) [some x1, some x2, some (.int wt), some (.int p), some (.int (max xs.length ys.length : Nat)), some (.ref l), none, none, none] H3 (isV (.ref b)) := fun i b H3 ti s3 hi h =>
    ev_op md_isV (ev_i 5 rfl) h fun x y H4 e4 p1 p2 Q q => ⟨l, _, i, .ref b, p1, p2, SqL.of (e4 _ _ (s3 _ _ e2)), atI_nat hi, q _ H4 (Same.refl _) rfl⟩
  refine s_ret (ev_trim (xs := List.zipWith (fun x y => (x + wt * y) % p) (wid xs (max xs.length ys.length)) (wid ys (max xs.length ys.length))) (EvL.li ?_) ?_) fun v H3 s3 h3 => q v H3 ((s1.trans s2).trans s3) h3
  · have z := ei_zipL (K := K) (ds := (wid xs (max xs.length ys.length)).map fun x => isV (.int x)) (es := (wid ys (max xs.length ys.length)).map fun x => isV (.int x)) (it 0 b1 H2 (tC (.int 0)) (Same.refl _) rfl ev_c) (it 1 b2 H2 (tC (.int 1)) (Same.refl _) rfl ev_c) (SqL.of hb1) (SqL.of hb2) (all2_ints.mpr rfl) (all2_ints.mpr rfl) ints_mk ints_mk (by rw [List.length_map, List.length_map]; exact hl1.trans hl2.symm)
    rw [List.length_map] at z
    refine el_lcI _ z (by omega) (by rw [List.length_zipWith, hl1, hl2]; omega) ?_
    rintro i x H3 hi s3 ⟨T, y1, y2, ex, hT, h3, h4⟩
    obtain ⟨a, ea, rfl⟩ := nth_int h3
    obtain ⟨b, eb, rfl⟩ := nth_int h4
    subst ex
    refine ⟨_, fun k hk => g_pair hT hk, rfl, et_yes, ?_⟩
    rw [getD_zip ea eb]
    exact ev_I hp (ev_I0 (ev_i 7 rfl) (ev_I (.inl ⟨by omega, by omega⟩) (ev_i 2 rfl) (ev_i 8 rfl))) (ev_i 3 rfl)
  · show _ ≤ 1000; rw [List.length_zipWith, hl1, hl2]; omega
section
variable {σ : L2.St} {H : Hp} {ta tb tc td : TE} {E : XK}
theorem ev_lblend {xs ys : List Int} {wt p : Int} (ha : Ev ta σ H (Ti K xs)) (hb : Ev tb σ H (Ti K ys)) (hc : Ev tc σ H (isV (.int wt))) (hd : Ev td σ H (isV (.int p))) (hp : 0 < p) (h1 : xs.length ≤ 500) (h2 : ys.length ≤ 500) (w0 : -1000000 < wt) (w1 : wt < 1000000) :
    Ev (tCall (p__law_blend K) [] E (tCons ta (tCons tb (tCons tc (tCons td tNil))))) σ H (Ts (lBlend xs ys wt p)) :=
  ev_call (xs, ys, wt, p) (ea_cons ha (ea_cons hb (ea_cons hc (ea_cons hd ea_nil)))) ⟨hp, h1, h2, w0, w1⟩ Ts.mk.md
end
end
end Rw
end
section
set_option maxRecDepth 100000
set_option maxHeartbeats 4000000
namespace Rw
open PySem PySem.Spec PyProof.Rows L2 Rf
variable {K : PySem.W.Frag}
section
variable {P : Program} {w : World} {mg : Str → Option Value} {base : Heap}
abbrev s__law_conv : Stmt := topS 71
abbrev N__law_conv : List Str := ["_law_one", "_law_other", "_law_p", "_law_found", "_law_at", "_law_a", "_law_place", "_law_b"]
theorem sc__law_conv : FnScope N__law_conv ["_law_one", "_law_other", "_law_p"] (defScope s__law_conv) := ⟨rfl, rfl, rfl, by decide +kernel, rfl, by decide +kernel, by decide +kernel⟩

def p__law_conv (K : PySem.W.Frag) : Sp := PfL (fun a : List Int × List Int × Int => [Ti K a.1, Ti K a.2.1, isV (.int a.2.2)]) (fun a => PR a.2.2 ∧ Rg a.2.2 a.1 ∧ a.1.length ≤ 400 ∧ a.2.1.length ≤ 400) (fun a => (lConv a.1 a.2.1 a.2.2).map fun x => isV (.int x))
theorem ok__law_conv (D : Df K mg "_law_conv" s__law_conv ["_law_one", "_law_other", "_law_p"]) (Bt : Bts mg) (Gb : Gbs K mg)  : Cal P w K mg base 1 "_law_conv" (p__law_conv K) := by
  refine cal_of D sc__law_conv (fun vs H Q E ⟨a, _, h, _⟩ => h.len) fun f cdv A outer s H vs Q E hr ⟨⟨xs, ys, p⟩, ⟨hp, rg, hx1, hy1⟩, hds, q⟩ => ?_
  dsimp only at *
  obtain ⟨x1, x2, x3, rfl, hx, hy, rfl⟩ := all2_3 hds
  have bd := hp.bd
  refine ⟨_, (pss_cons (ps_set (i := 3) sc__law_conv.nd rfl (by first | exact .inl rfl | exact .inr rfl) (pe_op op_rep (pe_lst (pa_cons pe_int pa_nil)) (pe_op op_add (pe_callB (call_lenK (K := K)) (by rfl) Bt.len PySem.boot_len (pa_cons (pv 0) pa_nil)) (pe_callB (call_lenK (K := K)) (by rfl) Bt.len PySem.boot_len (pa_cons (pv 1) pa_nil)))))
      (pss_cons (ps_for PassesOwn.never rfl (pi_enumT (by rfl) Bt.enumerate (pa_cons (pv 0) pa_nil)) (pg_tupK (K := K) (n := 2) rfl (pgs_cons (pg_name (i := 4) sc__law_conv.nd rfl (by first | exact .inl rfl | exact .inr rfl)) (pgs_cons (pg_name (i := 5) sc__law_conv.nd rfl (by first | exact .inl rfl | exact .inr rfl)) pgs_nil))) (pss_one (ps_for PassesOwn.never rfl (pi_enumT (by rfl) Bt.enumerate (pa_cons (pv 1) pa_nil)) (pg_tupK (K := K) (n := 2) rfl (pgs_cons (pg_name (i := 6) sc__law_conv.nd rfl (by first | exact .inl rfl | exact .inr rfl)) (pgs_cons (pg_name (i := 7) sc__law_conv.nd rfl (by first | exact .inl rfl | exact .inr rfl)) pgs_nil))) (pss_one (ps_asg (pe_op op_mod (pe_op op_add (pe_ix (ix_listK (K := K)) (pv 3) (pe_op op_add (pv 4) (pv 6)) (fun _ _ => rfl)) (pe_op op_mul (pv 5) (pv 7))) (pv 2)) (pg_sub (pv 3) (pe_op op_add (pv 4) (pv 6)) set_list))))))
      (pss_one (ps_ret (pv 3))))), ?_⟩
  refine q_setL (el_zeros (n := xs.length + ys.length) (fun H2 s2 => Ev.is (ev_I0 (ev_lenT (ev_v 0 Ti.mono rfl (Ti.mono _ _ _ s2 hx))) (ev_lenT (ev_v 1 Ti.mono rfl (Ti.mono _ _ _ s2 hy)))) (by congr 1)) (by omega)) fun l H2 hl s2 e2 => ?_
  have hx := Ti.mono _ _ _ s2 hx
  have hy := Ti.mono _ _ _ s2 hy
  have mu := muts1 e2
  refine q_forM (ei_enumTI (ev_v 0 Ti.mono rfl hx)) [l] mu (fun p hp => by simp) (fun i σ' H' => ∃ (F : List Int) (c4 c5 c6 c7 : Option V), σ' = [some x1, some x2, some (.int p), some (.ref l), c4, c5, c6, c7] ∧ H' l = some (.lst (F.map V.int)) ∧ F.length = xs.length + ys.length ∧ outC ys p i F (xs.drop i) = lConv xs ys p)
    (fun B e => ⟨_, _, _, _, _, rfl, e _ _ e2, by rw [List.length_replicate], rfl⟩) ?_ ?_
  · rintro T kp i σ' H' hi hT ⟨F, c4, c5, c6, c7, rfl, eF, lF, eq⟩ x H'' s3 ⟨T0, y1, y2, ex, hT0, h3, h4⟩ hT2
    obtain ⟨a, ea, rfl⟩ := nth_int h4
    obtain rfl := h3
    subst ex
    refine g_pair hT0 ?_
    have hlt := (List.getElem?_eq_some_iff.mp ea).1
    have ga := (List.getElem?_eq_some_iff.mp ea).2
    rw [List.drop_eq_getElem_cons hlt, ga, outC] at eq
    have ra := rg a (List.mem_of_getElem? ea)
    have tk := (kp.fr _ hT2).tk mu
    have e3 := s3 _ _ eF
    refine s_forM (ei_enumTI (ev_v 1 Ti.mono rfl (Ti.mk _ _ _ tk hy))) [l] (muts1 e3) (fun p hp => by simp) (fun j σ' H' => T H' ∧ ∃ (G : List Int) (c6 c7 : Option V), σ' = [some x1, some x2, some (.int p), some (.ref l), some (.int i), some (.int a), c6, c7] ∧ H' l = some (.lst (G.map V.int)) ∧ G.length = xs.length + ys.length ∧ inC a p (i + j) G (ys.drop j) = inC a p i F ys)
      (fun B e => ⟨kp.same _ _ e hT2, F, _, _, rfl, e _ _ e3, lF, rfl⟩) ?_ ?_
    · rintro T' kp' j σ' H4 hj hT' ⟨hT4, G, d6, d7, rfl, eG, lG, eq2⟩ x H5 s5 ⟨T1, y1, y2, ex, hT1, h3, h4⟩ hT5
      obtain ⟨b, eb, rfl⟩ := nth_int h4
      obtain rfl := h3
      subst ex
      refine g_pair hT1 ?_
      have hlb := (List.getElem?_eq_some_iff.mp eb).1
      rw [List.drop_eq_getElem_cons hlb, (List.getElem?_eq_some_iff.mp eb).2, inC] at eq2
      have hij : i + j < G.length := by omega
      refine s_setIx (n := i + j) (s5 _ _ eG) (ev_I (show 0 < p by omega) (ev_I0 (ev_ixLI (n := i + j) (ev_v 3 Li.mono rfl (li_of (s5 _ _ eG))) (Ev.is (ev_I0 (ev_i 4 rfl) (ev_i 6 rfl)) (by simp)) (get_of hij)) (ev_I (.inl ⟨by omega, by omega⟩) (ev_i 5 rfl) (ev_i 7 rfl))) (ev_i 2 rfl)) (ev_i 3 rfl) (Ev.is (ev_I0 (ev_i 4 rfl) (ev_i 6 rfl)) (by simp)) (by rw [List.length_map]; exact hij) fun v H6 s6 h6 => ?_
      obtain rfl := h6
      have hT6 := kp.same _ _ (s5.trans s6) hT4
      have e6 := s6 _ _ (s5 _ _ eG)
      refine ⟨kp'.upd _ _ _ _ (kp'.same _ _ s6 hT5) e6 trivial (by simp), kp.upd _ _ _ _ hT6 e6 trivial (by simp), G.set (i + j) ((G.getD (i + j) 0 + a * b) % p), _, _, rfl, ?_, ?_, ?_⟩
      · rw [List.map_set]; exact upd_same
      · rw [List.length_set]; exact lG
      · rw [← eq2]; rfl
    · rintro σ' H4 fr ⟨hT4, G, d6, d7, rfl, eG, lG, eq2⟩
      rw [List.drop_eq_nil_of_le (Nat.le_refl _), inC] at eq2
      exact ⟨hT4, G, _, _, _, _, rfl, eG, lG, by rw [eq2]; exact eq⟩
  · rintro σ' H' fr ⟨F, c4, c5, c6, c7, rfl, eF, lF, eq⟩
    rw [List.drop_eq_nil_of_le (Nat.le_refl _), outC] at eq
    have sm : Same H H' := fun a o h => fr a o (fun z => by
      rw [List.mem_singleton.mp z, hl] at h; cases h) (s2 _ _ h)
    refine s_ret (P := isV (.ref l)) (ev_i 3 rfl) fun v H3 s3 h3 => ?_
    obtain rfl := h3
    exact q l _ H3 hl (sm.trans s3) (s3 _ _ eF) (all2_ints.mpr (by rw [eq]))
abbrev s__law_mul : Stmt := topS 72
abbrev N__law_mul : List Str := ["_law_one", "_law_other", "_law_p"]
theorem sc__law_mul : FnScope N__law_mul ["_law_one", "_law_other", "_law_p"] (defScope s__law_mul) := ⟨rfl, rfl, rfl, by decide +kernel, rfl, by decide +kernel, by decide +kernel⟩

def p__law_mul (K : PySem.W.Frag) : Sp := Pf (fun a : List Int × List Int × Int => [Ti K a.1, Ti K a.2.1, isV (.int a.2.2)]) (fun a => PR a.2.2 ∧ Rg a.2.2 a.1 ∧ a.1.length ≤ 400 ∧ a.2.1.length ≤ 400) (fun a => Ts (lMul a.1 a.2.1 a.2.2))
theorem ok__law_mul (D : Df K mg "_law_mul" s__law_mul ["_law_one", "_law_other", "_law_p"]) (Bt : Bts mg) (Gb : Gbs K mg) (c__law_trim : Cal P w K mg base 1 "_law_trim" (p__law_trim K)) (c__law_conv : Cal P w K mg base 1 "_law_conv" (p__law_conv K)) : Cal P w K mg base 2 "_law_mul" (p__law_mul K) := by
  refine cal_of D sc__law_mul (fun vs H Q E ⟨a, _, h, _⟩ => h.len) fun f cdv A outer s H vs Q E hr ⟨⟨xs, ys, p⟩, ⟨hp, rg, hx1, hy1⟩, hds, q⟩ => ?_
  dsimp only at *
  obtain ⟨x1, x2, x3, rfl, hx, hy, rfl⟩ := all2_3 hds
  refine ⟨_, (pss_one (ps_ret (pe_d c__law_trim hr (by decide) (by rfl) (pa_cons (pe_d c__law_conv hr (by decide) (by rfl) (pa_cons (pv 0) (pa_cons (pv 1) (pa_cons (pv 2) pa_nil)))) pa_nil)))), ?_⟩
  refine s_ret (ev_trim (xs := lConv xs ys p) (ev_callL (xs, ys, p) (ea_cons (ev_v 0 Ti.mono rfl hx) (ea_cons (ev_v 1 Ti.mono rfl hy) (ea_cons (ev_i 2 rfl) ea_nil))) ⟨hp, rg, hx1, hy1⟩).li ?_) fun v H1 e r => q v H1 e r
  rw [lConv, outC_len, List.length_replicate]; omega
section
variable {σ : L2.St} {H : Hp} {ta tb tc td : TE} {E : XK}
theorem ev_lmul {xs ys : List Int} {p : Int} (ha : Ev ta σ H (Ti K xs)) (hb : Ev tb σ H (Ti K ys)) (hd : Ev td σ H (isV (.int p))) (hp : PR p) (rg : Rg p xs) (h1 : xs.length ≤ 400) (h2 : ys.length ≤ 400) :
    Ev (tCall (p__law_mul K) [] E (tCons ta (tCons tb (tCons td tNil)))) σ H (Ts (lMul xs ys p)) :=
  ev_call (xs, ys, p) (ea_cons ha (ea_cons hb (ea_cons hd ea_nil))) ⟨hp, rg, h1, h2⟩ Ts.mk.md
end
abbrev s__law_back : Stmt := topS 73
abbrev N__law_back : List Str := ["_law_number", "_law_p", "_law_k"]
theorem sc__law_back : FnScope N__law_back ["_law_number", "_law_p"] (defScope s__law_back) := ⟨rfl, rfl, rfl, by decide +kernel, rfl, by decide +kernel, by decide +kernel⟩

def p__law_back : Sp := Pf (fun a : Int × Int => [isV (.int a.1), isV (.int a.2)]) (fun a => PR a.2 ∧ 0 < a.1 ∧ a.1 < a.2) (fun a => isV (.int (lBack a.1 a.2)))
def bkL (n p : Int) : List Int := ((List.range (p.toNat - 1)).map (fun k : Nat => (k : Int) + 1)).filter fun k => decide (k * n % p = 1)
theorem given_back (n p : Int) : given (p.toNat - 1) (fun i => decide (((i : Int) + 1) * n % p = 1)) (fun i => isV (.int ((i : Int) + 1))) = (bkL n p).map fun x => isV (.int x) := by
  rw [given, bkL, List.filter_map, List.map_map]; rfl
theorem bkL_ne {n p : Int} (hp : PR p) (h0 : 0 < n) (h1 : n < p) : bkL n p ≠ [] := fun e => by
  have iv := hp.inv h0 h1
  have tb := turned_bd (n := n) hp
  have : turnedOver n p ∈ bkL n p := by
    rw [bkL, List.mem_filter]
    refine ⟨List.mem_map.mpr ⟨(turnedOver n p - 1).toNat, List.mem_range.mpr ?_, ?_⟩, decide_eq_true iv⟩
    · have : turnedOver n p ≠ 0 := fun z => by rw [z] at iv; simp at iv
      omega
    · have : turnedOver n p ≠ 0 := fun z => by rw [z] at iv; simp at iv
      omega
  rw [e] at this; cases this
theorem ok__law_back (D : Df K mg "_law_back" s__law_back ["_law_number", "_law_p"]) (Bt : Bts mg) (Gb : Gbs K mg)  : Cal P w K mg base 1 "_law_back" p__law_back := by
  refine cal_of D sc__law_back (fun vs H Q E ⟨a, _, h, _⟩ => h.len) fun f cdv A outer s H vs Q E hr ⟨⟨n, p⟩, ⟨hp, h0, h1⟩, hds, q⟩ => ?_
  dsimp only at *
  obtain ⟨x1, x2, rfl, rfl, rfl⟩ := all2_2 hds
  have bd := hp.bd
  refine ⟨_, (pss_one (ps_ret (pe_ix (ix_listK (K := K)) (pe_lc (own := [("_law_k", 2)]) rfl sc__law_back.nd (pi_range2 (by rfl) Bt.range (pa_cons pe_int (pa_cons (pv 1) pa_nil))) (blkOk_by (N := N__law_back) (sc := defScope s__law_back) (by decide +kernel)) (fun _ _ _ _ _ => (pg_name (i := 2) sc__law_back.nd rfl (by first | exact .inl rfl | exact .inr rfl))) (fun _ _ _ _ _ => (pts_one (pt_cmpR op_eq (pe_op op_mod (pe_op op_mul (pv 2) (pv 0)) (pv 1)) pe_int (nomark _)))) (fun _ _ _ _ _ => (pv 2))) pe_int (fun _ _ => rfl)))), ?_⟩
  have ne := bkL_ne hp h0 h1
  have h0' : (bkL n p)[0]? = some (lBack n p) := by
    show _ = some ((bkL n p).headD 0)
    cases e : bkL n p with
    | nil => exact (ne e).elim
    | cons a r => rfl
  refine s_ret (ev_ixLI (n := 0) (EvL.li (xs := bkL n p) (ElD.ints ?_)) ev_c h0') fun v H1 e r => q v H1 e r
  rw [← given_back]
  refine eld_lc (ei_range2 (a := 1) (b := p) ev_c (ev_i 1 rfl) (by omega) (by omega) (by omega)) (by omega) _ _ (fun _ _ => mk_isV) ?_
  rintro i x H2 hi s2 rfl
  rw [show (1 : Int) + (i : Int) = (i : Int) + 1 by omega]
  refine ⟨_, fun k hk => hk, rfl, EvT.is (et_test (ev_eq rfl (ev_I (show 0 < p by omega) (ev_I (.inl ⟨by omega, by omega⟩) (ev_i 2 rfl) (ev_i 0 rfl)) (ev_i 1 rfl)) ev_c)) (by simp), fun _ => ev_i 2 rfl⟩
section
variable {σ : L2.St} {H : Hp} {ta tb tc td : TE} {E : XK}
theorem ev_lback {n p : Int} (ha : Ev ta σ H (isV (.int n))) (hb : Ev tb σ H (isV (.int p))) (hp : PR p) (h0 : 0 < n) (h1 : n < p) : Ev (tCall p__law_back [] E (tCons ta (tCons tb tNil))) σ H (isV (.int (lBack n p))) :=
  ev_call (n, p) (ea_cons ha (ea_cons hb ea_nil)) ⟨hp, h0, h1⟩ md_isV
end
abbrev s__law_cut_by : Stmt := topS 74
abbrev N__law_cut_by : List Str := ["_law_one", "_law_other", "_law_p", "_law_left", "_law_many", "_law_back_here", "_law_found", "_law_at", "_law_weight", "_law_place", "_law_rest", "_law_spot"]
theorem sc__law_cut_by : FnScope N__law_cut_by ["_law_one", "_law_other", "_law_p"] (defScope s__law_cut_by) := ⟨rfl, rfl, rfl, by decide +kernel, rfl, by decide +kernel, by decide +kernel⟩

def p__law_cut_by (K : PySem.W.Frag) : Sp := Pf (fun a : List Int × List Int × Int => [Ti K a.1, Ti K a.2.1, isV (.int a.2.2)]) (fun a => PR a.2.2 ∧ Cn a.2.2 a.2.1 ∧ a.2.1 ≠ [] ∧ a.1.length ≤ 900 ∧ a.2.1.length ≤ 900) (fun a => Tds [Ts (lCutBy a.1 a.2.1 a.2.2).1, Ts (lCutBy a.1 a.2.1 a.2.2).2])
theorem ok__law_cut_by (D : Df K mg "_law_cut_by" s__law_cut_by ["_law_one", "_law_other", "_law_p"]) (Bt : Bts mg) (Gb : Gbs K mg) (c__law_trim : Cal P w K mg base 1 "_law_trim" (p__law_trim K)) (c__law_back : Cal P w K mg base 1 "_law_back" p__law_back) : Cal P w K mg base 2 "_law_cut_by" (p__law_cut_by K) := by
  refine cal_of D sc__law_cut_by (fun vs H Q E ⟨a, _, h, _⟩ => h.len) fun f cdv A outer s H vs Q E hr ⟨⟨xs, ys, p⟩, ⟨hp, cy, hne, hx1, hy1⟩, hds, q⟩ => ?_
  dsimp only at *
  obtain ⟨x1, x2, x3, rfl, hx, hy, rfl⟩ := all2_3 hds
  have bd := hp.bd
  have ly : 0 < ys.length := List.length_pos_iff.mpr hne
  have li := last_inv hp cy hne
  have tb : 0 ≤ lBack (ys.getLastD 0) p ∧ lBack (ys.getLastD 0) p < p := by
    rw [hp.back li.2.2.1 li.2.2.2]; exact turned_bd hp
  refine ⟨_, (pss_cons (ps_set (i := 3) sc__law_cut_by.nd rfl (by first | exact .inl rfl | exact .inr rfl) (pe_callTy (call_listK (K := K)) (by rfl) Bt.list (by decide +kernel) (pa_cons (pv 0) pa_nil)))
      (pss_cons (ps_set (i := 4) sc__law_cut_by.nd rfl (by first | exact .inl rfl | exact .inr rfl) (pe_op op_sub (pe_callB (call_lenK (K := K)) (by rfl) Bt.len PySem.boot_len (pa_cons (pv 1) pa_nil)) pe_int))
      (pss_cons (ps_set (i := 5) sc__law_cut_by.nd rfl (by first | exact .inl rfl | exact .inr rfl) (pe_d c__law_back hr (by decide) (by rfl) (pa_cons (pe_ix (ix_tupK (K := K)) (pv 1) (pe_un un_neg pe_int) (fun _ _ => rfl)) (pa_cons (pv 2) pa_nil))))
      (pss_cons (ps_set (i := 6) sc__law_cut_by.nd rfl (by first | exact .inl rfl | exact .inr rfl) (pe_op op_rep (pe_lst (pa_cons pe_int pa_nil)) (pe_callB (call_maxS rfl) (by rfl) Bt.max (by decide +kernel) (pa_cons pe_int (pa_cons (pe_op op_sub (pe_callB (call_lenK (K := K)) (by rfl) Bt.len PySem.boot_len (pa_cons (pv 0) pa_nil)) (pv 4)) pa_nil)))))
      (pss_cons (ps_for PassesOwn.never rfl (pi_range3 (by rfl) Bt.range (pa_cons (pe_op op_sub (pe_callB (call_lenK (K := K)) (by rfl) Bt.len PySem.boot_len (pa_cons (pv 0) pa_nil)) pe_int) (pa_cons (pe_op op_sub (pv 4) pe_int) (pa_cons (pe_un un_neg pe_int) pa_nil)))) (pg_name (i := 7) sc__law_cut_by.nd rfl (by first | exact .inl rfl | exact .inr rfl)) (pss_cons (ps_set (i := 8) sc__law_cut_by.nd rfl (by first | exact .inl rfl | exact .inr rfl) (pe_op op_mod (pe_op op_mul (pe_ix (ix_listK (K := K)) (pv 3) (pv 7) (fun _ _ => rfl)) (pv 5)) (pv 2)))
      (pss_cons (ps_asg (pv 8) (pg_sub (pv 6) (pe_op op_sub (pv 7) (pv 4)) set_list))
      (pss_one (ps_for PassesOwn.never rfl (pi_enumT (by rfl) Bt.enumerate (pa_cons (pv 1) pa_nil)) (pg_tupK (K := K) (n := 2) rfl (pgs_cons (pg_name (i := 9) sc__law_cut_by.nd rfl (by first | exact .inl rfl | exact .inr rfl)) (pgs_cons (pg_name (i := 10) sc__law_cut_by.nd rfl (by first | exact .inl rfl | exact .inr rfl)) pgs_nil))) (pss_cons (ps_set (i := 11) sc__law_cut_by.nd rfl (by first | exact .inl rfl | exact .inr rfl) (pe_op op_add (pe_op op_sub (pv 7) (pv 4)) (pv 9)))
      (pss_one (ps_asg (pe_op op_mod (pe_op op_sub (pe_ix (ix_listK (K := K)) (pv 3) (pv 11) (fun _ _ => rfl)) (pe_op op_mul (pv 8) (pv 10))) (pv 2)) (pg_sub (pv 3) (pv 11) set_list)))))))))
      (pss_one (ps_ret (pe_tup (pa_cons (pe_d c__law_trim hr (by decide) (by rfl) (pa_cons (pv 6) pa_nil)) (pa_cons (pe_d c__law_trim hr (by decide) (by rfl) (pa_cons (pe_slice (sl_listK (K := K)) (pv 3) po_none (po_some (pv 4))) pa_nil)) pa_nil)))))))))), ?_⟩
  refine q_setL (el_listT (ev_v 0 Ti.mono rfl hx)) fun l1 H1 n1 s1 e1 => ?_
  have hx := Ti.mono _ _ _ s1 hx
  have hy := Ti.mono _ _ _ s1 hy
  obtain ⟨d, hd⟩ : ∃ d, ys.length - 1 = d := ⟨_, rfl⟩
  refine q_set (P := isV (.int d)) (Ev.is (ev_I0 (ev_lenT (ev_v 1 Ti.mono rfl hy)) ev_c) (by congr 1; omega)) fun v H2 s2 h2 => ?_
  obtain rfl := h2
  have hx := Ti.mono _ _ _ s2 hx
  have hy := Ti.mono _ _ _ s2 hy
  refine q_set (ev_lback (ev_lastTI (ev_v 1 Ti.mono rfl hy) (ev_neg ev_c) (last_of hne)) (ev_i 2 rfl) hp li.2.2.1 li.2.2.2) fun v H3 s3 h3 => ?_
  obtain rfl := h3
  have hx := Ti.mono _ _ _ s3 hx
  have hy := Ti.mono _ _ _ s3 hy
  generalize hbk : lBack (ys.getLastD 0) p = bk at tb ⊢
  refine q_setL (el_zerosI (fun H4 s4 => ev_maxI ev_c (ev_I0 (ev_lenT (ev_v 0 Ti.mono rfl (Ti.mono _ _ _ s4 hx))) (ev_i 4 rfl))) (by split <;> omega) (by split <;> omega)) fun l2 H4 n2 s4 e2 => ?_
  generalize hN : xs.length + 1 - ys.length = N
  have ek : (if (xs.length : Int) - (d : Int) > 0 then (xs.length : Int) - (d : Int) else 0).toNat = N := by split <;> omega
  rw [ek] at e2
  have hx := Ti.mono _ _ _ s4 hx
  have hy := Ti.mono _ _ _ s4 hy
  have e1 := s4 _ _ (s3 _ _ (s2 _ _ e1))
  have n12 : l1 ≠ l2 := fun z => by
    have := s3 _ _ (s2 _ _ (show H1 l1 = _ by assumption))
    rw [z, n2] at this; cases this
  have mu := muts2 e1 e2
  have hc : (((xs.length : Int) - 1) - ((d : Int) - 1)).toNat = N := by omega
  refine q_forM (ei_downN (N := N) (a := (xs.length : Int) - 1) (b := (d : Int) - 1) (ev_I0 (ev_lenT (ev_v 0 Ti.mono rfl hx)) ev_c) (ev_I0 (ev_i 4 rfl) ev_c) (ev_neg ev_c) (by omega) (by omega) hc) [l1, l2] mu (fun p hp => by simp) (fun i σ' H' => ∃ (L Q : List Int) (c7 c8 c9 c10 c11 : Option V), σ' = [some x1, some x2, some (.int p), some (.ref l1), some (.int d), some (.int bk), some (.ref l2), c7, c8, c9, c10, c11] ∧ H' l1 = some (.lst (L.map V.int)) ∧ H' l2 = some (.lst (Q.map V.int)) ∧ L.length = xs.length ∧ Q.length = N ∧ lcL ys bk p (N - i) L Q = lcL ys bk p N xs (List.replicate N 0))
    (fun B e => ⟨_, _, _, _, _, _, _, rfl, e _ _ e1, e _ _ e2, rfl, by rw [List.length_replicate], rfl⟩) ?_ ?_
  · rintro T kp i σ' H' hi hT ⟨L, Qo, c7, c8, c9, c10, c11, rfl, eL, eQ, lL, lQ, eq⟩ x H'' s5 rfl hT2
    obtain ⟨k, hk⟩ : ∃ k, N - i = k + 1 := ⟨N - i - 1, by omega⟩
    obtain ⟨at', hat⟩ : ∃ a, k + ys.length - 1 = a := ⟨_, rfl⟩
    have hat2 : (xs.length : Int) - 1 - (i : Int) = (at' : Int) := by omega
    rw [hk, lcL, hat] at eq
    show tSeq _ _ _ (List.set _ 7 (some (V.int ((xs.length : Int) - 1 - (i : Int))))) H''
    rw [hat2]
    have eL' := s5 _ _ eL
    refine q_set (ev_I (show 0 < p by omega) (ev_I (.inr ⟨by omega, by omega⟩) (ev_ixLI (n := at') (ev_v 3 Li.mono rfl (li_of eL')) (ev_i 7 rfl) (get_of (by omega))) (ev_i 5 rfl)) (ev_i 2 rfl)) fun v H5 s6 h5 => ?_
    obtain rfl := h5
    generalize hw : L.getD at' 0 * bk % p = wt at eq ⊢
    have w0 : 0 ≤ wt := hw ▸ Int.emod_nonneg _ (by omega)
    have w1 : wt < p := hw ▸ Int.emod_lt_of_pos _ (by omega)
    have eQ' := s6 _ _ (s5 _ _ eQ)
    have eL' := s6 _ _ eL'
    refine q_setIx (n := k) eQ' (ev_i 8 rfl) (ev_i 6 rfl) (Ev.is (ev_I0 (ev_i 7 rfl) (ev_i 4 rfl)) (by congr 1; omega)) (by rw [List.length_map]; omega) fun v H6 s7 h6 => ?_
    obtain rfl := h6
    have eL' := s7 _ _ eL'
    have hT7 : T (upd H6 l2 (.lst ((Qo.map V.int).set k (.int wt)))) := kp.upd _ _ _ _ (kp.same _ _ (s6.trans s7) hT2) (s7 _ _ eQ') trivial (by simp)
    have eL7 : (upd H6 l2 (.lst ((Qo.map V.int).set k (.int wt)))) l1 = some (.lst (L.map V.int)) := by rw [upd_ne n12]; exact eL'
    have eQ7 : (upd H6 l2 (.lst ((Qo.map V.int).set k (.int wt)))) l2 = some (.lst ((Qo.set k wt).map V.int)) := by rw [upd_same, List.map_set]
    generalize upd H6 l2 (.lst ((Qo.map V.int).set k (.int wt))) = H7 at hT7 eL7 eQ7 ⊢
    have hyT := Ti.mk _ _ _ ((kp.fr _ hT7).tk mu) hy
    refine s_forM (ei_enumTI (ev_v 1 Ti.mono rfl hyT)) [l1] (muts1 eL7) (fun p hp => by simp) (fun j σ' H' => T H' ∧ ∃ (G : List Int) (c9 c10 c11 : Option V), σ' = [some x1, some x2, some (.int p), some (.ref l1), some (.int d), some (.int bk), some (.ref l2), some (.int at'), some (.int wt), c9, c10, c11] ∧ H' l1 = some (.lst (G.map V.int)) ∧ H' l2 = some (.lst ((Qo.set k wt).map V.int)) ∧ G.length = xs.length ∧ innM wt p (k + j) G (ys.drop j) = innM wt p k L ys)
      (fun B e => ⟨kp.same _ _ e hT7, L, _, _, _, rfl, e _ _ eL7, e _ _ eQ7, lL, rfl⟩) ?_ ?_
    · rintro T' kp' j σ' H4 hj hT' ⟨hT4, G, d6, d7, d8, rfl, eG, eQ, lG, eq2⟩ x H5 s5 ⟨T1, y1, y2, ex, hT1, h3, h4⟩ hT5
      obtain ⟨b, eb, rfl⟩ := nth_int h4
      obtain rfl := h3
      subst ex
      refine g_pair hT1 ?_
      have hlb := (List.getElem?_eq_some_iff.mp eb).1
      rw [List.drop_eq_getElem_cons hlb, (List.getElem?_eq_some_iff.mp eb).2, innM] at eq2
      have hij : k + j < G.length := by omega
      refine q_set (P := isV (.int (k + j : Nat))) (Ev.is (ev_I0 (ev_I0 (ev_i 7 rfl) (ev_i 4 rfl)) (ev_i 9 rfl)) (by congr 1; omega)) fun v H5' s5' h5' => ?_
      obtain rfl := h5'
      have hT5 := kp'.same _ _ s5' hT5
      have s5 := s5.trans s5'
      refine s_setIx (n := k + j) (s5 _ _ eG) (ev_I (show 0 < p by omega) (ev_I0 (ev_ixLI (n := k + j) (ev_v 3 Li.mono rfl (li_of (s5 _ _ eG))) (ev_i 11 rfl) (get_of hij)) (ev_I (.inl ⟨by omega, by omega⟩) (ev_i 8 rfl) (ev_i 10 rfl))) (ev_i 2 rfl)) (ev_i 3 rfl) (ev_i 11 rfl) (by rw [List.length_map]; exact hij) fun v H6 s6 h6 => ?_
      obtain rfl := h6
      have hT6 := kp.same _ _ (s5.trans s6) hT4
      have e6 := s6 _ _ (s5 _ _ eG)
      refine ⟨kp'.upd _ _ _ _ (kp'.same _ _ s6 hT5) e6 trivial (by simp), kp.upd _ _ _ _ hT6 e6 trivial (by simp), G.set (k + j) ((G.getD (k + j) 0 - wt * b) % p), _, _, _, rfl, ?_, ?_, ?_, ?_⟩
      · rw [List.map_set]; exact upd_same
      · rw [upd_ne (Ne.symm n12)]; exact s6 _ _ (s5 _ _ eQ)
      · rw [List.length_set]; exact lG
      · rw [← eq2]; rfl
    · rintro σ' H4 fr ⟨hT4, G, d6, d7, d8, rfl, eG, eQ, lG, eq2⟩
      rw [List.drop_eq_nil_of_le (Nat.le_refl _), innM] at eq2
      exact ⟨hT4, G, _, _, _, _, _, _, rfl, eG, eQ, lG, by rw [List.length_set]; exact lQ, by rw [eq2, show N - (i + 1) = k by omega]; exact eq⟩
  · rintro σ' H' fr ⟨L, Qo, c7, c8, c9, c10, c11, rfl, eL, eQ, lL, lQ, eq⟩
    rw [Nat.sub_self, lcL] at eq
    have sm : Same H H' := fun a o h => fr a o (fun z => by
      rcases List.mem_cons.mp z with z | z
      · rw [z, n1] at h; cases h
      · rw [List.mem_singleton.mp z, s1.free (s2.free (s3.free n2))] at h; cases h) (s4 _ _ (s3 _ _ (s2 _ _ (s1 _ _ h))))
    refine s_ret (ev_tupS (ea_cons (ev_trim (ev_v 6 Li.mono rfl (li_of eQ)) (by omega)) (ea_cons (ev_trim (EvL.li (el_to (n := d) (ev_v 3 Li.mono rfl (li_of eL)) (ev_i 4 rfl))) (by rw [List.length_take]; omega)) ea_nil))) fun v H3 s3 h3 => q v H3 (sm.trans s3) ?_
    show Tds [Ts (lCutBy xs ys p).1, Ts (lCutBy xs ys p).2] v H3
    simp only [lCutBy]
    rw [hbk, hN, ← eq, hd]; exact h3
abbrev s__law_rem : Stmt := topS 75
abbrev N__law_rem : List Str := ["_law_one", "_law_other", "_law_p"]
theorem sc__law_rem : FnScope N__law_rem ["_law_one", "_law_other", "_law_p"] (defScope s__law_rem) := ⟨rfl, rfl, rfl, by decide +kernel, rfl, by decide +kernel, by decide +kernel⟩

def p__law_rem (K : PySem.W.Frag) : Sp := Pf (fun a : List Int × List Int × Int => [Ti K a.1, Ti K a.2.1, isV (.int a.2.2)]) (fun a => Ru a.2.2 a.2.1 ∧ a.1.length ≤ 900 ∧ a.2.1.length ≤ 900) (fun a => Ts (lRem a.1 a.2.1 a.2.2))
theorem ok__law_rem (D : Df K mg "_law_rem" s__law_rem ["_law_one", "_law_other", "_law_p"]) (Bt : Bts mg) (Gb : Gbs K mg) (c__law_cut_by : Cal P w K mg base 2 "_law_cut_by" (p__law_cut_by K)) : Cal P w K mg base 3 "_law_rem" (p__law_rem K) := by
  refine cal_of D sc__law_rem (fun vs H Q E ⟨a, _, h, _⟩ => h.len) fun f cdv A outer s H vs Q E hr ⟨⟨xs, ys, p⟩, ⟨u, hx1, hy1⟩, hds, q⟩ => ?_
  dsimp only at *
  obtain ⟨x1, x2, x3, rfl, hx, hy, rfl⟩ := all2_3 hds
  refine ⟨_, (pss_one (ps_ret (pe_ix (ix_tupK (K := K)) (pe_d c__law_cut_by hr (by decide) (by rfl) (pa_cons (pv 0) (pa_cons (pv 1) (pa_cons (pv 2) pa_nil)))) pe_int (fun _ _ => rfl)))), ?_⟩
  exact s_ret (ev_ixT (n := 1) ((ev_call (m := Tds.mono tsts_md) (xs, ys, p) (ea_cons (ev_v 0 Ti.mono rfl hx) (ea_cons (ev_v 1 Ti.mono rfl hy) (ea_cons (ev_i 2 rfl) ea_nil))) ⟨u.pr, u.cn, u.ne, hx1, hy1⟩).tdd tsts_md) ev_c rfl Ts.mk.md) fun v H1 e r => q v H1 e r
section
variable {σ : L2.St} {H : Hp} {ta tb tc td : TE} {E : XK}
theorem ev_lrem {xs ys : List Int} {p : Int} (ha : Ev ta σ H (Ti K xs)) (hb : Ev tb σ H (Ti K ys)) (hd : Ev td σ H (isV (.int p))) (u : Ru p ys) (h1 : xs.length ≤ 900) (h2 : ys.length ≤ 900) :
    Ev (tCall (p__law_rem K) [] E (tCons ta (tCons tb (tCons td tNil)))) σ H (Ts (lRem xs ys p)) :=
  ev_call (xs, ys, p) (ea_cons ha (ea_cons hb (ea_cons hd ea_nil))) ⟨u, h1, h2⟩ Ts.mk.md
end
end
end Rw
end
section
set_option maxRecDepth 100000
set_option maxHeartbeats 4000000
namespace Rw
open PySem PySem.Spec PyProof.Rows L2 Rf
variable {K : PySem.W.Frag}
theorem lrem_len {p : Int} {one rule : List Int} (u : Ru p rule) (r : Rg p one) : Cn p (lRem one rule p) ∧ (lRem one rule p).length < rule.length := by
  rw [lRem_eq u.pr u.cn u.ne r]; exact leftBy_len u r
theorem lmul_cn {p : Int} (h : PR p) (a b : List Int) : Cn p (lMul a b p) ∧ (lMul a b p).length ≤ a.length + b.length - 1 := by
  rw [lMul_eq h]; exact ⟨cn_multiplied h.pos a b, len_multiplied a b⟩
section
variable {σ : L2.St} {H H' : Hp} {ta tb tc td ty tv te tl : TE} {D : Ends} {tz : L2.TS}
theorem ev_at {a : Addr} {vs : List V} {i : Nat} {v : V} (hb : H a = some (.lst vs)) (hv : vs[i]? = some v) (ha : Ev ta σ H (isV (.ref a))) (hi : Ev tb σ H (isV (.int i))) : Ev (tOp (rIxL K) ta tb) σ H (isV v) :=
  ev_op md_isV ha hi fun x y H4 e4 p1 p2 Q q => ⟨a, vs, i, v, p1, p2, SqL.of (e4 _ _ hb), atI_nat hv, q _ H4 (Same.refl _) rfl⟩
theorem ev_atP {a : Addr} {vs : List V} {i : Nat} {v : V} {P : PV} (m : Md P) (p : P v H) (hb : H a = some (.lst vs)) (hv : vs[i]? = some v) (ha : Ev ta σ H (isV (.ref a))) (hi : Ev tb σ H (isV (.int i))) : Ev (tOp (rIxL K) ta tb) σ H P :=
  ev_op m ha hi fun x y H4 e4 p1 p2 Q q => ⟨a, vs, i, v, p1, p2, SqL.of (e4 _ _ hb), atI_nat hv, q _ H4 (Same.refl _) (m _ _ _ e4 p)⟩
theorem ev_abs {i : Int} (ha : Ev ta σ H (isV (.int i))) : Ev (tCB (fun xs H Q => ∃ i, xs = [.int i] ∧ Q (.int (if i < 0 then -i else i)) H) (tCons ta tNil)) σ H (isV (.int (if i < 0 then -i else i))) :=
  ⟨md_isV, fun H1 e Q q => ha.run H1 e _ fun x H2 e2 p => ⟨i, by rw [show x = _ from p], q _ H2 e2 rfl⟩⟩
end
section
variable {P : Program} {w : World} {mg : Str → Option Value} {base : Heap}
abbrev s__law_lift : Stmt := topS 76
abbrev N__law_lift : List Str := ["_law_one", "_law_exponent", "_law_rule", "_law_p", "_law_found", "_law_base", "_law_rest", "_law_k"]
theorem sc__law_lift : FnScope N__law_lift ["_law_one", "_law_exponent", "_law_rule", "_law_p"] (defScope s__law_lift) := ⟨rfl, rfl, rfl, by decide +kernel, rfl, by decide +kernel, by decide +kernel⟩

def p__law_lift (K : PySem.W.Frag) : Sp := Pf (fun a : List Int × Int × List Int × Int => [Ti K a.1, isV (.int a.2.1), Ti K a.2.2.1, isV (.int a.2.2.2)]) (fun a => Ru a.2.2.2 a.2.2.1 ∧ Rg a.2.2.2 a.1 ∧ 0 ≤ a.2.1 ∧ a.1.length ≤ 100 ∧ a.2.2.1.length ≤ 100) (fun a => Ts (lLift a.1 a.2.1 a.2.2.1 a.2.2.2))
theorem ok__law_lift (D : Df K mg "_law_lift" s__law_lift ["_law_one", "_law_exponent", "_law_rule", "_law_p"]) (Bt : Bts mg) (Gb : Gbs K mg) (c__law_mul : Cal P w K mg base 2 "_law_mul" (p__law_mul K)) (c__law_rem : Cal P w K mg base 3 "_law_rem" (p__law_rem K)) : Cal P w K mg base 4 "_law_lift" (p__law_lift K) := by
  refine cal_of D sc__law_lift (fun vs H Q E ⟨a, _, h, _⟩ => h.len) fun f cdv A outer s H vs Q E hr ⟨⟨xs, e, ys, p⟩, ⟨u, rg, e0, hx1, hy1⟩, hds, q⟩ => ?_
  dsimp only at *
  obtain ⟨x1, x2, x3, x4, rfl, hx, rfl, hy, rfl⟩ := all2_4 hds
  have hp := u.pr
  have bd := hp.bd
  refine ⟨_, (pss_cons (ps_set (i := 4) sc__law_lift.nd rfl (by first | exact .inl rfl | exact .inr rfl) (pe_d c__law_rem hr (by decide) (by rfl) (pa_cons (pe_tup (pa_cons pe_int pa_nil)) (pa_cons (pv 2) (pa_cons (pv 3) pa_nil)))))
      (pss_cons (ps_set (i := 5) sc__law_lift.nd rfl (by first | exact .inl rfl | exact .inr rfl) (pe_d c__law_rem hr (by decide) (by rfl) (pa_cons (pv 0) (pa_cons (pv 2) (pa_cons (pv 3) pa_nil)))))
      (pss_cons (ps_set (i := 6) sc__law_lift.nd rfl (by first | exact .inl rfl | exact .inr rfl) (pv 1))
      (pss_cons (ps_for PassesOwn.never rfl (pi_range1 (by rfl) Bt.range (pa_cons pe_int pa_nil)) (pg_name (i := 7) sc__law_lift.nd rfl (by first | exact .inl rfl | exact .inr rfl)) (pss_cons (ps_if (pt_cmpR op_eq (pe_op op_mod (pv 6) pe_int) pe_int (nomark _)) (pss_one (ps_set (i := 4) sc__law_lift.nd rfl (by first | exact .inl rfl | exact .inr rfl) (pe_d c__law_rem hr (by decide) (by rfl) (pa_cons (pe_d c__law_mul hr (by decide) (by rfl) (pa_cons (pv 4) (pa_cons (pv 5) (pa_cons (pv 3) pa_nil)))) (pa_cons (pv 2) (pa_cons (pv 3) pa_nil)))))) pss_nil)
      (pss_cons (ps_set (i := 6) sc__law_lift.nd rfl (by first | exact .inl rfl | exact .inr rfl) (pe_op op_fdiv (pv 6) pe_int))
      (pss_one (ps_if (pt_cmpR op_gt (pv 6) pe_int (nomark _)) (pss_one (ps_set (i := 5) sc__law_lift.nd rfl (by first | exact .inl rfl | exact .inr rfl) (pe_d c__law_rem hr (by decide) (by rfl) (pa_cons (pe_d c__law_mul hr (by decide) (by rfl) (pa_cons (pv 5) (pa_cons (pv 5) (pa_cons (pv 3) pa_nil)))) (pa_cons (pv 2) (pa_cons (pv 3) pa_nil)))))) pss_nil)))))
      (pss_one (ps_ret (pv 4))))))), ?_⟩
  refine q_set (ev_lrem (ev_t1 ev_c).ti (ev_v 2 Ti.mono rfl hy) (ev_i 3 rfl) u (by simp) (by omega)) fun v H1 s1 h1 => ?_
  have hx := Ti.mono _ _ _ s1 hx
  have hy := Ti.mono _ _ _ s1 hy
  refine q_set (ev_lrem (ev_v 0 Ti.mono rfl hx) (ev_v 2 Ti.mono rfl hy) (ev_i 3 rfl) u (by omega) (by omega)) fun v2 H2 s2 h2 => ?_
  refine q_set (ev_i 1 rfl) fun v3 H3 s3 h3 => ?_
  obtain rfl := h3
  have l1 := lrem_len u (Cn.one hp).rg
  have l2 := lrem_len u rg
  refine q_forM (ei_range (n := 140) ev_c (by omega)) [] (fun _ h => (by cases h)) (fun _ h => (by cases h)) (fun i σ' H' => ∃ (F B : List Int) (e' : Int) (v v2 : V) (c7 : Option V), σ' = [some x1, some (.int e), some x3, some (.int p), some v, some v2, some (.int e'), c7] ∧ Same H H' ∧ Ts F v H' ∧ Ts B v2 H' ∧ 0 ≤ e' ∧ Cn p F ∧ F.length < ys.length ∧ Cn p B ∧ B.length < ys.length ∧ lLiftL ys p (140 - i) F B e' = lLift xs e ys p)
    (fun B e' => ⟨_, _, e, v, v2, _, rfl, ((s1.trans s2).trans s3).trans e', Ts.mk.md _ _ _ ((s2.trans s3).trans e') h1, Ts.mk.md _ _ _ (s3.trans e') h2, e0, l1.1, l1.2, l2.1, l2.2, rfl⟩) ?_ ?_
  · rintro T kp i σ' H' hi hT ⟨F, B, e', v, v2, c7, rfl, sm, hF, hB, e0', cF, lF, cB, lB, eq⟩ x H'' s4 rfl hT2
    obtain ⟨k, hk⟩ : ∃ k, 140 - i = k + 1 := ⟨140 - i - 1, by omega⟩
    rw [hk, lLiftL] at eq
    have hy' := Ti.mono _ _ _ (sm.trans s4) (by assumption : Ti K ys x3 H)
    have hF := Ts.mk.md _ _ _ s4 hF
    have hB := Ts.mk.md _ _ _ s4 hB
    have lm := lmul_cn hp F B
    have lm2 := lmul_cn hp B B
    have hlb := lrem_len u lm.1.rg
    have hlb2 := lrem_len u lm2.1.rg
    refine q_ifAsg (P := Ts (lRem (lMul F B p) ys p)) rfl (et_test (ev_eq rfl (ev_I (show (0 : Int) < 2 by decide) (ev_i 6 rfl) ev_c) ev_c)) (fun _ => ev_lrem (ev_lmul (ev_v 4 Ts.mk.md rfl hF).ti (ev_v 5 Ts.mk.md rfl hB).ti (ev_i 3 rfl) hp cF.rg (by omega) (by omega)).ti (ev_v 2 Ti.mono rfl hy') (ev_i 3 rfl) u (by omega) (by omega)) fun w H4 s5 hw => ?_
    have hB := Ts.mk.md _ _ _ s5 hB
    have hy' := Ti.mono _ _ _ s5 hy'
    refine q_set (ev_I (show CDiv e' 2 from ⟨by decide, by decide⟩) (ev_i 6 rfl) ev_c) fun v6 H5 s6 h6 => ?_
    obtain rfl := h6
    have hB := Ts.mk.md _ _ _ s6 hB
    have hy' := Ti.mono _ _ _ s6 hy'
    have key : ∀ (w2 : V) (H6 : Hp) (B2 : List Int), Same H5 H6 → Ts B2 w2 H6 → B2 = (if 0 < e' / 2 then lRem (lMul B B p) ys p else B) → T H6 ∧ ∃ (F B : List Int) (e'' : Int) (v v2 : V) (c7 : Option V), [some x1, some (.int e), some x3, some (.int p), some w, some w2, some (.int (e' / 2)), some (.int i)] = [some x1, some (.int e), some x3, some (.int p), some v, some v2, some (.int e''), c7] ∧ Same H H6 ∧ Ts F v H6 ∧ Ts B v2 H6 ∧ 0 ≤ e'' ∧ Cn p F ∧ F.length < ys.length ∧ Cn p B ∧ B.length < ys.length ∧ lLiftL ys p (140 - (i + 1)) F B e'' = lLift xs e ys p := fun w2 H6 B2 s7 hB2 eB => by
      refine ⟨kp.same _ _ ((s5.trans s6).trans s7) hT2, if e' % 2 = 1 then lRem (lMul F B p) ys p else F, B2, _, w, w2, _, rfl, (((sm.trans s4).trans s5).trans s6).trans s7, ?_, hB2, by omega, ?_, ?_, ?_, ?_, ?_⟩
      · rcases hw with ⟨h1, h2⟩ | ⟨h1, h2⟩
        · rw [if_pos (by simpa using h1)]; exact Ts.mk.md _ _ _ (s6.trans s7) h2
        · rw [if_neg (by simpa using h1), h2]; exact Ts.mk.md _ _ _ ((s5.trans s6).trans s7) hF
      · split
        · exact hlb.1
        · exact cF
      · split
        · exact hlb.2
        · exact lF
      · rw [eB]
        split
        · exact hlb2.1
        · exact cB
      · rw [eB]
        split
        · exact hlb2.2
        · exact lB
      · rw [show 140 - (i + 1) = k by omega, eB]; exact eq
    refine s_when (et_test (ev_I0 (ev_i 6 rfl) ev_c)) (fun hb H6 s7 => ?_) (fun hb H6 s7 => ?_)
    · have h0 : 0 < e' / 2 := of_decide_eq_true hb
      refine s_set (ev_lrem (ev_lmul (ev_v 5 Ts.mk.md rfl (Ts.mk.md _ _ _ s7 hB)).ti (ev_v 5 Ts.mk.md rfl (Ts.mk.md _ _ _ s7 hB)).ti (ev_i 3 rfl) hp cB.rg (by omega) (by omega)).ti (ev_v 2 Ti.mono rfl (Ti.mono _ _ _ s7 hy')) (ev_i 3 rfl) u (by omega) (by omega)) fun w2 H7 s8 h8 => ?_
      exact key w2 H7 _ (s7.trans s8) h8 (by rw [if_pos h0])
    · have h0 : ¬ 0 < e' / 2 := of_decide_eq_false hb
      exact key v2 H6 B s7 (Ts.mk.md _ _ _ s7 hB) (by rw [if_neg h0])
  · rintro σ' H' fr ⟨F, B, e', v, v2, c7, rfl, sm, hF, hB, e0', cF, lF, cB, lB, eq⟩
    rw [Nat.sub_self, lLiftL] at eq
    refine s_ret (ev_v 4 Ts.mk.md rfl hF) fun v H4 s4 h4 => q v H4 (sm.trans s4) ?_
    rw [← eq]; exact h4
section
variable {σ : L2.St} {H : Hp} {ta tb tc td : TE} {E : XK}
theorem ev_llift {xs ys : List Int} {e p : Int} (ha : Ev ta σ H (Ti K xs)) (hc : Ev tc σ H (isV (.int e))) (hb : Ev tb σ H (Ti K ys)) (hd : Ev td σ H (isV (.int p))) (u : Ru p ys) (rg : Rg p xs) (e0 : 0 ≤ e) (h1 : xs.length ≤ 100) (h2 : ys.length ≤ 100) :
    Ev (tCall (p__law_lift K) [] E (tCons ta (tCons tc (tCons tb (tCons td tNil))))) σ H (Ts (lLift xs e ys p)) :=
  ev_call (xs, e, ys, p) (ea_cons ha (ea_cons hc (ea_cons hb (ea_cons hd ea_nil)))) ⟨u, rg, e0, h1, h2⟩ Ts.mk.md
end
abbrev s__law_shifted : Stmt := topS 78
abbrev N__law_shifted : List Str := ["_law_poly", "_law_by", "_law_p", "_law_found", "_law_number"]
theorem sc__law_shifted : FnScope N__law_shifted ["_law_poly", "_law_by", "_law_p"] (defScope s__law_shifted) := ⟨rfl, rfl, rfl, by decide +kernel, rfl, by decide +kernel, by decide +kernel⟩

def p__law_shifted (K : PySem.W.Frag) : Sp := Pf (fun a : List Int × Int × Int => [Ti K a.1, isV (.int a.2.1), isV (.int a.2.2)]) (fun a => PR a.2.2 ∧ Rg a.2.2 a.1 ∧ a.1.length ≤ 100) (fun a => Ts (lShifted a.1 a.2.1 a.2.2))
theorem ok__law_shifted (D : Df K mg "_law_shifted" s__law_shifted ["_law_poly", "_law_by", "_law_p"]) (Bt : Bts mg) (Gb : Gbs K mg) (c__law_blend : Cal P w K mg base 2 "_law_blend" (p__law_blend K)) (c__law_mul : Cal P w K mg base 2 "_law_mul" (p__law_mul K)) : Cal P w K mg base 3 "_law_shifted" (p__law_shifted K) := by
  refine cal_of D sc__law_shifted (fun vs H Q E ⟨a, _, h, _⟩ => h.len) fun f cdv A outer s H vs Q E hr ⟨⟨xs, b, p⟩, ⟨hp, rg, hl⟩, hds, q⟩ => ?_
  dsimp only at *
  obtain ⟨x1, x2, x3, rfl, hx, rfl, rfl⟩ := all2_3 hds
  have bd := hp.bd
  refine ⟨_, (pss_cons (ps_set (i := 3) sc__law_shifted.nd rfl (by first | exact .inl rfl | exact .inr rfl) (pe_tup pa_nil))
      (pss_cons (ps_for PassesOwn.never rfl (pi_tup (pe_revTK (K := K) (pv 0))) (pg_name (i := 4) sc__law_shifted.nd rfl (by first | exact .inl rfl | exact .inr rfl)) (pss_one (ps_set (i := 3) sc__law_shifted.nd rfl (by first | exact .inl rfl | exact .inr rfl) (pe_d c__law_blend hr (by decide) (by rfl) (pa_cons (pe_d c__law_mul hr (by decide) (by rfl) (pa_cons (pv 3) (pa_cons (pe_tup (pa_cons (pv 1) (pa_cons pe_int pa_nil))) (pa_cons (pv 2) pa_nil)))) (pa_cons (pe_tup (pa_cons pe_int pa_nil)) (pa_cons (pv 4) (pa_cons (pv 2) pa_nil))))))))
      (pss_one (ps_ret (pv 3))))), ?_⟩
  refine q_set ev_t0 fun v0 H1 s1 h1 => ?_
  have hx := Ti.mono _ _ _ s1 hx
  refine q_forM (ei_tupI (ev_revT (ev_v 0 Ti.mono rfl hx)).ti) [] (fun _ h => (by cases h)) (fun _ h => (by cases h)) (fun i σ' H' => ∃ (F : List Int) (v : V) (y : Option V), σ' = [some x1, some (.int b), some (.int p), some v, y] ∧ Same H H' ∧ Ts F v H' ∧ Cn p F ∧ F.length ≤ i + 1 ∧ (xs.reverse.drop i).foldl (fun found n => lBlend (lMul found [b, 1] p) [1] n p) F = lShifted xs b p)
    (fun B e => ⟨[], v0, _, rfl, s1.trans e, Ts.mk.md _ _ _ e h1, Cn.nil, by simp, rfl⟩) ?_ ?_
  · rintro T kp i σ' H' hi hT ⟨F, v, y, rfl, sm, hF, cF, lF, eq⟩ x H'' s2 hn hT2
    obtain ⟨z, hz, rfl⟩ := nth_int hn
    have hlt := (List.getElem?_eq_some_iff.mp hz).1
    have hm := List.mem_of_getElem? hz
    rw [List.length_reverse] at hi
    rw [List.drop_eq_getElem_cons hlt, List.foldl_cons, (List.getElem?_eq_some_iff.mp hz).2] at eq
    have rz := rg z (List.mem_reverse.mp hm)
    have hF := Ts.mk.md _ _ _ s2 hF
    have lm := lmul_cn hp F [b, 1]
    have l2 : ([b, 1] : List Int).length = 2 := rfl
    have l1 : ([1] : List Int).length = 1 := rfl
    have lb := len_blended (p := p) (lMul F [b, 1] p) [1] z
    have cb := cn_blended hp.pos (lMul F [b, 1] p) [1] z
    refine s_set (ev_lblend (wt := z) (ev_lmul (ev_v 3 Ts.mk.md rfl hF).ti (ev_t2 (ev_i 1 rfl) ev_c).ti (ev_i 2 rfl) hp cF.rg (by omega) (by omega)).ti (ev_t1 ev_c).ti (ev_i 4 rfl) (ev_i 2 rfl) (by omega) (by omega) (by omega) (by omega) (by omega)) fun v H3 s3 h3 => ?_
    exact ⟨kp.same _ _ s3 hT2, _, _, _, rfl, (sm.trans s2).trans s3, h3, cb, by show (blended _ _ _ _).length ≤ _; omega, eq⟩
  · rintro σ' H' fr ⟨F, v, y, rfl, sm, hF, cF, lF, eq⟩
    rw [List.drop_eq_nil_of_le (by simp)] at eq
    refine s_ret (ev_v 3 Ts.mk.md rfl hF) fun v H3 s3 h3 => q v H3 (sm.trans s3) ?_
    rw [← eq]; exact h3
/-! ### the draws -/
structure DrS (a c : Addr) (H : Hp) : Prop where
  ne : a ≠ c
  ex : ∃ (cells : List Int) (pos : Nat) (pool seed : Int), H a = some (.lst [.ref c, .int pos, .int pool, .int seed]) ∧ H c = some (.lst (cells.map V.int)) ∧ 0 ≤ pool ∧ 0 ≤ seed ∧ seed < 2147483647
theorem DrS.fr {a c : Addr} {H H' : Hp} (d : DrS a c H) (f : Same H H') : DrS a c H' := ⟨d.ne, let ⟨x, y, z, w, h1, h2, h3⟩ := d.ex; ⟨x, y, z, w, f _ _ h1, f _ _ h2, h3⟩⟩
abbrev s__law_take : Stmt := topS 63
abbrev N__law_take : List Str := ["_law_draw", "_law_sides", "_law_cell", "_law_got"]
theorem sc__law_take : FnScope N__law_take ["_law_draw", "_law_sides"] (defScope s__law_take) := ⟨rfl, rfl, rfl, by decide +kernel, rfl, by decide +kernel, by decide +kernel⟩

def p__law_take : Sp := fun vs H Q _ => ∃ (a c : Addr) (sides : Int), vs = [.ref a, .int sides] ∧ 0 < sides ∧ sides ≤ 1000 ∧ DrS a c H ∧ ∀ (n : Int) H', Fr [a] H H' → DrS a c H' → 0 ≤ n → n < sides → Q (.int n) H'
theorem ok__law_take (D : Df K mg "_law_take" s__law_take ["_law_draw", "_law_sides"]) (Bt : Bts mg) (Gb : Gbs K mg) : Cal P w K mg base 1 "_law_take" p__law_take := by
  refine cal_of D sc__law_take (fun vs H Q E ⟨a, c, sd, h, _⟩ => by rw [h]; rfl) fun f cdv A outer s H vs Q E hr ⟨a, c, sd, hvs, sd0, sd1, dr, q⟩ => ?_
  subst hvs
  obtain ⟨cells, pos, pool, seed, ha, hc, p0, s0, s1'⟩ := dr.ex
  have ne := dr.ne
  refine ⟨_, (pss_cons (ps_if ((pw_and (pt_cmpR op_lt (pe_ix (ix_listK (K := K)) (pv 0) pe_int (fun _ _ => rfl)) (pv 1) (nomark _)) (pw_and1 (pt_cmpR op_lt (pe_ix (ix_listK (K := K)) (pv 0) pe_int (fun _ _ => rfl)) (pe_callB (call_lenK (K := K)) (by rfl) Bt.len PySem.boot_len (pa_cons (pe_ix (ix_listK (K := K)) (pv 0) pe_int (fun _ _ => rfl)) pa_nil)) (nomark _))))).pt (pss_cons (ps_set (i := 2) sc__law_take.nd rfl (by first | exact .inl rfl | exact .inr rfl) (pe_ix (ix_listK (K := K)) (pe_ix (ix_listK (K := K)) (pv 0) pe_int (fun _ _ => rfl)) (pe_ix (ix_listK (K := K)) (pv 0) pe_int (fun _ _ => rfl)) (fun _ _ => rfl)))
      (pss_cons (ps_asg (pe_op op_add (pe_ix (ix_listK (K := K)) (pv 0) pe_int (fun _ _ => rfl)) pe_int) (pg_sub (pv 0) pe_int set_list))
      (pss_cons (ps_asg pe_int (pg_sub (pv 0) pe_int set_list))
      (pss_one (ps_if (pt_cmpR op_ge (pe_callB call_abs (by rfl) Bt.abs (by decide +kernel) (pa_cons (pv 2) pa_nil)) (pe_op op_pow pe_int pe_int) (nomark _)) (pss_one (ps_asg (pe_callB call_abs (by rfl) Bt.abs (by decide +kernel) (pa_cons (pv 2) pa_nil)) (pg_sub (pv 0) pe_int set_list))) (pss_one (ps_asg (pe_op op_mod (pe_op op_add (pe_op op_add (pe_op op_mul (pe_ix (ix_listK (K := K)) (pv 0) pe_int (fun _ _ => rfl)) pe_int) (pe_op op_mul (pe_op op_mod (pv 2) pe_int) pe_int)) pe_int) pe_int) (pg_sub (pv 0) pe_int set_list)))))))) pss_nil)
      (pss_cons (ps_if (pt_cmpR op_ge (pe_ix (ix_listK (K := K)) (pv 0) pe_int (fun _ _ => rfl)) (pv 1) (nomark _)) (pss_cons (ps_set (i := 3) sc__law_take.nd rfl (by first | exact .inl rfl | exact .inr rfl) (pe_op op_mod (pe_ix (ix_listK (K := K)) (pv 0) pe_int (fun _ _ => rfl)) (pv 1)))
      (pss_cons (ps_asg (pe_op op_fdiv (pe_ix (ix_listK (K := K)) (pv 0) pe_int (fun _ _ => rfl)) (pv 1)) (pg_sub (pv 0) pe_int set_list))
      (pss_one (ps_ret (pv 3))))) pss_nil)
      (pss_cons (ps_asg (pe_op op_mod (pe_op op_add (pe_op op_add (pe_op op_mul (pe_op op_mod (pe_op op_mul (pe_ix (ix_listK (K := K)) (pv 0) pe_int (fun _ _ => rfl)) (pe_ix (ix_listK (K := K)) (pv 0) pe_int (fun _ _ => rfl))) pe_int) pe_int) (pe_op op_mul (pe_ix (ix_listK (K := K)) (pv 0) pe_int (fun _ _ => rfl)) pe_int)) pe_int) pe_int) (pg_sub (pv 0) pe_int set_list))
      (pss_one (ps_ret (pe_op op_mod (pe_op op_add (pe_op op_fdiv (pe_ix (ix_listK (K := K)) (pv 0) pe_int (fun _ _ => rfl)) pe_int) (pe_op op_mul (pe_op op_mod (pe_ix (ix_listK (K := K)) (pv 0) pe_int (fun _ _ => rfl)) pe_int) pe_int)) (pv 1))))))), ?_⟩
  have rest : ∀ (c2 : Option V) (pos : Nat) (pool seed : Int) (H1 : Hp), Fr [a] H H1 → H1 a = some (.lst [.ref c, .int pos, .int pool, .int seed]) → 0 ≤ pool → 0 ≤ seed → seed < 2147483647 →
      (tSeq (tIfS (tTest (tOp (rI0 fun i j => .bl (decide (i ≥ j))) (tOp (rIxL K) (tVar 0) (tC (.int 2))) (tVar 1))) (tSeq (tAsg (tOp (rI (fun _ j => 0 < j) fun i j => .int (i % j)) (tOp (rIxL K) (tVar 0) (tC (.int 2))) (tVar 1)) (gName 3)) (tSeq (tAsg (tOp (rI CDiv fun i j => .int (i / j)) (tOp (rIxL K) (tVar 0) (tC (.int 2))) (tVar 1)) (gSub (tVar 0) (tC (.int 2)) rSetL)) (tRet (tVar 3)))) tNext)
        (tSeq (tAsg (tOp (rI (fun _ j => 0 < j) fun i j => .int (i % j)) (tOp (rI0 fun i j => .int (i + j)) (tOp (rI0 fun i j => .int (i + j)) (tOp (rI CMul fun i j => .int (i * j)) (tOp (rI (fun _ j => 0 < j) fun i j => .int (i % j)) (tOp (rI CMul fun i j => .int (i * j)) (tOp (rIxL K) (tVar 0) (tC (.int 3))) (tOp (rIxL K) (tVar 0) (tC (.int 3)))) (tC (.int 2147483629))) (tC (.int 5))) (tOp (rI CMul fun i j => .int (i * j)) (tOp (rIxL K) (tVar 0) (tC (.int 3))) (tC (.int 16811)))) (tC (.int 2531011))) (tC (.int 2147483647))) (gSub (tVar 0) (tC (.int 3)) rSetL))
          (tRet (tOp (rI (fun _ j => 0 < j) fun i j => .int (i % j)) (tOp (rI0 fun i j => .int (i + j)) (tOp (rI CDiv fun i j => .int (i / j)) (tOp (rIxL K) (tVar 0) (tC (.int 3))) (tC (.int 61))) (tOp (rI CMul fun i j => .int (i * j)) (tOp (rI (fun _ j => 0 < j) fun i j => .int (i % j)) (tOp (rIxL K) (tVar 0) (tC (.int 3))) (tC (.int 8191))) (tC (.int 31)))) (tVar 1))))) { nx := fun _ H' => Q .non H', rt := Q } [some (.ref a), some (.int sd), c2, none] H1 := by
    intro c2 pos pool seed H1 fr h1 p0 s0 s1
    have done : ∀ (n : Int) (pool seed : Int) H2, Fr [a] H H2 → H2 a = some (.lst [.ref c, .int pos, .int pool, .int seed]) → 0 ≤ pool → 0 ≤ seed → seed < 2147483647 → 0 ≤ n → n < sd → Q (.int n) H2 := fun n pool seed H2 f2 h2 a1 a2 a3 a4 a5 =>
      q n H2 f2 ⟨ne, cells, pos, pool, seed, h2, f2 c _ (by simpa using Ne.symm ne) hc, a1, a2, a3⟩ a4 a5
    refine q_when (et_test (ev_I0 (ev_at (i := 2) (v := .int pool) h1 rfl (ev_i 0 rfl) ev_c) (ev_i 1 rfl))) (fun hb H2 e2 => ?_) (fun hb H2 e2 => ?_)
    · have h2 := e2 _ _ h1
      refine q_set (ev_I (show 0 < sd from sd0) (ev_at (i := 2) (v := .int pool) h2 rfl (ev_i 0 rfl) ev_c) (ev_i 1 rfl)) fun v H3 e3 h3 => ?_
      obtain rfl := h3
      have h3 := e3 _ _ h2
      refine q_setIx (n := 2) h3 (ev_I (show CDiv pool sd from ⟨sd0, by omega⟩) (ev_at (i := 2) (v := .int pool) h3 rfl (ev_i 0 rfl) ev_c) (ev_i 1 rfl)) (ev_i 0 rfl) ev_c (by show 2 < 4; decide) fun v H4 e4 h4 => ?_
      obtain rfl := h4
      refine s_ret (ev_i 3 rfl) fun v H5 e5 h5 => ?_
      obtain rfl := h5
      have f5 : Fr [a] H H5 := ((fr.trans (Fr.of ((e2.trans e3).trans e4))).trans (Fr.upd (by simp))).trans (Fr.of e5)
      exact done _ (pool / sd) seed H5 f5 (e5 _ _ upd_same) (Int.ediv_nonneg p0 (by omega)) s0 s1 (Int.emod_nonneg _ (by omega)) (Int.emod_lt_of_pos _ sd0)
    · have h2 := e2 _ _ h1
      refine q_setIx (n := 3) h2 (ev_I (show (0 : Int) < 2147483647 by decide) (ev_I0 (ev_I0 (ev_I (.inr ⟨by decide, by decide⟩) (ev_I (show (0 : Int) < 2147483629 by decide) (ev_I (.inl ⟨by omega, by omega⟩) (ev_at (i := 3) (v := .int seed) h2 rfl (ev_i 0 rfl) ev_c) (ev_at (i := 3) (v := .int seed) h2 rfl (ev_i 0 rfl) ev_c)) ev_c) ev_c) (ev_I (.inr ⟨by decide, by decide⟩) (ev_at (i := 3) (v := .int seed) h2 rfl (ev_i 0 rfl) ev_c) ev_c)) ev_c) ev_c) (ev_i 0 rfl) ev_c (by show 3 < 4; decide) fun v H4 e4 h4 => ?_
      obtain rfl := h4
      generalize hsd : (seed * seed % 2147483629 * 5 + seed * 16811 + 2531011) % 2147483647 = seed2
      have b0 : 0 ≤ seed2 := hsd ▸ Int.emod_nonneg _ (by decide)
      have b1 : seed2 < 2147483647 := hsd ▸ Int.emod_lt_of_pos _ (by decide)
      have f4 : Fr [a] H (upd H4 a (.lst ([V.ref c, .int pos, .int pool, .int seed].set 3 (.int seed2)))) := (fr.trans (Fr.of (e2.trans e4))).trans (Fr.upd (by simp))
      have h4 : (upd H4 a (.lst ([V.ref c, .int pos, .int pool, .int seed].set 3 (.int seed2)))) a = some (.lst [.ref c, .int pos, .int pool, .int seed2]) := upd_same
      generalize upd H4 a (.lst ([V.ref c, .int pos, .int pool, .int seed].set 3 (.int seed2))) = H5 at f4 h4 ⊢
      refine s_ret (ev_I (show 0 < sd from sd0) (ev_I0 (ev_I (show CDiv seed2 61 from ⟨by decide, by decide⟩) (ev_at (i := 3) (v := .int seed2) h4 rfl (ev_i 0 rfl) ev_c) ev_c) (ev_I (.inr ⟨by decide, by decide⟩) (ev_I (show (0 : Int) < 8191 by decide) (ev_at (i := 3) (v := .int seed2) h4 rfl (ev_i 0 rfl) ev_c) ev_c) ev_c)) (ev_i 1 rfl)) fun v H6 e6 h6 => ?_
      obtain rfl := h6
      exact done _ pool seed2 H6 (f4.trans (Fr.of e6)) (e6 _ _ h4) p0 b0 b1 (Int.emod_nonneg _ (by omega)) (Int.emod_lt_of_pos _ sd0)
  have liC : ∀ H1, Same H H1 → Li K cells (.ref c) H1 := fun H1 e => li_of (e _ _ hc)
  refine q_when (b := decide (pool < sd) && decide ((pos : Int) < cells.length)) (et_and (et_test (ev_I0 (ev_at (i := 2) (v := .int pool) ha rfl (ev_i 0 rfl) ev_c) (ev_i 1 rfl))) fun _ => et_test (ev_I0 (ev_at (i := 1) (v := .int pos) ha rfl (ev_i 0 rfl) ev_c) (ev_lenL (ev_atP (i := 0) (v := .ref c) Li.mono (li_of hc) ha rfl (ev_i 0 rfl) ev_c)))) (fun hb H1 s1 => ?_) (fun hb H1 s1 => ?_)
  · simp only [Bool.and_eq_true, decide_eq_true_eq] at hb
    have hpos : pos < cells.length := by omega
    have ha1 := s1 _ _ ha
    have hc1 := s1 _ _ hc
    refine q_set (ev_ixLI (n := pos) (z := cells.getD pos 0) (ev_atP (i := 0) (v := .ref c) Li.mono (li_of hc1) ha1 rfl (ev_i 0 rfl) ev_c) (ev_at (i := 1) (v := .int pos) ha1 rfl (ev_i 0 rfl) ev_c) (get_of hpos)) fun v H2 s2 h2 => ?_
    obtain rfl := h2
    generalize cells.getD pos 0 = cell
    have ha2 := s2 _ _ ha1
    refine q_setIx (n := 1) (P := isV (.int (pos + 1 : Nat))) ha2 (Ev.is (ev_I0 (ev_at (i := 1) (v := .int pos) ha2 rfl (ev_i 0 rfl) ev_c) ev_c) (by congr 1)) (ev_i 0 rfl) ev_c (by show 1 < 4; decide) fun v H3 s3 h3 => ?_
    obtain rfl := h3
    have f3 : Fr [a] H (upd H3 a (.lst ([V.ref c, .int pos, .int pool, .int seed].set 1 (.int (pos + 1 : Nat))))) := (Fr.of ((s1.trans s2).trans s3)).trans (Fr.upd (by simp))
    have h3 : (upd H3 a (.lst ([V.ref c, .int pos, .int pool, .int seed].set 1 (.int (pos + 1 : Nat))))) a = some (.lst [.ref c, .int (pos + 1 : Nat), .int pool, .int seed]) := upd_same
    generalize upd H3 a (.lst ([V.ref c, .int pos, .int pool, .int seed].set 1 (.int (pos + 1 : Nat)))) = H4 at f3 h3 ⊢
    refine q_setIx (n := 2) h3 ev_c (ev_i 0 rfl) ev_c (by show 2 < 4; decide) fun v H5 s5 h5 => ?_
    obtain rfl := h5
    have f5 : Fr [a] H (upd H5 a (.lst ([V.ref c, .int (pos + 1 : Nat), .int pool, .int seed].set 2 (.int 0)))) := (f3.trans (Fr.of s5)).trans (Fr.upd (by simp))
    have h5 : (upd H5 a (.lst ([V.ref c, .int (pos + 1 : Nat), .int pool, .int seed].set 2 (.int 0)))) a = some (.lst [.ref c, .int (pos + 1 : Nat), .int 0, .int seed]) := upd_same
    generalize upd H5 a (.lst ([V.ref c, .int (pos + 1 : Nat), .int pool, .int seed].set 2 (.int 0))) = H6 at f5 h5 ⊢
    refine s_if (et_test (ev_I0 (ev_abs (ev_i 2 rfl)) (ev_I (show CPow 10 18 from ⟨by decide, by decide, by decide⟩) ev_c ev_c))) (fun hb H7 s7 => ?_) (fun hb H7 s7 => ?_)
    · refine s_setIx (n := 2) (s7 _ _ h5) (ev_abs (ev_i 2 rfl)) (ev_i 0 rfl) ev_c (by show 2 < 4; decide) fun v H8 s8 h8 => ?_
      obtain rfl := h8
      exact rest _ (pos + 1) _ seed _ ((f5.trans (Fr.of (s7.trans s8))).trans (Fr.upd (by simp))) upd_same (by split <;> omega) s0 s1'
    · refine s_setIx (n := 3) (s7 _ _ h5) (ev_I (show (0 : Int) < 2147483647 by decide) (ev_I0 (ev_I0 (ev_I (.inr ⟨by decide, by decide⟩) (ev_at (i := 3) (v := .int seed) (s7 _ _ h5) rfl (ev_i 0 rfl) ev_c) ev_c) (ev_I (.inr ⟨by decide, by decide⟩) (ev_I (show (0 : Int) < 2147483629 by decide) (ev_i 2 rfl) ev_c) ev_c)) ev_c) ev_c) (ev_i 0 rfl) ev_c (by show 3 < 4; decide) fun v H8 s8 h8 => ?_
      obtain rfl := h8
      exact rest _ (pos + 1) 0 _ _ ((f5.trans (Fr.of (s7.trans s8))).trans (Fr.upd (by simp))) upd_same (by decide) (Int.emod_nonneg _ (by decide)) (Int.emod_lt_of_pos _ (by decide))
  · exact rest _ pos pool seed H1 (Fr.of s1) (s1 _ _ ha) p0 s0 s1'
end
end Rw
end
section
set_option maxRecDepth 100000
set_option maxHeartbeats 4000000
namespace Rw
open PySem PySem.Spec PyProof.Rows L2 Rf
variable {K : PySem.W.Frag}
theorem DrS.tk {a c : Addr} {H H' : Hp} (d : DrS a c H) (f : Fr [a] H H') : Tk H H' := by
  obtain ⟨x, y, z, w, h1, _⟩ := d.ex
  exact f.tk (muts1 h1)
theorem DrS.at {a c : Addr} {H : Hp} (d : DrS a c H) : H a ≠ none := by
  obtain ⟨x, y, z, w, h1, _⟩ := d.ex
  rw [h1]; simp
theorem s_retQ {te : TE} {D : Ends} {σ : L2.St} {H : Hp} (h : te σ H D.rt) : tRet te D σ H := h
theorem lc_take {n : Nat} {a c : Addr} {p : Int} {H : Hp} {Q : VK} (hn : n ≤ 1000) (hp0 : 0 < p) (hp1 : p ≤ 1000) (dr : DrS a c H)
    (q : ∀ l xs H', H l = none → Fr [a] H H' → DrS a c H' → H' l = some (.lst (xs.map V.int)) → xs.length = n → Rg p xs → Q (.ref l) H') :
    tLc (iRng1 (tCons (tVar 1) tNil)) (gName 3) tYes (tCall p__law_take [] E0 (tCons (tVar 0) (tCons (tVar 2) tNil))) [3] [some (.ref a), some (.int n), some (.int p), none] H Q := by
  refine ⟨_, rfl, n, rfl, by omega, by omega, fun D hD => ?_⟩
  have hDa : D ≠ a := fun z => dr.at (by rw [← z]; exact hD)
  have hDc : D ≠ c := fun z => by
    obtain ⟨_, _, _, _, _, h, _⟩ := dr.ex
    rw [← z, hD] at h; cases h
  refine ⟨fun i m H' => m = n - i ∧ i ≤ n ∧ Fr [a] H H' ∧ DrS a c H' ∧ ∃ xs, H' D = some (.lst (xs.map V.int)) ∧ xs.length = i ∧ Rg p xs, ⟨n, by simp, Nat.zero_le _, Fr.of (Same.new hD), dr.fr (Same.new hD), [], upd_same, rfl, fun _ h => (by cases h)⟩, ?_⟩
  rintro i m H' ⟨rfl, hi, fH, dH, xs, hxs, lxs, rxs⟩
  by_cases hlt : i < n
  · refine .inr ⟨by show i < (n : Int).toNat; omega, fun H3 => Fr [a] H H3 ∧ DrS a c H3 ∧ ∃ xs, H3 D = some (.lst (xs.map V.int)) ∧ xs.length = i + 1 ∧ Rg p xs, fun H3 p' => ⟨n - (i + 1), by omega, rfl, hlt, p'⟩, ?_⟩
    rintro x H'' ⟨rfl, rfl⟩
    refine ⟨rfl, _, rfl, _, rfl, a, c, p, rfl, hp0, hp1, dH, fun k H4 f4 d4 k0 k1 => ?_⟩
    have h4 : H4 D = some (.lst (xs.map V.int)) := f4 D _ (by simpa using hDa) hxs
    have dn : DrS a c (upd H4 D (.lst (xs.map V.int ++ [V.int k]))) := ⟨d4.ne, by
      obtain ⟨x1, x2, x3, x4, g1, g2, g3⟩ := d4.ex
      exact ⟨x1, x2, x3, x4, by rw [upd_ne (Ne.symm hDa)]; exact g1, by rw [upd_ne (Ne.symm hDc)]; exact g2, g3⟩⟩
    refine ⟨xs.map V.int, h4, sz_lt (by rw [List.length_map]; omega), fun b o hb e => ?_, dn, xs ++ [k], by rw [upd_same, List.map_append]; rfl, by rw [List.length_append, lxs]; rfl, fun y hy => ?_⟩
    · rw [upd_ne (fun z => by rw [z, hD] at e; cases e)]
      exact f4 b o hb (fH b o hb e)
    · rcases List.mem_append.mp hy with z | z
      · exact rxs y z
      · rw [List.mem_singleton.mp z]; exact ⟨k0, k1⟩
  · have ei : i = n := by omega
    subst ei
    exact .inl ⟨by show (i : Int).toNat ≤ i; omega, q D xs H' hD fH dH hxs lxs rxs⟩
section
variable {P : Program} {w : World} {mg : Str → Option Value} {base : Heap}
abbrev s__law_begin : Stmt := topS 62
abbrev N__law_begin : List Str := ["_law_script"]
theorem sc__law_begin : FnScope N__law_begin ["_law_script"] (defScope s__law_begin) := ⟨rfl, rfl, rfl, by decide +kernel, rfl, by decide +kernel, by decide +kernel⟩

def p__law_begin (K : PySem.W.Frag) : Sp := fun vs H Q _ => ∃ (s : Addr) (xs : List Int), vs = [.ref s] ∧ SqL K H s (xs.map V.int) ∧ ∀ a c H', Same H H' → DrS a c H' → Q (.ref a) H'
def LI1 (xs : List Int) : PV := fun v H => ∃ c, v = .ref c ∧ H c = some (.lst (xs.map V.int))
theorem LI1.md {xs : List Int} : Md (LI1 xs) := fun _ _ _ e ⟨c, a, b⟩ => ⟨c, a, e _ _ b⟩
theorem ok__law_begin (D : Df K mg "_law_begin" s__law_begin ["_law_script"]) (Bt : Bts mg) (Gb : Gbs K mg) : Cal P w K mg base 1 "_law_begin" (p__law_begin K) := by
  refine cal_of D sc__law_begin (fun vs H Q E ⟨s, xs, h, _⟩ => by rw [h]; rfl) fun f cdv A outer s H vs Q E hr ⟨sc, xs, hvs, hs, q⟩ => ?_
  subst hvs
  refine ⟨_, (pss_one (ps_ret (pe_lst (pa_cons (pe_callTy (call_listK (K := K)) (by rfl) Bt.list (by decide +kernel) (pa_cons (pe_slice (sl_listK (K := K)) (pv 0) po_none (po_some pe_int)) pa_nil)) (pa_cons pe_int (pa_cons pe_int (pa_cons pe_int pa_nil))))))), ?_⟩
  have h1 : EvL (tCB (Evl.rListS K) (tCons (tSl (rSlL K) (tVar 0) tNoPart (tPart (tC (.int 63)))) tNil)) (start N__law_begin [.ref sc]) H ((xs.take 63).map V.int) :=
    el_listL (el_to (n := 63) (ev_v 0 Li.mono rfl ⟨sc, rfl, hs⟩) ev_c).li
  have h2 : Ev (tCB (Evl.rListS K) (tCons (tSl (rSlL K) (tVar 0) tNoPart (tPart (tC (.int 63)))) tNil)) (start N__law_begin [.ref sc]) H (LI1 (xs.take 63)) := ⟨LI1.md, fun H1 e Q q => h1 H1 e Q fun p H2 _ e2 hp => q _ H2 e2 ⟨p, rfl, hp⟩⟩
  refine s_retD (eld_lst (ea_cons h2 (ea_cons (ev_c (v := .int 0)) (ea_cons (ev_c (v := .int 0)) (ea_cons (ev_c (v := .int 37)) ea_nil))))) fun p vs H1 n1 s1 e1 a1 => ?_
  obtain ⟨y1, y2, y3, y4, rfl, ⟨c, rfl, hc⟩, rfl, rfl, rfl⟩ := all2_4 a1
  refine q p c H1 s1 ⟨fun z => ?_, _, 0, 0, 37, e1, hc, by decide, by decide, by decide⟩
  rw [z, hc] at e1
  have e2 := HO.lst.inj (Option.some.inj e1)
  cases hx : xs.take 63 with
  | nil => rw [hx] at e2; cases e2
  | cons a r => rw [hx] at e2; cases e2
abbrev s__law_of : Stmt := topS 64
abbrev N__law_of : List Str := ["_law_draw", "_law_row"]
theorem sc__law_of : FnScope N__law_of ["_law_draw", "_law_row"] (defScope s__law_of) := ⟨rfl, rfl, rfl, by decide +kernel, rfl, by decide +kernel, by decide +kernel⟩

def p__law_of (K : PySem.W.Frag) : Sp := fun vs H Q _ => ∃ (a c r : Addr) (es : List V), vs = [.ref a, .ref r] ∧ H r = some (.lst es) ∧ es ≠ [] ∧ es.length ≤ 1000 ∧ r ≠ a ∧ DrS a c H ∧ ∀ v H', v ∈ es → Fr [a] H H' → DrS a c H' → Q v H'
theorem ok__law_of (D : Df K mg "_law_of" s__law_of ["_law_draw", "_law_row"]) (Bt : Bts mg) (Gb : Gbs K mg) (c__law_take : Cal P w K mg base 1 "_law_take" p__law_take) : Cal P w K mg base 2 "_law_of" (p__law_of K) := by
  refine cal_of D sc__law_of (fun vs H Q E ⟨a, c, r, es, h, _⟩ => by rw [h]; rfl) fun f cdv A outer s H vs Q E hr ⟨a, c, r, es, hvs, hr1, hne, hl, hra, dr, q⟩ => ?_
  subst hvs
  refine ⟨_, (pss_one (ps_ret (pe_ix (ix_listK (K := K)) (pv 1) (pe_d c__law_take hr (by decide) (by rfl) (pa_cons (pv 0) (pa_cons (pe_callB (call_lenK (K := K)) (by rfl) Bt.len PySem.boot_len (pa_cons (pv 1) pa_nil)) pa_nil))) (fun _ _ => rfl)))), ?_⟩
  have lp : 0 < es.length := List.length_pos_iff.mpr hne
  refine ⟨_, rfl, _, rfl, _, rfl, r, es, rfl, .inl (SqL.of hr1), a, c, es.length, rfl, by omega, by omega, dr, fun n H1 f1 d1 n0 n1 => ?_⟩
  have hi : n.toNat < es.length := by omega
  have hr2 : H1 r = some (.lst es) := f1 r _ (by simpa using hra) hr1
  refine ⟨r, es, n, es[n.toNat], rfl, rfl, SqL.of hr2, ?_, q _ H1 (List.getElem_mem hi) f1 d1⟩
  have := atI_nat (xs := es) (j := n.toNat) (List.getElem?_eq_getElem hi)
  rw [Int.toNat_of_nonneg n0] at this
  exact this
abbrev s__law_rests : Stmt := topS 68
abbrev N__law_rests : List Str := ["_law_draw", "_law_many", "_law_p", "_law_k"]
theorem sc__law_rests : FnScope N__law_rests ["_law_draw", "_law_many", "_law_p"] (defScope s__law_rests) := ⟨rfl, rfl, rfl, by decide +kernel, rfl, by decide +kernel, by decide +kernel⟩

def p__law_rests : Sp := fun vs H Q _ => ∃ (a c : Addr) (n : Nat) (p : Int), vs = [.ref a, .int n, .int p] ∧ n ≤ 1000 ∧ 0 < p ∧ p ≤ 1000 ∧ DrS a c H ∧ ∀ l xs H', H l = none → Fr [a] H H' → DrS a c H' → H' l = some (.lst (xs.map V.int)) → xs.length = n → Rg p xs → Q (.ref l) H'
theorem ok__law_rests (D : Df K mg "_law_rests" s__law_rests ["_law_draw", "_law_many", "_law_p"]) (Bt : Bts mg) (Gb : Gbs K mg) (c__law_take : Cal P w K mg base 1 "_law_take" p__law_take) : Cal P w K mg base 2 "_law_rests" p__law_rests := by
  refine cal_of D sc__law_rests (fun vs H Q E ⟨a, c, n, p, h, _⟩ => by rw [h]; rfl) fun f cdv A outer s H vs Q E hr ⟨a, c, n, p, hvs, hn, hp0, hp1, dr, q⟩ => ?_
  subst hvs
  refine ⟨_, (pss_one (ps_ret (pe_lc (own := [("_law_k", 3)]) rfl sc__law_rests.nd (pi_range1 (by rfl) Bt.range (pa_cons (pv 1) pa_nil)) (blkOk_by (N := N__law_rests) (sc := defScope s__law_rests) (by decide +kernel)) (fun _ _ _ _ _ => (pg_name (i := 3) sc__law_rests.nd rfl (by first | exact .inl rfl | exact .inr rfl))) (fun _ _ _ _ _ => pts_nil) (fun _ _ _ _ _ => (pe_d c__law_take hr (by decide) (by rfl) (pa_cons (pv 0) (pa_cons (pv 2) pa_nil))))))), ?_⟩
  exact s_retQ (lc_take hn hp0 hp1 dr fun l xs H' a1 a2 a3 a4 a5 a6 => q l xs H' a1 a2 a3 a4 a5 a6)
end
end Rw
end
section
set_option maxRecDepth 100000
set_option maxHeartbeats 4000000
namespace Rw
open PySem PySem.Spec PyProof.Rows L2 Rf
variable {K : PySem.W.Frag}
section
variable {P : Program} {w : World} {mg : Str → Option Value} {base : Heap}
abbrev s__law_level : Stmt := topS 69
abbrev N__law_level : List Str := ["_law_draw", "_law_degree", "_law_p"]
theorem sc__law_level : FnScope N__law_level ["_law_draw", "_law_degree", "_law_p"] (defScope s__law_level) := ⟨rfl, rfl, rfl, by decide +kernel, rfl, by decide +kernel, by decide +kernel⟩

def p__law_level (K : PySem.W.Frag) : Sp := fun vs H Q _ => ∃ (a c : Addr) (n : Nat) (p : Int), vs = [.ref a, .int n, .int p] ∧ n ≤ 100 ∧ PR p ∧ DrS a c H ∧ ∀ v H', Fr [a] H H' → DrS a c H' → LvT K p n v H' → Q v H'
theorem ok__law_level (D : Df K mg "_law_level" s__law_level ["_law_draw", "_law_degree", "_law_p"]) (Bt : Bts mg) (Gb : Gbs K mg) (c__law_rests : Cal P w K mg base 2 "_law_rests" p__law_rests) : Cal P w K mg base 3 "_law_level" (p__law_level K) := by
  refine cal_of D sc__law_level (fun vs H Q E ⟨a, c, n, p, h, _⟩ => by rw [h]; rfl) fun f cdv A outer s H vs Q E hr ⟨a, c, n, p, hvs, hn, hp, dr, q⟩ => ?_
  subst hvs
  have bd := hp.bd
  refine ⟨_, (pss_one (ps_ret (pe_callTy (call_tupK (K := K)) (by rfl) Bt.tuple (by decide +kernel) (pa_cons (pe_op op_cat (pe_d c__law_rests hr (by decide) (by rfl) (pa_cons (pv 0) (pa_cons (pv 1) (pa_cons (pv 2) pa_nil)))) (pe_lst (pa_cons pe_int pa_nil))) pa_nil)))), ?_⟩
  refine ⟨_, rfl, _, rfl, _, rfl, a, c, n, p, rfl, by omega, by omega, by omega, dr, fun l xs H1 n1 f1 d1 e1 lx rx => ?_⟩
  refine ⟨by show 1 ≤ sizeLine; decide, fun r hr1 => ?_⟩
  have s2 : Same H1 (upd H1 r (.lst [.int 1])) := Same.new hr1
  refine ⟨l, r, xs.map V.int, [.int 1], rfl, rfl, s2 _ _ e1, upd_same, by rw [List.length_map, lx]; exact sz_of (by show n + 1 ≤ 100000; omega), fun m hm => ?_⟩
  have s3 : Same (upd H1 r (.lst [.int 1])) (upd (upd H1 r (.lst [.int 1])) m (.lst (xs.map V.int ++ [.int 1]))) := Same.new hm
  refine ⟨m, _, rfl, .inl ⟨SqL.of upd_same, fun t ht => ?_⟩⟩
  have s4 := Same.new (o := .tup (xs.map V.int ++ [V.int 1])) ht
  have sA := (s2.trans s3).trans s4
  refine q _ _ (f1.trans (Fr.of sA)) (d1.fr sA) ⟨xs ++ [1], mo_snoc hp rx, by rw [List.length_append, lx]; rfl, t, rfl, SqT.of ?_⟩
  rw [List.map_append]; exact upd_same
abbrev s__law_great : Stmt := topS 77
abbrev N__law_great : List Str := ["_law_draw", "_law_some"]
theorem sc__law_great : FnScope N__law_great ["_law_draw"] (defScope s__law_great) := ⟨rfl, rfl, rfl, by decide +kernel, rfl, by decide +kernel, by decide +kernel⟩

def MENU : List (Int × Int) := [(2, 12), (2, 11), (2, 9), (3, 12), (3, 8), (5, 6), (5, 10), (7, 6), (11, 5), (13, 4), (31, 4)] ++ [(89, 3), (97, 2), (97, 6), (53, 1), (17, 7)]
def p__law_great : Sp := fun vs H Q _ => ∃ (a c : Addr), vs = [.ref a] ∧ DrS a c H ∧ ∀ v H' x, x ∈ MENU → Fr [a] H H' → DrS a c H' → Ts [x.1, x.2] v H' → Q v H'
theorem ok__law_great (D : Df K mg "_law_great" s__law_great ["_law_draw"]) (Bt : Bts mg) (Gb : Gbs K mg) (c__law_of : Cal P w K mg base 2 "_law_of" (p__law_of K)) : Cal P w K mg base 3 "_law_great" p__law_great := by
  refine cal_of D sc__law_great (fun vs H Q E ⟨a, c, h, _⟩ => by rw [h]; rfl) fun f cdv A outer s H vs Q E hr ⟨a, c, hvs, dr, q⟩ => ?_
  subst hvs
  refine ⟨_, (pss_cons (ps_set (i := 1) sc__law_great.nd rfl (by first | exact .inl rfl | exact .inr rfl) (pe_lst (pa_cons (pe_tup (pa_cons pe_int (pa_cons pe_int pa_nil))) (pa_cons (pe_tup (pa_cons pe_int (pa_cons pe_int pa_nil))) (pa_cons (pe_tup (pa_cons pe_int (pa_cons pe_int pa_nil))) (pa_cons (pe_tup (pa_cons pe_int (pa_cons pe_int pa_nil))) (pa_cons (pe_tup (pa_cons pe_int (pa_cons pe_int pa_nil))) (pa_cons (pe_tup (pa_cons pe_int (pa_cons pe_int pa_nil))) (pa_cons (pe_tup (pa_cons pe_int (pa_cons pe_int pa_nil))) (pa_cons (pe_tup (pa_cons pe_int (pa_cons pe_int pa_nil))) (pa_cons (pe_tup (pa_cons pe_int (pa_cons pe_int pa_nil))) (pa_cons (pe_tup (pa_cons pe_int (pa_cons pe_int pa_nil))) (pa_cons (pe_tup (pa_cons pe_int (pa_cons pe_int pa_nil))) pa_nil)))))))))))))
      (pss_one (ps_ret (pe_d c__law_of hr (by decide) (by rfl) (pa_cons (pv 0) (pa_cons (pe_op op_cat (pv 1) (pe_lst (pa_cons (pe_tup (pa_cons pe_int (pa_cons pe_int pa_nil))) (pa_cons (pe_tup (pa_cons pe_int (pa_cons pe_int pa_nil))) (pa_cons (pe_tup (pa_cons pe_int (pa_cons pe_int pa_nil))) (pa_cons (pe_tup (pa_cons pe_int (pa_cons pe_int pa_nil))) (pa_cons (pe_tup (pa_cons pe_int (pa_cons pe_int pa_nil))) pa_nil))))))) pa_nil)))))), ?_⟩
  have tm : ∀ (l : List (Int × Int)), ∀ d ∈ l.map (fun x => Ts [x.1, x.2]), Mk d := fun l d hd => by
    obtain ⟨x, _, e⟩ := List.mem_map.mp hd
    rw [← e]; exact Ts.mk
  refine q_setD (ds := [(2, 12), (2, 11), (2, 9), (3, 12), (3, 8), (5, 6), (5, 10), (7, 6), (11, 5), (13, 4), (31, 4)].map fun x : Int × Int => Ts [x.1, x.2]) (eld_lst ?_ (by decide)) fun l us H1 n1 s1 e1 a1 => ?_
  · repeat' first | exact ea_nil | refine ea_cons (ev_t2 ev_c ev_c) ?_
  refine s_retQ ?_
  have hl : l ≠ a := fun z => dr.at (by rw [← z]; exact n1)
  refine ⟨_, rfl, ?_⟩
  have key : ElD (tOp rCat (tVar 1) (tLst (tCons (tTup (tCons (tC (.int 89)) (tCons (tC (.int 3)) tNil))) (tCons (tTup (tCons (tC (.int 97)) (tCons (tC (.int 2)) tNil))) (tCons (tTup (tCons (tC (.int 97)) (tCons (tC (.int 6)) tNil))) (tCons (tTup (tCons (tC (.int 53)) (tCons (tC (.int 1)) tNil))) (tCons (tTup (tCons (tC (.int 17)) (tCons (tC (.int 7)) tNil))) tNil))))))) [some (.ref a), some (.ref l)] H1 (MENU.map fun x => Ts [x.1, x.2]) := by
    intro H2 e2 Q2 q2
    refine ⟨_, rfl, ?_⟩
    refine eld_lst (ds := [(89, 3), (97, 2), (97, 6), (53, 1), (17, 7)].map fun x : Int × Int => Ts [x.1, x.2]) (σ := [some (.ref a), some (.ref l)]) (H := H2) ?_ (by decide) H2 (Same.refl _) _ fun p vs H3 hp e3 h3 a3 => ?_
    · repeat' first | exact ea_nil | refine ea_cons (ev_t2 ev_c ev_c) ?_
    refine ⟨l, p, us, vs, rfl, rfl, e3 _ _ (e2 _ _ e1), h3, by rw [a1.len, a3.len]; exact sz_of (by decide), fun m hm => ?_⟩
    have s4 := Same.new (o := .lst (us ++ vs)) hm
    exact q2 m _ _ (e3.free hm) (e3.trans s4) upd_same (All2.app (a1.mono ((e2.trans e3).trans s4) fun d hd => (tm [(2, 12), (2, 11), (2, 9), (3, 12), (3, 8), (5, 6), (5, 10), (7, 6), (11, 5), (13, 4), (31, 4)] d hd).md) (a3.mono s4 fun d hd => (tm [(89, 3), (97, 2), (97, 6), (53, 1), (17, 7)] d hd).md))
  refine key H1 (Same.refl _) _ fun r vs H2 n2 s2 e2 a2 => ?_
  have lv := a2.len
  have d2 := dr.fr (s1.trans s2)
  refine ⟨a, c, r, vs, rfl, e2, fun z => ?_, by rw [lv]; decide, fun z => ?_, d2, fun v H3 hv f3 d3 => ?_⟩
  · rw [z] at lv; cases lv
  · rw [z] at n2
    exact (dr.fr s1).at n2
  · obtain ⟨i, hi⟩ := List.getElem?_of_mem hv
    obtain ⟨d, hd, hdv⟩ := a2.get' hi
    rw [List.getElem?_map] at hd
    cases hx : MENU[i]? with
    | none => rw [hx] at hd; cases hd
    | some x =>
      rw [hx] at hd
      obtain rfl : Ts [x.1, x.2] = d := Option.some.inj hd
      exact q v H3 x (List.mem_of_getElem? hx) ((Fr.of (s1.trans s2)).trans f3) d3 (Ts.mk _ _ _ (d2.tk f3) hdv)
abbrev s__law_great_rule : Stmt := topS 79
abbrev N__law_great_rule : List Str := ["_law_draw", "_law_degree", "_law_p"]
theorem sc__law_great_rule : FnScope N__law_great_rule ["_law_draw", "_law_degree", "_law_p"] (defScope s__law_great_rule) := ⟨rfl, rfl, rfl, by decide +kernel, rfl, by decide +kernel, by decide +kernel⟩

def p__law_great_rule (K : PySem.W.Frag) : Sp := fun vs H Q _ => ∃ (a c : Addr) (n : Nat) (p : Int), vs = [.ref a, .int n, .int p] ∧ PR p ∧ 1 ≤ n ∧ n ≤ 12 ∧ (n = 1 ∨ ∃ w, Wit p n w) ∧ DrS a c H ∧ ∀ v H', Fr [a] H H' → DrS a c H' → LvT K p n v H' → Q v H'
theorem ok__law_great_rule (D : Df K mg "_law_great_rule" s__law_great_rule ["_law_draw", "_law_degree", "_law_p"]) (Bt : Bts mg) (Gb : Gbs K mg) (c_least_whole : CalK P w K mg base 10 "least_whole" 1 (p_least_whole K)) (c__law_take : Cal P w K mg base 1 "_law_take" p__law_take) (c__law_shifted : Cal P w K mg base 3 "_law_shifted" (p__law_shifted K)) : Cal P w K mg base 11 "_law_great_rule" (p__law_great_rule K) := by
  refine cal_of D sc__law_great_rule (fun vs H Q E ⟨a, c, n, p, h, _⟩ => by rw [h]; rfl) fun f cdv A outer s H vs Q E hr ⟨a, c, n, p, hvs, hp, n1, n12, hw, dr, q⟩ => ?_
  subst hvs
  have bd := hp.bd
  refine ⟨_, (pss_one (ps_ret (pe_d c__law_shifted hr (by decide) (by rfl) (pa_cons (pe_dk c_least_whole hr (by decide) (by rfl) (pa_cons (pv 1) pa_nil) (pk_cons (pv 2) pk_nil)) (pa_cons (pe_d c__law_take hr (by decide) (by rfl) (pa_cons (pv 0) (pa_cons (pv 2) pa_nil))) (pa_cons (pv 2) pa_nil)))))), ?_⟩
  refine s_retQ ?_
  refine (ev_callN (ds := fun a : Nat × Int => [isV (.int a.1), isV (.int a.2)]) (ok := fun a : Nat × Int => PR a.2 ∧ 1 ≤ a.1 ∧ a.1 ≤ 12 ∧ (a.1 = 1 ∨ ∃ w, Wit a.2 a.1 w)) (res := fun a : Nat × Int => LvT K a.2 a.1) (E := E0) (σ := [some (.ref a), some (.int n), some (.int p)]) (H := H) (n, p) (ea_cons (ev_i 1 rfl) ea_nil) (ea_cons (ev_i 2 rfl) ea_nil) rfl ⟨hp, n1, n12, hw⟩ LvT.mk.md).run H (Same.refl _) _ fun v1 H1 s1 ⟨r, mo, lr, hv1⟩ => ?_
  have dr1 := dr.fr s1
  refine ⟨_, rfl, _, rfl, a, c, p, rfl, by omega, by omega, dr1, fun k H2 f2 d2 k0 k1 => ?_⟩
  have hv2 := Ti.mk _ _ _ (dr1.tk f2) hv1
  refine ⟨_, rfl, ⟨(r, k, p), ⟨hp, mo.cn.rg, by show r.length ≤ 100; omega⟩, ⟨hv2, rfl, rfl, trivial⟩, fun v3 H3 s3 h3 => ?_⟩⟩
  obtain ⟨m3, l3⟩ := shifted_ok hp mo.one k
  exact q v3 H3 (((Fr.of s1).trans f2).trans (Fr.of s3)) (d2.fr s3) ⟨_, m3, l3.trans lr, h3.ti⟩
/-! witnesses for the menu -/
def WITS : List (Int × Nat × List Int) := [(2, 12, [1, 0, 0, 0, 0, 0, 0, 0, 0, 1, 0, 0]), (2, 11, [1, 0, 0, 0, 0, 0, 0, 0, 0, 1, 0]), (2, 9, [1, 0, 0, 0, 0, 0, 0, 0, 1]), (3, 12, [1, 0, 0, 0, 0, 0, 0, 0, 1, 0, 0, 1]), (3, 8, [1, 0, 0, 0, 0, 1, 1, 0]), (5, 6, [1, 0, 0, 0, 1, 1]), (5, 10, [1, 0, 0, 0, 0, 0, 0, 0, 2, 2]), (7, 6, [1, 0, 0, 0, 1, 0]), (11, 5, [1, 0, 0, 0, 2]), (13, 4, [1, 0, 0, 1]), (31, 4, [1, 0, 0, 1]), (89, 3, [1, 0, 4]), (97, 2, [1, 3]), (97, 6, [1, 0, 0, 0, 0, 7]), (17, 7, [1, 0, 0, 0, 0, 0, 2])]
theorem k_wits : WITS.all (fun x => (x.2.2.all fun a => decide (0 ≤ a ∧ a < x.1)) && decide (x.2.2.length = x.2.1) && standsWhole (x.2.2 ++ [1]) x.1 && decide (vd x.1 (1 :: List.replicate (x.2.1 - 1) 0) ≤ vd x.1 x.2.2)) = true := by decide +kernel
theorem wit_of {x : Int × Nat × List Int} (h : x ∈ WITS) : Wit x.1 x.2.1 x.2.2 := by
  have := List.all_eq_true.mp k_wits x h
  simp only [Bool.and_eq_true, decide_eq_true_eq, List.all_eq_true] at this
  exact ⟨fun a ha => this.1.1.1 a ha, this.1.1.2, this.1.2, this.2⟩
theorem menu_ok : ∀ x ∈ MENU, PR x.1 ∧ 1 ≤ x.2 ∧ x.2 ≤ 12 ∧ (x.2.toNat = 1 ∨ ∃ w, Wit x.1 x.2.toNat w) := by
  have key : MENU.all (fun x => decide (x.1 ∈ Rf.PRIMES) && decide (1 ≤ x.2) && decide (x.2 ≤ 12) && (decide (x.2.toNat = 1) || WITS.any fun y => decide (y.1 = x.1) && decide (y.2.1 = x.2.toNat))) = true := by decide +kernel
  intro x hx
  have := List.all_eq_true.mp key x hx
  simp only [Bool.and_eq_true, Bool.or_eq_true, decide_eq_true_eq, List.any_eq_true] at this
  refine ⟨this.1.1.1, this.1.1.2, this.1.2, ?_⟩
  rcases this.2 with z | ⟨y, hy, h1, h2⟩
  · exact .inl z
  · refine .inr ⟨y.2.2, ?_⟩
    rw [← h1, ← h2]; exact wit_of hy
end
end Rw
end
section
set_option maxRecDepth 100000
set_option maxHeartbeats 4000000
namespace Rw
open PySem PySem.Spec PyProof.Rows L2 Rf
variable {K : PySem.W.Frag}
section
variable {σ : L2.St} {H H' : Hp} {ta tb tc td ty tv te tl : TE} {D : Ends} {tz : L2.TS} {P0 : PV}
theorem ev_isi {n : String} {t : Value} {b : Bool} (ha : Ev ta σ H P0) (hp : ∀ v H, P0 v H → TyX K H v t) (hk : PySem.W.kitOne K t (.type n) = some b) : Ev (tCB (rIsi K) (tCons ta (tCons (tC (.ty n)) tNil))) σ H (isV (.bl b)) :=
  ⟨md_isV, fun H1 e Q q => ha.run H1 e _ fun x H2 e2 p => ⟨x, .ty n, t, .type n, b, rfl, .ty n, hp _ _ p, hk, q _ H2 e2 rfl⟩⟩
theorem ev_isiT {t : Value} {b : Bool} (ha : Ev ta σ H P0) (hp : ∀ v H, P0 v H → TyX K H v t) (hk : PySem.W.kitAny K t [.type "list", .type "tuple"] = some b) : Ev (tCB (rIsiT K) (tCons ta (tCons (tTup (tCons (tC (.ty "list")) (tCons (tC (.ty "tuple")) tNil))) tNil))) σ H (isV (.bl b)) :=
  ⟨md_isV, fun H1 e Q q => ha.run H1 e _ fun x H2 e2 p => ⟨by show 2 ≤ sizeLine; decide, fun r hr => by
    have sn : Same H2 (upd H2 r (.tup [.ty "list", .ty "tuple"])) := Same.new hr
    exact ⟨x, r, [.ty "list", .ty "tuple"], t, [.type "list", .type "tuple"], b, rfl, upd_same, .cons (.ty _) (.cons (.ty _) .nil), hp _ _ (ha.md _ _ _ sn p), hk, q _ _ (e2.trans sn) rfl⟩⟩⟩
theorem tyx_int {i : Int} : ∀ v H, isV (.int i) v H → TyX K H v (.type "int") := fun v H h => by rw [show v = _ from h]; exact .base (.int i)
theorem tyx_ts {xs : List Int} : ∀ v H, Ts xs v H → TyX K H v (.type "tuple") := fun v H ⟨a, h1, h2⟩ => by rw [h1]; exact .base (.tup h2)
theorem tyx_lds {ds : List PV} : ∀ v H, Lds ds v H → TyX K H v (.type "list") := fun v H ⟨a, us, h1, h2, _⟩ => by rw [h1]; exact .base (.lst h2)
theorem tyx_tds {ds : List PV} : ∀ v H, Tds ds v H → TyX K H v (.type "tuple") := fun v H ⟨a, us, h1, h2, _⟩ => by rw [h1]; exact .base (.tup h2)
theorem ev_eqI {x y : Int} (ha : Ev ta σ H (isV (.int x))) (hb : Ev tb σ H (isV (.int y))) : Ev (tOp (rEqD K) ta tb) σ H (isV (.bl (decide (x = y)))) :=
  ev_op md_isV ha hb fun u v H1 _ p1 p2 Q q => ⟨.int x, .int y, by rw [show u = _ from p1]; exact .int x, by rw [show v = _ from p2]; exact .int y, by unfold SeqAt.shaped; rw [PyData.canLay0, PyData.depth]; rfl, by unfold SeqAt.shaped; rw [PyData.canLay0, PyData.depth]; rfl, q _ H1 (Same.refl _) (by
    rw [PyData.eqv]
    show V.bl _ = V.bl _
    congr 1)⟩
end
section
variable {P : Program} {w : World} {mg : Str → Option Value} {base : Heap}
abbrev s__law_same : Stmt := topS 65
abbrev N__law_same : List Str := ["_law_found", "_law_due", "_law_one", "_law_other"]
theorem sc__law_same : FnScope N__law_same ["_law_found", "_law_due"] (defScope s__law_same) := ⟨rfl, rfl, rfl, by decide +kernel, rfl, by decide +kernel, by decide +kernel⟩

def p__same0 : Sp := Pf (fun a : Int × Int => [isV (.int a.1), isV (.int a.2)]) (fun _ => True) (fun a => isV (.bl (decide (a.1 = a.2))))
theorem ok__same0 (D : Df K mg "_law_same" s__law_same ["_law_found", "_law_due"]) (Bt : Bts mg) (Gb : Gbs K mg) : Cal P w K mg base 1 "_law_same" p__same0 := by
  refine cal_of D sc__law_same (fun vs H Q E ⟨a, _, h, _⟩ => h.len) fun f cdv A outer s H vs Q E hr ⟨⟨x, y⟩, _, hds, q⟩ => ?_
  dsimp only at *
  obtain ⟨x1, x2, rfl, rfl, rfl⟩ := all2_2 hds
  refine ⟨_, (pss_cons (ps_if (pt_val (pe_callB (call_isiTK (K := K)) (by rfl) Bt.isinstance (by decide +kernel) (pa_cons (pv 1) (pa_cons (pe_tup (pa_cons (pe_bltn (v := .ty "list") (u := .type "list") (by rfl) Bt.list (by decide +kernel) rfl) (pa_cons (pe_bltn (v := .ty "tuple") (u := .type "tuple") (by rfl) Bt.tuple (by decide +kernel) rfl) pa_nil))) pa_nil)))) pss_never pss_nil)
      (pss_cons (ps_if (pt_cmp (pc_isN (pv 1))) (pss_one (ps_ret (pe_cmp (pc_isN (pv 0))))) pss_nil)
      (pss_cons (ps_if ((pw_or (pt_cmpR op_ne (pe_callB (call_isiK (K := K)) (by rfl) Bt.isinstance (by decide +kernel) (pa_cons (pv 0) (pa_cons (pe_bltn (v := .ty "bool") (u := .type "bool") (by rfl) Bt.bool (by decide +kernel) rfl) pa_nil))) (pe_callB (call_isiK (K := K)) (by rfl) Bt.isinstance (by decide +kernel) (pa_cons (pv 1) (pa_cons (pe_bltn (v := .ty "bool") (u := .type "bool") (by rfl) Bt.bool (by decide +kernel) rfl) pa_nil))) (nomark _)) (pw_or1 (pt_cmpR op_ne (pe_callB (call_isiK (K := K)) (by rfl) Bt.isinstance (by decide +kernel) (pa_cons (pv 0) (pa_cons (pe_bltn (v := .ty "int") (u := .type "int") (by rfl) Bt.int (by decide +kernel) rfl) pa_nil))) (pe_callB (call_isiK (K := K)) (by rfl) Bt.isinstance (by decide +kernel) (pa_cons (pv 1) (pa_cons (pe_bltn (v := .ty "int") (u := .type "int") (by rfl) Bt.int (by decide +kernel) rfl) pa_nil))) (nomark _))))).pt (pss_one (ps_ret pe_bl)) pss_nil)
      (pss_one (ps_ret (pe_and (pe_cmpR op_eq (pe_callB (call_isiK (K := K)) (by rfl) Bt.isinstance (by decide +kernel) (pa_cons (pv 0) (pa_cons (pe_bltn (v := .ty "str") (u := .type "str") (by rfl) Bt.str (by decide +kernel) rfl) pa_nil))) (pe_callB (call_isiK (K := K)) (by rfl) Bt.isinstance (by decide +kernel) (pa_cons (pv 1) (pa_cons (pe_bltn (v := .ty "str") (u := .type "str") (by rfl) Bt.str (by decide +kernel) rfl) pa_nil))) (nomark _)) (pe_one (pe_cmpR (op_eqDK (K := K) hr.units) (pv 0) (pv 1) (nomark _))))))))), ?_⟩
  refine q_when (b := false) (et_test (ev_isiT (ev_i 1 rfl) tyx_int (by rfl))) (fun h => by cases h) (fun _ H1 s1 => ?_)
  refine q_when (b := false) (fun H2 e Q2 q2 => ⟨_, rfl, false, rfl, q2 H2 (Same.refl _)⟩) (fun h => by cases h) (fun _ H2 s2 => ?_)
  refine q_when (b := false) (EvT.is (et_or (et_test (ev_ne (x := .bl false) (y := .bl false) rfl (ev_isi (ev_i 0 rfl) tyx_int (by rfl)) (ev_isi (ev_i 1 rfl) tyx_int (by rfl)))) fun _ => et_test (ev_ne (x := .bl true) (y := .bl true) rfl (ev_isi (ev_i 0 rfl) tyx_int (by rfl)) (ev_isi (ev_i 1 rfl) tyx_int (by rfl)))) (by simp)) (fun h => by cases h) (fun _ H3 s3 => ?_)
  refine s_ret (ev_andV (a := true) (Ev.is (ev_eq (x := .bl false) (y := .bl false) rfl (ev_isi (ev_i 0 rfl) tyx_int (by rfl)) (ev_isi (ev_i 1 rfl) tyx_int (by rfl))) (by simp)) fun _ => ev_eqI (ev_i 0 rfl) (ev_i 1 rfl)) fun v H4 s4 h4 => q v H4 (((s1.trans s2).trans s3).trans s4) ?_
  rw [Bool.true_and] at h4; exact h4
def p__sameT : Sp := Pf (fun a : List Int × List Int => [Ts a.1, Ts a.2]) (fun a => a.1.length ≤ 1000) (fun a => isV (.bl (decide (a.1 = a.2))))
theorem zip_eq : ∀ (xs ys : List Int), xs.length = ys.length → (List.zipWith (fun x y => decide (x = y)) xs ys).all id = decide (xs = ys)
  | [], [], _ => by simp
  | [], _ :: _, h => by simp at h
  | _ :: _, [], h => by simp at h
  | x :: xs, y :: ys, h => by
    rw [List.zipWith_cons_cons, List.all_cons, zip_eq xs ys (by simpa using h)]
    by_cases e : x = y
    · subst e; simp
    · simp [e]
theorem ok__sameT (D : Df K mg "_law_same" s__law_same ["_law_found", "_law_due"]) (Bt : Bts mg) (Gb : Gbs K mg) (c__law_same : Cal P w K mg base 1 "_law_same" p__same0) : Cal P w K mg base 2 "_law_same" p__sameT := by
  refine cal_of D sc__law_same (fun vs H Q E ⟨a, _, h, _⟩ => h.len) fun f cdv A outer s H vs Q E hr ⟨⟨xs, ys⟩, hl, hds, q⟩ => ?_
  dsimp only at *
  obtain ⟨x1, x2, rfl, hx, hy⟩ := all2_2 hds
  refine ⟨_, (pss_cons (ps_if (pt_val (pe_callB (call_isiTK (K := K)) (by rfl) Bt.isinstance (by decide +kernel) (pa_cons (pv 1) (pa_cons (pe_tup (pa_cons (pe_bltn (v := .ty "list") (u := .type "list") (by rfl) Bt.list (by decide +kernel) rfl) (pa_cons (pe_bltn (v := .ty "tuple") (u := .type "tuple") (by rfl) Bt.tuple (by decide +kernel) rfl) pa_nil))) pa_nil)))) (pss_cons (ps_if ((pw_or (pt_cmpR op_ne (pe_callB (call_isiK (K := K)) (by rfl) Bt.isinstance (by decide +kernel) (pa_cons (pv 0) (pa_cons (pe_bltn (v := .ty "list") (u := .type "list") (by rfl) Bt.list (by decide +kernel) rfl) pa_nil))) (pe_callB (call_isiK (K := K)) (by rfl) Bt.isinstance (by decide +kernel) (pa_cons (pv 1) (pa_cons (pe_bltn (v := .ty "list") (u := .type "list") (by rfl) Bt.list (by decide +kernel) rfl) pa_nil))) (nomark _)) (pw_or1 (pt_not (pt_val (pe_callB (call_isiTK (K := K)) (by rfl) Bt.isinstance (by decide +kernel) (pa_cons (pv 0) (pa_cons (pe_tup (pa_cons (pe_bltn (v := .ty "list") (u := .type "list") (by rfl) Bt.list (by decide +kernel) rfl) (pa_cons (pe_bltn (v := .ty "tuple") (u := .type "tuple") (by rfl) Bt.tuple (by decide +kernel) rfl) pa_nil))) pa_nil)))))))).pt (pss_one (ps_ret pe_bl)) pss_nil)
      (pss_one (ps_ret (pe_and (pe_cmpR op_eq (pe_callB (call_lenK (K := K)) (by rfl) Bt.len PySem.boot_len (pa_cons (pv 0) pa_nil)) (pe_callB (call_lenK (K := K)) (by rfl) Bt.len PySem.boot_len (pa_cons (pv 1) pa_nil)) (nomark _)) (pe_one (pe_callB (cr_allK (K := K) rfl) (by rfl) Bt.all (by decide +kernel) (pa_cons (pe_lc (own := [("_law_one", 2), ("_law_other", 3)]) rfl sc__law_same.nd (RZ.pi_zipA (by rfl) Bt.zip (pa_cons (pv 0) (pa_cons (pv 1) pa_nil))) (blkOk_by (N := N__law_same) (sc := defScope s__law_same) (by decide +kernel)) (fun _ _ _ _ _ => (pg_tupK (K := K) (n := 2) rfl (pgs_cons (pg_name (i := 2) sc__law_same.nd rfl (by first | exact .inl rfl | exact .inr rfl)) (pgs_cons (pg_name (i := 3) sc__law_same.nd rfl (by first | exact .inl rfl | exact .inr rfl)) pgs_nil)))) (fun _ _ _ _ _ => pts_nil) (fun _ _ _ _ _ => (pe_d c__law_same hr (by decide) (by rfl) (pa_cons (pv 2) (pa_cons (pv 3) pa_nil))))) pa_nil))))))) pss_nil)
      pss_never), ?_⟩
  refine q_if (b := true) (et_test (ev_isiT (ev_v 1 Ts.mk.md rfl hy) tyx_ts (by rfl))) (fun _ H1 s1 => ?_) (fun h => by cases h)
  have hx := Ts.mk.md _ _ _ s1 hx
  have hy := Ts.mk.md _ _ _ s1 hy
  refine q_when (b := false) (EvT.is (et_or (et_test (ev_ne (x := .bl false) (y := .bl false) rfl (ev_isi (ev_v 0 Ts.mk.md rfl hx) tyx_ts (by rfl)) (ev_isi (ev_v 1 Ts.mk.md rfl hy) tyx_ts (by rfl)))) fun _ => et_not (et_test (ev_isiT (b := true) (ev_v 0 Ts.mk.md rfl hx) tyx_ts (by rfl)))) (by simp)) (fun h => by cases h) (fun _ H2 s2 => ?_)
  have hx := Ts.mk.md _ _ _ s2 hx
  have hy := Ts.mk.md _ _ _ s2 hy
  refine s_ret (ev_andV (ev_eq (x := .int xs.length) (y := .int ys.length) rfl (ev_lenT (ev_v 0 Ts.mk.md rfl hx).ti) (ev_lenT (ev_v 1 Ts.mk.md rfl hy).ti)) fun hlen => ev_all (bs := List.zipWith (fun x y => decide (x = y)) xs ys) ?_) fun v H3 s3 h3 => q v H3 ((s1.trans s2).trans s3) ?_
  · have hll : xs.length = ys.length := by
      have := V.int.inj (of_decide_eq_true hlen)
      omega
    refine eld_lcD _ (ei_zipTI (ev_v 0 Ts.mk.md rfl hx).ti (ev_v 1 Ts.mk.md rfl hy).ti hll) (by omega) (by rw [List.length_map, List.length_zipWith]; omega) bls_mk ?_
    rintro i x H3 d hd s3 ⟨T, y1, y2, ex, hT, h3, h4⟩
    obtain ⟨a, ea, rfl⟩ := nth_int h3
    obtain ⟨b, eb, rfl⟩ := nth_int h4
    subst ex
    rw [List.getElem?_map, List.getElem?_zipWith, ea, eb] at hd
    obtain rfl : isV (.bl (decide (a = b))) = d := Option.some.inj hd
    exact ⟨_, fun k hk => g_pair hT hk, rfl, et_yes, ev_call (ok := fun _ => True) (a, b) (ea_cons (ev_i 2 rfl) (ea_cons (ev_i 3 rfl) ea_nil)) trivial md_isV⟩
  · by_cases hll : xs.length = ys.length
    · rw [zip_eq xs ys hll, decide_eq_true (show V.int xs.length = V.int ys.length by rw [hll]), Bool.true_and] at h3
      exact h3
    · rw [decide_eq_false (show ¬ V.int xs.length = V.int ys.length from fun z => hll (by have := V.int.inj z; omega)), Bool.false_and] at h3
      rw [decide_eq_false (show ¬ xs = ys from fun z => hll (by rw [z]))]; exact h3
section
variable {σ : L2.St} {H : Hp} {ta tb tc td : TE} {E : XK}
theorem ev_same {xs ys : List Int} (ha : Ev ta σ H (Ts xs)) (hb : Ev tb σ H (Ts ys)) (hl : xs.length ≤ 1000) : Ev (tCall p__sameT [] E (tCons ta (tCons tb tNil))) σ H (isV (.bl (decide (xs = ys)))) :=
  ev_call (xs, ys) (ea_cons ha (ea_cons hb ea_nil)) hl md_isV
end
end
end Rw
end
section
set_option maxRecDepth 100000
set_option maxHeartbeats 4000000
namespace Rw
open PySem PySem.Spec PyProof.Rows L2 Rf
variable {K : PySem.W.Frag}
def ksOf (n : Nat) : List Int := Rf.PRIMES.filter fun k => decide ((n : Int) % k = 0)
theorem given_primes (n : Nat) : given 25 (fun i => decide ((n : Int) % (Rf.PRIMES.getD i 0) = 0)) (fun i => isV (.int (Rf.PRIMES.getD i 0))) = (ksOf n).map fun x => isV (.int x) := by
  have h : Rf.PRIMES = (List.range 25).map fun i => Rf.PRIMES.getD i 0 := by decide
  have : ksOf n = ((List.range 25).map fun i => Rf.PRIMES.getD i 0).filter fun k => decide ((n : Int) % k = 0) := by rw [← h]; rfl
  rw [this, given, List.filter_map, List.map_map]
  rfl
theorem paper_facts {one : List Int} {p : Int} (v : Val p one) {turns : List (List Int)} {shows : List (List Int × List Int)} (hpap : Rf.paper one p = .whole turns shows) :
    turns = turnsOf one p ∧ turns.length = one.length - 1 ∧ (∀ t ∈ turns, Cn p t ∧ t.length < one.length) ∧ (∀ s ∈ shows, Rg p s.1 ∧ Rg p s.2 ∧ s.1.length ≤ 25 ∧ s.2.length ≤ 25) ∧ shows.length ≤ 9 := by
  have lo := v.lo
  have hi := v.hi
  have sw : standsWhole (levelled one p) p = true := by
    cases h : standsWhole (levelled one p) p with
    | true => rfl
    | false => rw [Rf.paper, if_neg (by rw [h]; decide)] at hpap; cases hpap
  have hts : turns = turnsOf one p ∧ shows = showsOf one (turnsOf one p) p := by
    rw [Rf.paper, if_pos sw] at hpap
    injection hpap with h1 h2
    exact ⟨h1.symm, h2.symm⟩
  obtain ⟨rfl, hsh⟩ := hts
  obtain ⟨tl, tt⟩ := turns_ok v.ru (by omega)
  have htt : ∀ t ∈ turnsOf one p, Cn p t ∧ t.length < one.length := fun t ht => by
    obtain ⟨i, hi⟩ := List.getElem?_of_mem ht
    exact ⟨(tt i t hi).cn, (tt i t hi).lt⟩
  refine ⟨rfl, tl, htt, fun s hs => ?_, ?_⟩
  · rw [hsh, showsOf] at hs
    obtain ⟨qq, hq, rfl⟩ := List.mem_map.mp hs
    refine show_facts v.ru (by omega) ?_
    rw [List.getD_eq_getElem?_getD]
    cases h : (turnsOf one p)[(one.length - 1) / qq - 1]? with
    | none => exact Nat.zero_le _
    | some t =>
      have := (htt t (List.mem_of_getElem? h)).2
      show t.length ≤ 20
      omega
  · rw [hsh, showsOf, List.length_map]
    exact Nat.le_trans (List.length_filter_le _ _) (by decide)
theorem parts_facts2 {one : List Int} {p : Int} (v : Val p one) {a b : List Int} (hpap : Rf.paper one p = .parts a b) : standsWhole (levelled one p) p = false ∧ a = ((inRank (allParts (levelled one p) p)).headD ([], 0)).1 ∧ Mo p a ∧ a.length ≤ one.length ∧ b.length ≤ one.length := by
  have lo := v.lo
  have hi := v.hi
  have sw : standsWhole (levelled one p) p = false := by
    cases h : standsWhole (levelled one p) p with
    | false => rfl
    | true => rw [Rf.paper, if_pos h] at hpap; cases hpap
  obtain ⟨nd, hbb, e, he0, heD, po⟩ := parts_facts v sw
  have pl := po.lo
  have ph := po.hi
  have hab : a = e.1 ∧ b = (divided one e.1 p).1 := by
    rw [Rf.paper, if_neg (by rw [sw]; decide), ← heD] at hpap
    injection hpap with h1 h2
    exact ⟨h1.symm, h2.symm⟩
  obtain ⟨rfl, hbq⟩ := hab
  have D1 := (div_ok v.pr po.mo.cn po.mo.ne v.cn.rg).l1
  rw [← hbq] at D1
  exact ⟨sw, by rw [← heD], po.mo, by omega, by omega⟩
section
variable {P : Program} {w : World} {mg : Str → Option Value} {base : Heap}
abbrev s__law_walked : Stmt := topS 80
abbrev N__law_walked : List Str := ["_law_one", "_law_told", "_law_p", "_law_many", "_law_word", "_law_first", "_law_second", "_law_good", "_law_here", "_law_turn", "_law_k", "_law_primes_here", "_law_pair", "_law_apart"]
theorem sc__law_walked : FnScope N__law_walked ["_law_one", "_law_told", "_law_p"] (defScope s__law_walked) := ⟨rfl, rfl, rfl, by decide +kernel, rfl, by decide +kernel, by decide +kernel⟩

def p__law_walked (K : PySem.W.Frag) : Sp := Pf (fun a : List Int × Int => [Ti K a.1, PapD (Rf.paper a.1 a.2), isV (.int a.2)]) (fun a => Val a.2 a.1) (fun a => isV (.bl (lWalked a.1 (Rf.paper a.1 a.2) a.2)))
theorem ok__law_walked (D : Df K mg "_law_walked" s__law_walked ["_law_one", "_law_told", "_law_p"]) (Bt : Bts mg) (Gb : Gbs K mg) (c__law_same : Cal P w K mg base 2 "_law_same" p__sameT) (c__law_primes : Cal P w K mg base 1 "_law_primes" p__law_primes) (c__law_blend : Cal P w K mg base 2 "_law_blend" (p__law_blend K)) (c__law_mul : Cal P w K mg base 2 "_law_mul" (p__law_mul K)) (c__law_rem : Cal P w K mg base 3 "_law_rem" (p__law_rem K)) (c__law_lift : Cal P w K mg base 4 "_law_lift" (p__law_lift K)) : Cal P w K mg base 5 "_law_walked" (p__law_walked K) := by
  refine cal_of D sc__law_walked (fun vs H Q E ⟨a, _, h, _⟩ => h.len) fun f cdv A outer s H vs Q E hr ⟨⟨one, p⟩, v, hds, q⟩ => ?_
  dsimp only at *
  obtain ⟨x1, x2, x3, rfl, hx, ht, rfl⟩ := all2_3 hds
  have hp := v.pr
  have bd := hp.bd
  have lo := v.lo
  have hi := v.hi
  refine ⟨_, (pss_cons (ps_set (i := 3) sc__law_walked.nd rfl (by first | exact .inl rfl | exact .inr rfl) (pe_op op_sub (pe_callB (call_lenK (K := K)) (by rfl) Bt.len PySem.boot_len (pa_cons (pv 0) pa_nil)) pe_int))
      (pss_cons (ps_asg (pv 1) (pg_tupK (K := K) (n := 3) rfl (pgs_cons (pg_name (i := 4) sc__law_walked.nd rfl (by first | exact .inl rfl | exact .inr rfl)) (pgs_cons (pg_name (i := 5) sc__law_walked.nd rfl (by first | exact .inl rfl | exact .inr rfl)) (pgs_cons (pg_name (i := 6) sc__law_walked.nd rfl (by first | exact .inl rfl | exact .inr rfl)) pgs_nil)))))
      (pss_cons (ps_if (pt_cmpR op_eq (pv 4) pe_str (nomark _)) (pss_cons (ps_set (i := 7) sc__law_walked.nd rfl (by first | exact .inl rfl | exact .inr rfl) (pe_and (pe_cmpR op_lt pe_int (pe_callB (call_lenK (K := K)) (by rfl) Bt.len PySem.boot_len (pa_cons (pv 5) pa_nil)) (nomark _)) (pe_and (pe_cmpR op_lt pe_int (pe_callB (call_lenK (K := K)) (by rfl) Bt.len PySem.boot_len (pa_cons (pv 6) pa_nil)) (nomark _)) (pe_one (pe_cmpR op_eq (pe_ix (ix_tupK (K := K)) (pv 5) (pe_un un_neg pe_int) (fun _ _ => rfl)) pe_int (nomark _))))))
      (pss_one (ps_ret (pe_and (pv 7) (pe_one (pe_cmpR (op_eqDK (K := K) hr.units) (pe_d c__law_mul hr (by decide) (by rfl) (pa_cons (pv 5) (pa_cons (pv 6) (pa_cons (pv 2) pa_nil)))) (pv 0) (nomark _))))))) pss_nil)
      (pss_cons (ps_if ((pw_or (pt_cmpR op_ne (pv 4) pe_str (nomark _)) (pw_or (pt_not (pt_val (pe_callB (call_isiK (K := K)) (by rfl) Bt.isinstance (by decide +kernel) (pa_cons (pv 5) (pa_cons (pe_bltn (v := .ty "list") (u := .type "list") (by rfl) Bt.list (by decide +kernel) rfl) pa_nil))))) (pw_or (pt_not (pt_val (pe_callB (call_isiK (K := K)) (by rfl) Bt.isinstance (by decide +kernel) (pa_cons (pv 6) (pa_cons (pe_bltn (v := .ty "list") (u := .type "list") (by rfl) Bt.list (by decide +kernel) rfl) pa_nil))))) (pw_or1 (pt_cmpR op_ne (pe_callB (call_lenK (K := K)) (by rfl) Bt.len PySem.boot_len (pa_cons (pv 5) pa_nil)) (pv 3) (nomark _))))))).pt (pss_one (ps_ret pe_bl)) pss_nil)
      (pss_cons (ps_set (i := 8) sc__law_walked.nd rfl (by first | exact .inl rfl | exact .inr rfl) (pe_tup (pa_cons pe_int (pa_cons pe_int pa_nil))))
      (pss_cons (ps_for PassesOwn.never rfl (pi_list (pv 5)) (pg_name (i := 9) sc__law_walked.nd rfl (by first | exact .inl rfl | exact .inr rfl)) (pss_cons (ps_set (i := 8) sc__law_walked.nd rfl (by first | exact .inl rfl | exact .inr rfl) (pe_d c__law_lift hr (by decide) (by rfl) (pa_cons (pv 8) (pa_cons (pv 2) (pa_cons (pv 0) (pa_cons (pv 2) pa_nil))))))
      (pss_one (ps_if (pt_not (pt_val (pe_d c__law_same hr (by decide) (by rfl) (pa_cons (pv 9) (pa_cons (pv 8) pa_nil))))) (pss_one (ps_ret pe_bl)) pss_nil))))
      (pss_cons (ps_setLc (i := 11) (own := [("_law_k", 10)]) rfl sc__law_walked.nd rfl rfl (sw_true rfl rfl rfl (by decide +kernel)) (pi_list (pe_d0 c__law_primes hr (by decide) (by rfl))) (blkOk_by (N := N__law_walked) (sc := defScope s__law_walked) (by decide +kernel)) (fun _ _ _ _ _ => (pg_name (i := 10) sc__law_walked.nd rfl (by first | exact .inl rfl | exact .inr rfl))) (fun _ _ _ _ _ => (pts_one (pt_cmpR op_eq (pe_op op_mod (pv 3) (pv 10)) pe_int (nomark _)))) (fun _ _ _ _ _ => (pv 10)))
      (pss_cons (ps_if ((pw_or (pt_cmpR (op_neDK (K := K) hr.units) (pv 8) (pe_d c__law_rem hr (by decide) (by rfl) (pa_cons (pe_tup (pa_cons pe_int (pa_cons pe_int pa_nil))) (pa_cons (pv 0) (pa_cons (pv 2) pa_nil)))) (nomark _)) (pw_or1 (pt_cmpR op_ne (pe_callB (call_lenK (K := K)) (by rfl) Bt.len PySem.boot_len (pa_cons (pv 6) pa_nil)) (pe_callB (call_lenK (K := K)) (by rfl) Bt.len PySem.boot_len (pa_cons (pv 11) pa_nil)) (nomark _))))).pt (pss_one (ps_ret pe_bl)) pss_nil)
      (pss_cons (ps_for PassesOwn.never rfl (RZ.pi_zipA (by rfl) Bt.zip (pa_cons (pv 11) (pa_cons (pv 6) pa_nil))) (pg_tupK (K := K) (n := 2) rfl (pgs_cons (pg_name (i := 10) sc__law_walked.nd rfl (by first | exact .inl rfl | exact .inr rfl)) (pgs_cons (pg_name (i := 12) sc__law_walked.nd rfl (by first | exact .inl rfl | exact .inr rfl)) pgs_nil))) (pss_cons (ps_set (i := 13) sc__law_walked.nd rfl (by first | exact .inl rfl | exact .inr rfl) (pe_d c__law_blend hr (by decide) (by rfl) (pa_cons (pe_ix (ix_listK (K := K)) (pv 5) (pe_op op_sub (pe_op op_fdiv (pv 3) (pv 10)) pe_int) (fun _ _ => rfl)) (pa_cons (pe_tup (pa_cons pe_int (pa_cons pe_int pa_nil))) (pa_cons (pe_op op_sub (pv 2) pe_int) (pa_cons (pv 2) pa_nil))))))
      (pss_one (ps_if (pt_cmpR (op_neDK (K := K) hr.units) (pe_d c__law_blend hr (by decide) (by rfl) (pa_cons (pe_d c__law_mul hr (by decide) (by rfl) (pa_cons (pe_ix (ix_tupK (K := K)) (pv 12) pe_int (fun _ _ => rfl)) (pa_cons (pv 13) (pa_cons (pv 2) pa_nil)))) (pa_cons (pe_d c__law_mul hr (by decide) (by rfl) (pa_cons (pe_ix (ix_tupK (K := K)) (pv 12) pe_int (fun _ _ => rfl)) (pa_cons (pv 0) (pa_cons (pv 2) pa_nil)))) (pa_cons pe_int (pa_cons (pv 2) pa_nil))))) (pe_tup (pa_cons pe_int pa_nil)) (nomark _)) (pss_one (ps_ret pe_bl)) pss_nil))))
      (pss_one (ps_ret pe_bl))))))))))), ?_⟩
  obtain ⟨n, hn⟩ : ∃ n, one.length - 1 = n := ⟨_, rfl⟩
  refine q_set (P := isV (.int n)) (Ev.is (ev_I0 (ev_lenT (ev_v 0 Ti.mono rfl hx)) ev_c) (by congr 1; omega)) fun u H1 s1 h1 => ?_
  obtain rfl := h1
  have hx := Ti.mono _ _ _ s1 hx
  cases hpap : Rf.paper one p with
  | parts a b =>
    rw [hpap] at ht q
    obtain ⟨sw, ha, mo, la, lb⟩ := parts_facts2 v hpap
    have m3 : ∀ d ∈ [isV (.str "parts"), Ts a, Ts b], Md d := fun d hd => by
      rcases List.mem_cons.mp hd with z | hd
      · rw [z]; exact md_isV
      · exact tsts_md d hd
    have ht1 := Tds.mono m3 _ _ _ s1 ht
    refine s_set3 ((ev_v 1 (Tds.mono m3) rfl ht1).tdd m3) fun u v4 v5 H3 s3 h3 h4 h5 => ?_
    obtain rfl := h3
    have hx := Ti.mono _ _ _ s3 hx
    refine q_when (b := true) (EvT.is (et_test (ev_eq (x := .str "parts") (y := .str "parts") rfl (ev_i 4 rfl) ev_c)) (by simp)) (fun _ H4 s4 => ?_) (fun hb => by cases hb)
    have hx := Ti.mono _ _ _ s4 hx
    have h4 := Ts.mk.md _ _ _ s4 h4
    have h5 := Ts.mk.md _ _ _ s4 h5
    refine q_set (P := isV (.bl (decide ((1 : Int) < a.length) && (decide ((1 : Int) < b.length) && decide (V.int (a.getLastD 0) = V.int 1))))) (ev_andV (ev_I0 ev_c (ev_lenT (ev_v 5 Ts.mk.md rfl h4).ti)) fun _ => ev_andV (ev_I0 ev_c (ev_lenT (ev_v 6 Ts.mk.md rfl h5).ti)) fun _ => ev_eq rfl (ev_lastTI (ev_v 5 Ts.mk.md rfl h4).ti (ev_neg ev_c) (last_of mo.ne)) ev_c) fun v6 H5 s5 h6 => ?_
    obtain rfl := h6
    have hx := Ti.mono _ _ _ s5 hx
    have h4 := Ts.mk.md _ _ _ s5 h4
    have h5 := Ts.mk.md _ _ _ s5 h5
    refine s_ret (ev_andV (ev_i 7 rfl) fun _ => ev_eqT (ev_lmul (ev_v 5 Ts.mk.md rfl h4).ti (ev_v 6 Ts.mk.md rfl h5).ti (ev_i 2 rfl) hp mo.cn.rg (by omega) (by omega)).ti (ev_v 0 Ti.mono rfl hx)) fun v7 H6 s6 h7 => q v7 H6 ((((s1.trans s3).trans s4).trans s5).trans s6) ?_
    have d1 : decide ((1 : Int) < a.length) = decide (1 < a.length) := decide_eq_decide.mpr (by omega)
    have d2 : decide ((1 : Int) < b.length) = decide (1 < b.length) := decide_eq_decide.mpr (by omega)
    have d3 : decide (V.int (a.getLastD 0) = V.int 1) = decide (a.getLastD 0 = 1) := decide_eq_decide.mpr ⟨fun h => V.int.inj h, fun h => by rw [h]⟩
    rw [d1, d2, d3, ← Bool.and_assoc] at h7
    exact h7
  | whole turns shows =>
    rw [hpap] at ht q
    obtain ⟨_, tl, htt, hss, hsl⟩ := paper_facts v hpap
    have mT : ∀ d ∈ turns.map Ts, Md d := fun d hd => (ts_md d hd).md
    have mS : ∀ d ∈ shows.map Sd, Md d := fun d hd => (sd_mk d hd).md
    have m3 : ∀ d ∈ [isV (.str "whole"), Lds (turns.map Ts), Lds (shows.map Sd)], Md d := fun d hd => by
      rcases List.mem_cons.mp hd with z | hd
      · rw [z]; exact md_isV
      rcases List.mem_cons.mp hd with z | hd
      · rw [z]; exact Lds.mono mT
      · rw [List.mem_singleton.mp hd]; exact Lds.mono mS
    have ht1 := Tds.mono m3 _ _ _ s1 ht
    refine s_set3 ((ev_v 1 (Tds.mono m3) rfl ht1).tdd m3) fun u v4 v5 H3 s3 h3 h4 h5 => ?_
    obtain rfl := h3
    have hx := Ti.mono _ _ _ s3 hx
    refine q_when (b := false) (EvT.is (et_test (ev_eq (x := .str "whole") (y := .str "parts") rfl (ev_i 4 rfl) ev_c)) (by decide)) (fun hb => by cases hb) (fun _ H4 s4 => ?_)
    have h4 := Lds.mono mT _ _ _ s4 h4
    have h5 := Lds.mono mS _ _ _ s4 h5
    refine q_when (b := false) (EvT.is (et_or (et_test (ev_ne (x := .str "whole") (y := .str "whole") rfl (ev_i 4 rfl) ev_c)) fun _ => et_or (et_not (et_test (ev_isi (b := true) (ev_v 5 (Lds.mono mT) rfl h4) tyx_lds (by rfl)))) fun _ => et_or (et_not (et_test (ev_isi (b := true) (ev_v 6 (Lds.mono mS) rfl h5) tyx_lds (by rfl)))) fun _ => et_test (ev_ne (x := .int turns.length) (y := .int n) rfl (Ev.is (ev_lenLD ((ev_v 5 (Lds.mono mT) rfl h4).to (Ld.mono mT) fun _ _ h => h.ld)) (by rw [List.length_map])) (ev_i 3 rfl))) (by rw [tl, hn]; simp)) (fun hb => by cases hb) (fun _ H5 s5 => ?_)
    have s45 := s4.trans s5
    have hx := Ti.mono _ _ _ s45 hx
    obtain ⟨a, tv, rfl, ha, hta⟩ := h4
    obtain ⟨b, sv, rfl, hb, hsb⟩ := h5
    have ha := s5 _ _ ha
    have hta := hta.mono s5 mT
    have hb := s5 _ _ hb
    have hsb := hsb.mono s5 mS
    refine q_set (ev_t2 (z := 0) (y := 1) ev_c ev_c) fun v8 H6 s6 h8 => ?_
    have hx := Ti.mono _ _ _ s6 hx
    have ha := s6 _ _ ha
    have hta := hta.mono s6 mT
    have hb := s6 _ _ hb
    have hsb := hsb.mono s6 mS
    have sm6 : Same H H6 := ((s1.trans s3).trans s45).trans s6
    have hW : ∀ r, lWalked one (.whole turns shows) p = r → (match lwL one p [0, 1] turns with
      | none => false
      | some here => if here ≠ lRem [0, 1] one p ∨ shows.length ≠ (ksOf n).length then false else ((ksOf n).zip shows).all fun x => lShow one turns p x.1 x.2) = r := fun r h => by
      rw [← h, lWalked, if_neg (by rw [tl]; simp), ksOf, ← hn]
      all_goals (cases lwL one p [0, 1] turns <;> rfl)
    refine q_forM (ei_lst (ev_i 5 rfl) (SqL.of ha) hta ts_md) [] (fun _ h => (by cases h)) (fun _ h => (by cases h)) (fun i σ' H' => ∃ (here : List Int) (v8 : V) (c9 : Option V), σ' = [some x1, some x2, some (.int p), some (.int n), some (.str "whole"), some (.ref a), some (.ref b), none, some v8, c9, none, none, none, none] ∧ Same H6 H' ∧ Ts here v8 H' ∧ Rg p here ∧ here.length ≤ 20 ∧ lwL one p here (turns.drop i) = lwL one p [0, 1] turns)
      (fun B e => ⟨_, v8, _, rfl, e, Ts.mk.md _ _ _ e h8, (Cn.X hp).rg, by decide, rfl⟩) ?_ ?_
    · rintro T kp i σ' H' hi' hT ⟨here, v8, c9, rfl, sm, hh, rh, lh, eq⟩ x H'' s7 hx7 hT2
      rw [List.length_map] at hi'
      obtain ⟨t, ht', htv⟩ := nth_map hx7
      rw [List.drop_eq_getElem_cons hi', (List.getElem?_eq_some_iff.mp ht').2, lwL] at eq
      have hl := lLift_ok v.ru rh (e := p) (by omega) (by omega)
      have hll := hl.lt
      have htl := (htt t (List.mem_of_getElem? ht')).2
      refine q_set (ev_llift (ev_v 8 Ts.mk.md rfl (Ts.mk.md _ _ _ s7 hh)).ti (ev_i 2 rfl) (ev_v 0 Ti.mono rfl (Ti.mono _ _ _ (sm.trans s7) hx)) (ev_i 2 rfl) v.ru rh (by omega) (by omega) (by omega)) fun v9 H8 s8 h9 => ?_
      refine s_when (et_not (et_test (ev_same (ev_v 9 Ts.mk.md rfl (Ts.mk.md _ _ _ s8 htv)) (ev_v 8 Ts.mk.md rfl h9) (by omega)))) (fun hb H9 s9 => ?_) (fun hb H9 s9 => ?_)
      · rw [if_neg (by simpa using hb)] at eq
        refine s_ret ev_c fun w H10 s10 h10 => q w H10 (((((sm6.trans sm).trans s7).trans s8).trans s9).trans s10) ?_
        rw [← hW _ rfl, ← eq]; exact h10
      · rw [if_pos (by simpa using hb)] at eq
        exact ⟨kp.same _ _ (s8.trans s9) hT2, _, v9, _, rfl, ((sm.trans s7).trans s8).trans s9, Ts.mk.md _ _ _ s9 h9, hl.cn.rg, by omega, eq⟩
    · rintro σ' H' fr ⟨here, v8, c9, rfl, sm, hh, rh, lh, eq⟩
      rw [List.length_map, List.drop_eq_nil_of_le (Nat.le_refl _), lwL] at eq
      have hx := Ti.mono _ _ _ sm hx
      have ha := sm _ _ ha
      have hta := hta.mono sm mT
      have hb := sm _ _ hb
      have hsb := hsb.mono sm mS
      have sp : ElD (tLc (iList K (tCall p__law_primes [] E0 tNil)) (gName 10) (tTest (tOp rEq (tOp (rI (fun x j => 0 < j) fun i j => .int (i % j)) (tVar 3) (tVar 10)) (tC (.int 0)))) (tVar 10) [10]) [some x1, some x2, some (.int p), some (.int n), some (.str "whole"), some (.ref a), some (.ref b), none, some v8, c9, none, none, none, none] H' ((ksOf n).map fun x => isV (.int x)) := by
        rw [← given_primes]
        refine eld_lc (n := 25) (ei_new (ds := Rf.PRIMES.map fun x => isV (.int x)) (ev_callL () ea_nil trivial) ints_mk) (by decide) _ _ (fun _ _ => mk_isV) ?_
        intro i x H2 hi2 s2 hx2
        obtain ⟨z, hz, rfl⟩ := nth_int hx2
        rw [getD_of hz]
        have hq : PR z := List.mem_of_getElem? hz
        have hqb := hq.bd
        refine ⟨_, fun k hk => hk, rfl, EvT.is (et_test (ev_eq rfl (ev_I (show (0 : Int) < z by omega) (ev_i 3 rfl) (ev_i 10 rfl)) ev_c)) (by simp), fun _ => ev_i 10 rfl⟩
      refine q_setL sp.ints fun l H7 n7 s7 e7 => ?_
      have hx := Ti.mono _ _ _ s7 hx
      have ha := s7 _ _ ha
      have hta := hta.mono s7 mT
      have hb := s7 _ _ hb
      have hsb := hsb.mono s7 mS
      have hh := Ts.mk.md _ _ _ s7 hh
      have hks : ∀ k ∈ ksOf n, PR k ∧ (n : Int) % k = 0 := fun k hk => by
        obtain ⟨h1, h2⟩ := List.mem_filter.mp hk
        exact ⟨h1, of_decide_eq_true h2⟩
      have lksmax : (ksOf n).length ≤ 25 := List.length_filter_le _ _
      generalize hF : ksOf n = F at *
      rw [← eq] at hW
      simp only [] at hW
      refine q_when (b := (!decide (here = lRem [0, 1] one p)) || !decide (V.int shows.length = V.int F.length)) (et_or (et_test (ev_neT (ev_v 8 Ts.mk.md rfl hh).ti (ev_lrem (ev_t2 (z := 0) (y := 1) ev_c ev_c).ti (ev_v 0 Ti.mono rfl hx) (ev_i 2 rfl) v.ru (by simp) (by omega)).ti)) fun _ => et_test (ev_ne rfl (Ev.is (ev_lenLD (ev_v 6 (Ld.mono mS) rfl ⟨b, sv, rfl, SqL.of hb, hsb⟩)) (by rw [List.length_map])) (ev_lenL (ev_v 11 Li.mono rfl (li_of e7))))) (fun hbb H8 s8 => ?_) (fun hbb H8 s8 => ?_)
      · refine s_ret ev_c fun w H9 s9 h9 => q w H9 ((((sm6.trans sm).trans s7).trans s8).trans s9) ?_
        rw [← hW _ rfl, if_pos]
        · exact h9
        · rcases Bool.or_eq_true_iff.mp hbb with z | z
          · exact .inl (by simpa using z)
          · refine .inr fun y => ?_
            rw [y] at z; simp at z
      rw [Bool.or_eq_false_iff] at hbb
      have hhe : here = lRem [0, 1] one p := by simpa using hbb.1
      have hsl2 : shows.length = F.length := by
        have := hbb.2
        simp at this; omega
      have hc : ¬ (here ≠ lRem [0, 1] one p ∨ shows.length ≠ F.length) := by
        rintro (z | z)
        · exact z hhe
        · exact z hsl2
      have hx := Ti.mono _ _ _ s8 hx
      have ha := s8 _ _ ha
      have hta := hta.mono s8 mT
      have hb := s8 _ _ hb
      have hsb := hsb.mono s8 mS
      refine q_forM (ei_zipL (ds := F.map fun x => isV (.int x)) (ev_i 11 rfl) (ev_i 6 rfl) (SqL.of (s8 _ _ e7)) (SqL.of hb) (all2_ints.mpr rfl) hsb ints_mk sd_mk (by rw [List.length_map, List.length_map, hsl2])) [] (fun _ h => (by cases h)) (fun _ h => (by cases h)) (fun i σ' H' => ∃ c9 c10 c12 c13 : Option V, σ' = [some x1, some x2, some (.int p), some (.int n), some (.str "whole"), some (.ref a), some (.ref b), none, some v8, c9, c10, some (.ref l), c12, c13] ∧ Same H8 H' ∧ ((F.zip shows).drop i).all (fun x => lShow one turns p x.1 x.2) = (F.zip shows).all fun x => lShow one turns p x.1 x.2)
        (fun B e => ⟨_, _, _, _, rfl, e, rfl⟩) ?_ ?_
      · rintro T kp i σ' H9 hi' hT ⟨c9, c10, c12, c13, rfl, sm9, eq9⟩ x H10 s10 ⟨T0, y1, y2, ex, hT0, h3, h4⟩ hT2
        rw [List.length_map] at hi'
        obtain ⟨z, hz, rfl⟩ := nth_int h3
        obtain ⟨sh, hsh, hsd⟩ := nth_map h4
        subst ex
        refine g_pair hT0 ?_
        have hkz := hks z (List.mem_of_getElem? hz)
        have hqb := hkz.1.bd
        have hss' := hss sh (List.mem_of_getElem? hsh)
        have ez : (F.zip shows).drop i = (z, sh) :: (F.zip shows).drop (i + 1) := by
          rw [List.drop_eq_getElem_cons (by rw [List.length_zip]; omega), List.getElem_zip, (List.getElem?_eq_some_iff.mp hz).2, (List.getElem?_eq_some_iff.mp hsh).2]
        rw [ez, List.all_cons] at eq9
        obtain ⟨q', rfl⟩ : ∃ q' : Nat, z = (q' : Int) := ⟨z.toNat, by omega⟩
        have hm : n % q' = 0 := by have := hkz.2; omega
        have hdiv : 1 ≤ n / q' := by
          rcases Nat.lt_or_ge n q' with y | y
          · rw [Nat.mod_eq_of_lt y] at hm; omega
          · exact (Nat.one_le_div_iff (by omega)).mpr y
        have hdl : n / q' ≤ n := Nat.div_le_self _ _
        have hix : n / q' - 1 < turns.length := by omega
        have htu : turns[n / q' - 1]? = some (turns.getD (n / q' - 1) []) := by rw [List.getD_eq_getElem?_getD, List.getElem?_eq_getElem hix]; rfl
        have htl2 := (htt _ (List.mem_of_getElem? htu)).2
        have hld : Ld K (turns.map Ts) (.ref a) H10 := ⟨a, tv, rfl, SqL.of (s10 _ _ (sm9 _ _ ha)), hta.mono (sm9.trans s10) mT⟩
        have hx10 := Ti.mono _ _ _ (sm9.trans s10) hx
        have lb := len_blended (p := p) (turns.getD (n / q' - 1) []) [0, 1] (p - 1)
        have ll : (lBlend (turns.getD (n / q' - 1) []) [0, 1] (p - 1) p).length ≤ 50 := by
          show (blended _ _ _ _).length ≤ 50
          rw [show ([0, 1] : List Int).length = 2 from rfl] at lb
          omega
        refine q_set (ev_lblend (wt := p - 1) (ev_ixL (n := n / q' - 1) (ev_v 5 ldm rfl hld) (Ev.is (ev_I0 (ev_I ⟨by omega, by omega⟩ (ev_i 3 rfl) (ev_i 10 rfl)) ev_c) (by congr 1; omega)) (by rw [List.getElem?_map, htu]; rfl) Ts.mk.md).ti (ev_t2 (z := 0) (y := 1) ev_c ev_c).ti (ev_I0 (ev_i 2 rfl) ev_c) (ev_i 2 rfl) (by omega) (by omega) (by simp) (by omega) (by omega)) fun v13 H11 s11 h13 => ?_
        have lm1 := (lmul_cn hp sh.1 (lBlend (turns.getD (n / q' - 1) []) [0, 1] (p - 1) p)).2
        have lm2 := (lmul_cn hp sh.2 one).2
        have hsd11 := Sd.mk.md _ _ _ s11 hsd
        have hx11 := Ti.mono _ _ _ s11 hx10
        have sd2 : ∀ d ∈ [Ts sh.1, Ts sh.2], Md d := tsts_md
        refine s_when (b := !lShow one turns p (q' : Int) sh) (EvT.is (et_test (ev_neT (ev_lblend (wt := 1) (ev_lmul (ev_ixT (n := 0) ((ev_v 12 Sd.mk.md rfl hsd11).tdd sd2) ev_c rfl Ts.mk.md).ti (ev_v 13 Ts.mk.md rfl h13).ti (ev_i 2 rfl) hp hss'.1 (by omega) (by omega)).ti (ev_lmul (ev_ixT (n := 1) ((ev_v 12 Sd.mk.md rfl hsd11).tdd sd2) ev_c rfl Ts.mk.md).ti (ev_v 0 Ti.mono rfl hx11) (ev_i 2 rfl) hp hss'.2.1 (by omega) (by omega)).ti ev_c (ev_i 2 rfl) (by omega) (by omega) (by omega) (by omega) (by omega)).ti (ev_t1 ev_c).ti)) (by rw [lShow, hn, Int.toNat_natCast])) (fun hb H12 s12 => ?_) (fun hb H12 s12 => ?_)
        · have hf : lShow one turns p (q' : Int) sh = false := by simpa using hb
          rw [hf, Bool.false_and] at eq9
          refine s_ret ev_c fun w H13 s13 h14 => q w H13 ((((((((sm6.trans sm).trans s7).trans s8).trans sm9).trans s10).trans s11).trans s12).trans s13) ?_
          rw [← hW _ rfl, if_neg hc, ← eq9]; exact h14
        · have hf : lShow one turns p (q' : Int) sh = true := by simpa using hb
          rw [hf, Bool.true_and] at eq9
          exact ⟨kp.same _ _ (s11.trans s12) hT2, _, _, _, _, rfl, ((sm9.trans s10).trans s11).trans s12, eq9⟩
      · rintro σ' H9 fr ⟨c9, c10, c12, c13, rfl, sm9, eq9⟩
        rw [List.length_map, List.drop_eq_nil_of_le (by rw [List.length_zip]; omega), List.all_nil] at eq9
        refine s_ret ev_c fun w H13 s13 h14 => q w H13 (((((sm6.trans sm).trans s7).trans s8).trans sm9).trans s13) ?_
        rw [← hW _ rfl, if_neg hc, ← eq9]; exact h14
section
variable {σ : L2.St} {H : Hp} {ta tb tc td : TE} {E : XK}
theorem ev_walked {one : List Int} {p : Int} (ha : Ev ta σ H (Ti K one)) (hb : Ev tb σ H (PapD (Rf.paper one p))) (hc : Ev tc σ H (isV (.int p))) (v : Val p one) : Ev (tCall (p__law_walked K) [] E (tCons ta (tCons tb (tCons tc tNil)))) σ H (isV (.bl (lWalked one (Rf.paper one p) p))) :=
  ev_call (one, p) (ea_cons ha (ea_cons hb (ea_cons hc ea_nil))) v md_isV
end
end
end Rw
end
section
set_option maxRecDepth 100000
set_option maxHeartbeats 4000000
namespace Rw
open PySem PySem.Spec PyProof.Rows L2 Rf
variable {K : PySem.W.Frag}
def wd : Paper → Str
  | .whole _ _ => "whole"
  | .parts _ _ => "parts"
def pd1 : Paper → PV
  | .whole t _ => Lds (t.map Ts)
  | .parts a _ => Ts a
def pd2 : Paper → PV
  | .whole _ s => Lds (s.map Sd)
  | .parts _ b => Ts b
theorem papD_eq (x : Paper) : PapD x = Tds [isV (.str (wd x)), pd1 x, pd2 x] := by cases x <;> rfl
theorem pd_mds (x : Paper) : ∀ d ∈ [isV (.str (wd x)), pd1 x, pd2 x], Md d := fun d hd => by
  rcases List.mem_cons.mp hd with z | hd
  · rw [z]; exact md_isV
  cases x with
  | whole t s =>
    rcases List.mem_cons.mp hd with z | hd
    · rw [z]; exact Lds.mono fun d hd => (ts_md d hd).md
    · rw [List.mem_singleton.mp hd]; exact Lds.mono fun d hd => (sd_mk d hd).md
  | parts a b =>
    rcases List.mem_cons.mp hd with z | hd
    · rw [z]; exact Ts.mk.md
    · rw [List.mem_singleton.mp hd]; exact Ts.mk.md
theorem PapD.md (x : Paper) : Md (PapD x) := by rw [papD_eq]; exact Tds.mono (pd_mds x)
theorem tyx_pap {x : Paper} : ∀ v H, PapD x v H → TyX K H v (.type "tuple") := fun v H h => by rw [papD_eq] at h; exact tyx_tds v H h
/-! ExtN -/
theorem lst_ext {H H' : Hp} {a : Addr} {xs : List V} (e : LamX.ExtN H H') (h : H a = some (.lst xs)) : H' a = some (.lst xs) := e _ _ h (fun ps z => by cases z)
theorem tup_ext {H H' : Hp} {a : Addr} {xs : List V} (e : LamX.ExtN H H') (h : H a = some (.tup xs)) : H' a = some (.tup xs) := e _ _ h (fun ps z => by cases z)
theorem DrS.ext {a c : Addr} {H H' : Hp} (d : DrS a c H) (f : LamX.ExtN H H') : DrS a c H' := ⟨d.ne, let ⟨x, y, z, w, h1, h2, h3⟩ := d.ex; ⟨x, y, z, w, lst_ext f h1, lst_ext f h2, h3⟩⟩
def Ex (P : PV) : Prop := ∀ v H H', LamX.ExtN H H' → P v H → P v H'
theorem all2_ex {H H' : Hp} (e : LamX.ExtN H H') : ∀ {ds : List PV} {vs : List V}, (∀ d ∈ ds, Ex d) → All2 ds vs H → All2 ds vs H'
  | [], [], _, _ => trivial
  | d :: ds, v :: vs, m, h => ⟨m d List.mem_cons_self v _ _ e h.1, all2_ex e (fun x hx => m x (List.mem_cons_of_mem _ hx)) h.2⟩
  | [], _ :: _, _, h => h.elim
  | _ :: _, [], _, h => h.elim
theorem Mk.ex {P : PV} (m : Mk P) : Ex P := fun v H H' e p => m v H H' (tk_of_ext e) p
theorem Lds.ex {ds : List PV} (m : ∀ d ∈ ds, Mk d) : Ex (Lds ds) := fun v H H' e ⟨p, us, h1, h2, h3⟩ => ⟨p, us, h1, lst_ext e h2, all2_ex e (fun d hd => (m d hd).ex) h3⟩
theorem PapD.ex (x : Paper) : Ex (PapD x) := fun v H H' e h => by
  rw [papD_eq] at h ⊢
  obtain ⟨a, vs, h1, h2, h3⟩ := h
  refine ⟨a, vs, h1, tup_ext e h2, all2_ex e (fun d hd => ?_) h3⟩
  rcases List.mem_cons.mp hd with z | hd
  · rw [z]; exact mk_isV.ex
  cases x with
  | whole t s =>
    rcases List.mem_cons.mp hd with z | hd
    · rw [z]; exact Lds.ex ts_md
    · rw [List.mem_singleton.mp hd]; exact Lds.ex sd_mk
  | parts a b =>
    rcases List.mem_cons.mp hd with z | hd
    · rw [z]; exact Ts.mk.ex
    · rw [List.mem_singleton.mp hd]; exact Ts.mk.ex
theorem tabs_fr {T : List (Addr × Str)} {a c : Addr} {H H' : Hp} (t : LamX.Tabs T H) (d : DrS a c H) (f : Fr [a] H H') : LamX.Tabs T H' := fun p hp => by
  obtain ⟨cells, pos, pool, seed, h1, _⟩ := d.ex
  obtain ⟨ps, e1, e2, e3⟩ := t p hp
  refine ⟨ps, f _ _ (fun z => ?_) e1, e2, fun pos cv hcv => ?_⟩
  · rw [List.mem_singleton.mp z, h1] at e1; cases e1
  · obtain ⟨k, g1, g2⟩ := e3 pos cv hcv
    refine ⟨k, g1, f _ _ (fun z => ?_) g2⟩
    rw [List.mem_singleton.mp z, h1] at g2
    unfold LamX.CodeO at g2; cases g2
section
variable {σ : L2.St} {H H' : Hp} {ta tb tc td ty tk te tl : TE} {D : Ends} {tz : L2.TS} {x : Paper} {T : List (Addr × Str)}
theorem Ev.pap (h : Ev te σ H (PapD x)) : Ev te σ H (Td K [isV (.str (wd x)), pd1 x, pd2 x]) := by
  rw [papD_eq] at h
  exact h.tdd (pd_mds x)
theorem ev_wd (h : Ev ta σ H (PapD x)) (hb : Ev tb σ H (isV (.int 0))) : Ev (tOp (rIxT K) ta tb) σ H (isV (.str (wd x))) := ev_ixT (n := 0) h.pap hb rfl md_isV
theorem ev_len3 (h : Ev ta σ H (PapD x)) : Ev (tCB (Evl.rLenS K) (tCons ta tNil)) σ H (isV (.int 3)) := ev_lenTD h.pap
theorem ev_notB {a b : Bool} (ha : Ev ta σ H (isV (.bl a))) (hb : Ev tb σ H (isV (.bl b))) : Ev (tOp rNotB ta tb) σ H (isV (.bl (!decide (a = b)))) :=
  ev_op md_isV ha hb fun u v H1 _ p1 p2 Q q => ⟨a, b, p1, p2, q _ H1 (Same.refl _) rfl⟩
theorem q_setQ {n : Nat} (h : te σ H (fun v H1 => tz D (σ.set n (some v)) H1)) : tSeq (tAsg te (gName n)) tz D σ H := h
theorem q_forR {n : Nat} {g : TG} {tu : L2.TS} (I : Nat → L2.St → Hp → Prop) (h : Ev ta σ H (isV (.int n))) (hn : n ≤ 100000) (h0 : ∀ B, Same H B → I 0 σ B)
    (hs : ∀ i σ' H', i < n → I i σ' H' → g (.int i) σ' H' fun σ2 H2 => tu ⟨I (i + 1), D.rt, tz D, I (i + 1)⟩ σ2 H2) (hd : ∀ σ' H', I n σ' H' → tz D σ' H') : tSeq (tFor (iRng1 (tCons ta tNil)) g tu) tz D σ H :=
  h.run H (Same.refl _) _ fun v H2 e2 p => ⟨n, by rw [show v = _ from p], by omega, by omega, by
    rw [Int.toNat_natCast]
    refine ⟨fun i m σ' H' => m = n - i ∧ i ≤ n ∧ I i σ' H', ⟨n, by simp, Nat.zero_le _, h0 H2 e2⟩, ?_⟩
    rintro i m σ' H' ⟨rfl, hi, hI⟩
    by_cases hlt : i < n
    · refine .inr ⟨hlt, I (i + 1), fun σ3 H3 p' => ⟨n - (i + 1), by omega, rfl, hlt, p'⟩, fun x H'' ⟨e1, q⟩ => ?_⟩
      rw [Int.zero_add] at q
      rw [e1, q]
      exact hs i σ' H' hlt hI
    · have e : i = n := by omega
      subst e
      exact .inl ⟨Nat.le_refl _, hd σ' H' hI⟩⟩
end
theorem ti_ts {K : PySem.W.Frag} {xs : List Int} {v : V} {H : Hp} (h : Ts xs v H) : Ti K xs v H := by
  obtain ⟨a, h1, h2⟩ := h
  exact ⟨a, h1, SqT.of h2⟩
section
variable {σ : L2.St} {H : Hp} {ta tb tc tk : TE} {E : XK} {one : List Int} {p : Int}
theorem ev_walkedP (ha : Ev ta σ H (Ti K one)) (hb : Ev tb σ H (PapD (Rf.paper one p))) (hc : Ev tc σ H (isV (.int p))) (v : Val p one) : Ev (tCall (p__law_walked K) [] E (tCons ta (tCons tb (tCons tc tNil)))) σ H (isV (.bl (lWalked one (Rf.paper one p) p))) :=
  ev_call (one, p) (ea_cons ha (ea_cons hb (ea_cons hc ea_nil))) v md_isV
theorem ev_is_wholeN (ha : Ev ta σ H (Ti K one)) (hc : Ev tc σ H (isV (.int p))) (v : Val p one) : Ev (tCallN 1 1 (p_is_whole K) (fun vs zs => vs ++ zs) E (tCons ta tNil) (tCons tc tNil)) σ H (isV (.bl (isWhole one p))) :=
  ev_callN (ds := fun a : List Int × Int => [Ti K a.1, isV (.int a.2)]) (ok := fun a : List Int × Int => Val a.2 a.1) (res := fun a : List Int × Int => isV (.bl (isWhole a.1 a.2))) (one, p) (ea_cons ha ea_nil) (ea_cons hc ea_nil) rfl v md_isV
theorem ev_paper_holdsN (ha : Ev ta σ H (Ti K one)) (hb : Ev tb σ H (PapD (Rf.paper one p))) (hc : Ev tc σ H (isV (.int p))) (v : Val p one) : Ev (tCallN 2 1 (p_paper_holds K) (fun vs zs => vs ++ zs) E (tCons ta (tCons tb tNil)) (tCons tc tNil)) σ H (isV (.bl (paperHolds one (Rf.paper one p) p))) :=
  ev_callN (ds := fun a : List Int × Int => [Ti K a.1, PapD (Rf.paper a.1 a.2), isV (.int a.2)]) (ok := fun a : List Int × Int => Val a.2 a.1) (res := fun a : List Int × Int => isV (.bl (paperHolds a.1 (Rf.paper a.1 a.2) a.2))) (one, p) (ea_cons ha (ea_cons hb ea_nil)) (ea_cons hc ea_nil) rfl v md_isV
end
def LONG : List Int := [1, 1, 0, 1, 1, 0, 0, 0, 0, 0, 0, 0, 0, 1]
def LONG2 : List Int := [1, 0, 1, 1, 0, 1, 0, 0, 0, 0, 0, 0, 0, 1, 1]
theorem pr2 : PR 2 := by first | decide | exact ⟨by decide⟩ | (unfold PR; decide)
theorem val_long : Val 2 LONG := ⟨pr2, ⟨by unfold Rg; decide, by decide⟩, by decide, by decide⟩
theorem val_long2 : Val 2 LONG2 := ⟨pr2, ⟨by unfold Rg; decide, by decide⟩, by decide, by decide⟩
theorem val_01 : Val 2 [0, 1] := ⟨pr2, ⟨by unfold Rg; decide, by decide⟩, by decide, by decide⟩
theorem val_101 : Val 2 [1, 0, 1] := ⟨pr2, ⟨by unfold Rg; decide, by decide⟩, by decide, by decide⟩
theorem long2_eq : lMul LONG [1, 1] 2 = LONG2 := by decide +kernel
theorem sw_long : standsWhole (levelled LONG 2) 2 = true := by decide +kernel
theorem paper_long2 : Rf.paper LONG2 2 = .parts [1, 1] LONG := by decide +kernel
theorem paper_01 : Rf.paper [0, 1] 2 = .whole [[]] [] := by decide +kernel
theorem paper_101 : Rf.paper [1, 0, 1] 2 = .parts [1, 1] [1, 1] := by decide +kernel
theorem ev_lds {σ : L2.St} {H : Hp} {ta : TA} {ds : List PV} (h : EvA ta σ H ds) (hl : ds.length ≤ 100000 := by simp) : Ev (tLst ta) σ H (Lds ds) :=
  ⟨Lds.mono h.md, fun H1 e Q q => el_lst h hl H1 e Q fun p vs H2 _ s a b => q _ H2 s ⟨p, vs, rfl, a, b⟩⟩
theorem md_pt {s : Str} {xs : List Int} : ∀ d ∈ [isV (.str s), Ts xs], Md d := fun d hd => by
  rcases List.mem_cons.mp hd with z | hd
  · rw [z]; exact md_isV
  · rw [List.mem_singleton.mp hd]; exact Ts.mk.md
theorem dp_pt {s : Str} {xs : List Int} {v : V} {H : Hp} (h : Td K [isV (.str s), Ts xs] v H) : Dp K H v (.tuple [.str s, .tuple (xs.map .int)]) := by
  obtain ⟨a, vs, rfl, hs, h⟩ := h
  obtain ⟨x, y, rfl, h1, h2⟩ := all2_2 h
  rw [show x = _ from h1] at hs
  exact .tup hs (.cons (.str _) (.cons (dp_ti (ti_ts h2)) .nil))
theorem eq_pt : V.bl (!PyData.eqv (.tuple [.str "parts", .tuple (List.map PyData.int [1, 1])]) (.tuple [.str "parts", .tuple (List.map PyData.int [1, 1])])) = V.bl false := by
  rw [show PyData.eqv _ _ = true from (by decide +kernel : PyData.eqv (.tuple [.str "parts", .tuple (List.map PyData.int [1, 1])]) (.tuple [.str "parts", .tuple (List.map PyData.int [1, 1])]) = true)]; rfl
theorem ev_nePT {σ : L2.St} {H : Hp} {ta tb : TE} (ha : Ev ta σ H (Td K [isV (.str "parts"), Ts [1, 1]])) (hb : Ev tb σ H (Tds [isV (.str "parts"), Ts [1, 1]])) : Ev (tOp (rNeD K) ta tb) σ H (isV (.bl false)) :=
  ev_op md_isV ha hb fun x y H1 _ p1 p2 Q q => ⟨_, _, dp_pt p1, dp_pt p2.td, by decide +kernel, by decide +kernel, q _ H1 (Same.refl _) eq_pt⟩
theorem dp_wh {v : V} {H : Hp} (h : Tds [isV (.str "whole"), Lds [Ts []], Lds []] v H) : Dp K H v (.tuple [.str "whole", .list [.tuple []], .list []]) := by
  obtain ⟨a, vs, rfl, hs, h⟩ := h
  obtain ⟨x, y, z, rfl, h1, h2, h3⟩ := all2_3 h
  rw [show x = _ from h1] at hs
  obtain ⟨b, us, rfl, hb, h2⟩ := h2
  obtain ⟨c, ws, rfl, hc, h3⟩ := h3
  cases us with
  | nil => exact h2.elim
  | cons u us =>
    cases us with
    | cons _ _ => exact h2.2.elim
    | nil =>
      cases ws with
      | cons _ _ => exact h3.elim
      | nil => exact .tup (SqT.of hs) (.cons (.str _) (.cons (.lst (SqL.of hb) (.cons (dp_ti (xs := []) (ti_ts h2.1)) .nil)) (.cons (.lst (SqL.of hc) .nil) .nil)))
theorem sh_wh : PySem.SeqAt.shaped (.tuple [.str "whole", .list [.tuple []], .list []]) = true := by decide +kernel
theorem eq_wh : V.bl (PyData.eqv (.tuple [.str "whole", .list [.tuple []], .list []]) (.tuple [.str "whole", .list [.tuple []], .list []])) = V.bl true := by
  rw [show PyData.eqv _ _ = true from (by decide +kernel : PyData.eqv (.tuple [.str "whole", .list [.tuple []], .list []]) (.tuple [.str "whole", .list [.tuple []], .list []]) = true)]
section
variable {P : Program} {w : World} {mg : Str → Option Value} {base : Heap}
abbrev s_law : Stmt := topS 81
abbrev N_law : List Str := ["_law_script", "_law_draw", "_law_turn", "_law_p", "_law_degree", "_law_one", "_law_told", "_law_long", "_law_word"]
theorem sc_law : FnScope N_law ["_law_script"] (defScope s_law) := ⟨rfl, rfl, rfl, by decide +kernel, rfl, by decide +kernel, by decide +kernel⟩

def p_law (K : PySem.W.Frag) (T : List (Addr × Str)) : Sp := fun vs H Q _ => ∃ (s : Addr) (xs : List Int), vs = [.ref s] ∧ SqL K H s (xs.map V.int) ∧ LamX.Tabs T H ∧ ∀ v H', v = .bl true → Q v H'
theorem fnok_of {x : Str} {st : Stmt} {N ps : List Str} {k : Nat} {sp : Sp} {f : Addr} {fd : FuncData} (F : Fun K x x st f fd) (S : FnScope N ps (defScope st)) (len : ∀ vs H Q E, sp vs H Q E → vs.length = ps.length)
    (hbody : ∀ (cdv : Value) (A : Around) (outer : List Env) (s : Shared) (H : Hp) (vs : List V) (Q : VK) (E : XK), Room k (A.deeper (envOfC x (defScope st) s.heap.objs.size f cdv)) → sp vs H Q E →
      ∃ t, PSs (cxOf CX0 P w K mg base N x (defScope st) f cdv A outer s H E).nox (defBody st) t ∧ t { nx := fun _ H' => Q .non H', rt := Q } (start N vs) H) : FnOk P w K mg base CX0 (k + 1) f fd ps sp := by
  exact F.ok S len hbody
theorem ok_law {f0 : Addr} {fd0 : FuncData} (Fn : Fun K "law" "law" s_law f0 fd0) (Bt : Bts mg) (Gb : Gbs K mg) {T : List (Addr × Str)} (c__law_begin : Cal P w K mg base 1 "_law_begin" (p__law_begin K)) (c__law_great : Cal P w K mg base 3 "_law_great" p__law_great)
    (c__law_of : Cal P w K mg base 2 "_law_of" (p__law_of K)) (c__law_great_rule : Cal P w K mg base 11 "_law_great_rule" (p__law_great_rule K)) (c__law_level : Cal P w K mg base 3 "_law_level" (p__law_level K))
    (c__law_mul : Cal P w K mg base 2 "_law_mul" (p__law_mul K)) (c__law_take : Cal P w K mg base 1 "_law_take" p__law_take) (c_paper : CalK P w K mg base 11 "paper" 1 (p_paper K T))
    (c__law_walked : Cal P w K mg base 5 "_law_walked" (p__law_walked K)) (c_is_whole : CalK P w K mg base 9 "is_whole" 1 (p_is_whole K)) (c_paper_holds : CalK P w K mg base 8 "paper_holds" 2 (p_paper_holds K))
    (c_parts : CalK P w K mg base 11 "parts" 1 (p_parts K T)) : FnOk P w K mg base CX0 12 f0 fd0 ["_law_script"] (p_law K T) := by
  refine fnok_of Fn sc_law (fun vs H Q E ⟨a, xs, h, _⟩ => by rw [h]; rfl) fun cdv A outer s H vs Q E hr ⟨s0, xs, hvs, hsq, hT, q⟩ => ?_
  subst hvs
  refine ⟨_, (pss_cons (ps_set (i := 1) sc_law.nd rfl (by first | exact .inl rfl | exact .inr rfl) (pe_d c__law_begin hr (by decide) (by rfl) (pa_cons (pv 0) pa_nil)))
      (pss_cons (ps_for PassesOwn.never rfl (pi_range1 (by rfl) Bt.range (pa_cons pe_int pa_nil)) (pg_name (i := 2) sc_law.nd rfl (by first | exact .inl rfl | exact .inr rfl)) (pss_cons (ps_asg (pe_d c__law_great hr (by decide) (by rfl) (pa_cons (pv 1) pa_nil)) (pg_tupK (K := K) (n := 2) rfl (pgs_cons (pg_name (i := 3) sc_law.nd rfl (by first | exact .inl rfl | exact .inr rfl)) (pgs_cons (pg_name (i := 4) sc_law.nd rfl (by first | exact .inl rfl | exact .inr rfl)) pgs_nil))))
      (pss_cons (ps_set (i := 5) sc_law.nd rfl (by first | exact .inl rfl | exact .inr rfl) (pe_d c__law_of hr (by decide) (by rfl) (pa_cons (pv 1) (pa_cons (pe_lst (pa_cons (pe_d c__law_great_rule hr (by decide) (by rfl) (pa_cons (pv 1) (pa_cons (pv 4) (pa_cons (pv 3) pa_nil)))) (pa_cons (pe_d c__law_level hr (by decide) (by rfl) (pa_cons (pv 1) (pa_cons (pv 4) (pa_cons (pv 3) pa_nil)))) pa_nil))) pa_nil))))
      (pss_cons (ps_set (i := 5) sc_law.nd rfl (by first | exact .inl rfl | exact .inr rfl) (pe_d c__law_mul hr (by decide) (by rfl) (pa_cons (pv 5) (pa_cons (pe_tup (pa_cons (pe_op op_add pe_int (pe_d c__law_take hr (by decide) (by rfl) (pa_cons (pv 1) (pa_cons (pe_op op_sub (pv 3) pe_int) pa_nil)))) pa_nil)) (pa_cons (pv 3) pa_nil)))))
      (pss_cons (ps_set (i := 6) sc_law.nd rfl (by first | exact .inl rfl | exact .inr rfl) (pe_dk c_paper hr (by decide) (by rfl) (pa_cons (pv 5) pa_nil) (pk_cons (pv 3) pk_nil)))
      (pss_cons (ps_if ((pw_or (pt_not (pt_val (pe_callB (call_isiK (K := K)) (by rfl) Bt.isinstance (by decide +kernel) (pa_cons (pv 6) (pa_cons (pe_bltn (v := .ty "tuple") (u := .type "tuple") (by rfl) Bt.tuple (by decide +kernel) rfl) pa_nil))))) (pw_or (pt_cmpR op_ne (pe_callB (call_lenK (K := K)) (by rfl) Bt.len PySem.boot_len (pa_cons (pv 6) pa_nil)) pe_int (nomark _)) (pw_or1 (pt_not (pt_val (pe_d c__law_walked hr (by decide) (by rfl) (pa_cons (pv 5) (pa_cons (pv 6) (pa_cons (pv 3) pa_nil)))))))))).pt (pss_one (ps_ret pe_bl)) pss_nil)
      (pss_cons (ps_if ((pw_or (pt_cmpR op_ne (pe_cmpR op_eq (pe_ix (ix_tupK (K := K)) (pv 6) pe_int (fun _ _ => rfl)) pe_str (nomark _)) (pe_dk c_is_whole hr (by decide) (by rfl) (pa_cons (pv 5) pa_nil) (pk_cons (pv 3) pk_nil)) (nomark _)) (pw_or1 (pt_cmpR op_notBl (pe_dk c_paper_holds hr (by decide) (by rfl) (pa_cons (pv 5) (pa_cons (pv 6) pa_nil)) (pk_cons (pv 3) pk_nil)) pe_bl (nomark _))))).pt (pss_one (ps_ret pe_bl)) pss_nil)
      (pss_one (ps_if ((pw_and (pt_cmpR op_eq (pe_ix (ix_tupK (K := K)) (pv 6) pe_int (fun _ _ => rfl)) pe_str (nomark _)) (pw_and1 (pt_cmpR (op_neDK (K := K) hr.units) (pe_ix (ix_tupK (K := K)) (pv 6) pe_int (fun _ _ => rfl)) (pe_ix (ix_tupK (K := K)) (pe_ix (ix_listK (K := K)) (pe_ix (ix_tupK (K := K)) (pe_dk c_parts hr (by decide) (by rfl) (pa_cons (pv 5) pa_nil) (pk_cons (pv 3) pk_nil)) pe_int (fun _ _ => rfl)) pe_int (fun _ _ => rfl)) pe_int (fun _ _ => rfl)) (nomark _))))).pt (pss_one (ps_ret pe_bl)) pss_nil)))))))))
      (pss_cons (ps_set (i := 7) sc_law.nd rfl (by first | exact .inl rfl | exact .inr rfl) (pe_tup (pa_cons pe_int (pa_cons pe_int (pa_cons pe_int (pa_cons pe_int (pa_cons pe_int (pa_cons pe_int (pa_cons pe_int (pa_cons pe_int (pa_cons pe_int (pa_cons pe_int (pa_cons pe_int (pa_cons pe_int (pa_cons pe_int (pa_cons pe_int pa_nil))))))))))))))))
      (pss_cons (ps_par (i := 6) (j := 8) rfl sc_law.nd rfl rfl (by decide) rfl rfl (pa_cons (pe_dd c_paper hr (by decide) (by rfl) (pa_cons (pv 7) pa_nil)) (pa_cons (pe_slice (sl_tupAK (K := K)) (pe_dd c_paper hr (by decide) (by rfl) (pa_cons (pe_d c__law_mul hr (by decide) (by rfl) (pa_cons (pv 7) (pa_cons (pe_tup (pa_cons pe_int (pa_cons pe_int pa_nil))) (pa_cons pe_int pa_nil)))) pa_nil)) po_none (po_some pe_int)) pa_nil)) (by rfl))
      (pss_cons (ps_if ((pw_or (pt_cmpR op_ne (pe_ix (ix_tupK (K := K)) (pv 6) pe_int (fun _ _ => rfl)) pe_str (nomark _)) (pw_or (pt_not (pt_val (pe_d c__law_walked hr (by decide) (by rfl) (pa_cons (pv 7) (pa_cons (pv 6) (pa_cons pe_int pa_nil)))))) (pw_or1 (pt_cmpR (op_neDK (K := K) hr.units) (pv 8) (pe_tup (pa_cons pe_str (pa_cons (pe_tup (pa_cons pe_int (pa_cons pe_int pa_nil))) pa_nil))) (nomark _)))))).pt (pss_one (ps_ret pe_bl)) pss_nil)
      (pss_one (ps_ret (pe_and (pe_cmpR (op_eqDK (K := K) hr.units) (pe_dd c_paper hr (by decide) (by rfl) (pa_cons (pe_tup (pa_cons pe_int (pa_cons pe_int pa_nil))) pa_nil)) (pe_tup (pa_cons pe_str (pa_cons (pe_lst (pa_cons (pe_tup pa_nil) pa_nil)) (pa_cons (pe_lst pa_nil) pa_nil)))) (nomark _)) (pe_one (pe_cmpR op_eq (pe_ix (ix_tupK (K := K)) (pe_dd c_paper hr (by decide) (by rfl) (pa_cons (pe_tup (pa_cons pe_int (pa_cons pe_int (pa_cons pe_int pa_nil)))) pa_nil)) pe_int (fun _ _ => rfl)) pe_str (nomark _))))))))))), ?_⟩
  refine ⟨_, rfl, s0, xs, rfl, hsq, fun a c H1 s1 d1 => ?_⟩
  refine q_forR (n := 2) (fun i σ' H' => (∃ c2 c3 c4 c5 c6, σ' = [some (.ref s0), some (.ref a), c2, c3, c4, c5, c6, none, none]) ∧ DrS a c H' ∧ LamX.Tabs T H') ev_c (by omega) (fun B e => ⟨⟨_, _, _, _, _, rfl⟩, d1.ext (LamX.ExtN.of e), (hT.ext s1).ext e⟩) ?_ ?_
  · rintro i σ' H1 hi ⟨⟨c2, c3, c4, c5, c6, rfl⟩, d1, hT⟩
    refine ⟨_, rfl, a, c, rfl, d1, fun v H2 x hx f2 d2 hv => ?_⟩
    obtain ⟨hp, n1, n12, hw⟩ := menu_ok x hx
    obtain ⟨p, k⟩ := x
    obtain ⟨n, rfl⟩ : ∃ n : Nat, k = n := ⟨k.toNat, by dsimp only at *; omega⟩
    dsimp only at *
    rw [Int.toNat_natCast] at hw
    obtain ⟨t, rfl, ht⟩ := hv
    refine ⟨t, _, rfl, SqT.of ht, rfl, _, _, rfl, _, _, rfl, rfl, ?_⟩
    have bd := hp.bd
    have hT2 := tabs_fr hT d1 f2
    refine ⟨_, rfl, _, rfl, _, rfl, _, rfl, a, c, n, p, rfl, hp, by omega, by omega, hw, d2, fun v1 H3 f3 d3 h1 => ?_⟩
    have hT3 := tabs_fr hT2 d2 f3
    refine ⟨_, rfl, _, rfl, _, rfl, a, c, n, p, rfl, by omega, hp, d3, fun v2 H4 f4 d4 h2 => ?_⟩
    have hT4 := tabs_fr hT3 d3 f4
    have h1 := LvT.mk _ _ _ (d3.tk f4) h1
    refine ⟨by show 2 ≤ sizeLine; decide, fun r hr1 => ?_⟩
    have s5 : Same H4 (upd H4 r (.lst [v1, v2])) := Same.new hr1
    have d5 := d4.fr s5
    have hT5 := hT4.ext s5
    refine ⟨a, c, r, [v1, v2], rfl, upd_same, by simp, by show 2 ≤ 1000; omega, fun z => d4.at (z ▸ hr1), d5, fun v H6 hv f6 d6 => ?_⟩
    have hT6 := tabs_fr hT5 d5 f6
    have hv : LvT K p n v H6 := by
      rcases List.mem_cons.mp hv with z | hv
      · rw [z]; exact LvT.mk _ _ _ (d5.tk f6) (LvT.mk.md _ _ _ s5 h1)
      · rw [List.mem_singleton.mp hv]; exact LvT.mk _ _ _ (d5.tk f6) (LvT.mk.md _ _ _ s5 h2)
    obtain ⟨r1, mo, lr, hv⟩ := hv
    refine ⟨_, rfl, _, rfl, _, rfl, p, 1, rfl, rfl, a, c, p - 1, rfl, by omega, by omega, d6, fun k H7 f7 d7 k0 k1 => ?_⟩
    have hT7 := tabs_fr hT6 d6 f7
    refine ⟨1, k, rfl, rfl, by show 1 ≤ sizeLine; decide, fun t2 ht2 => ?_⟩
    have s8 : Same H7 (upd H7 t2 (.tup [.int (1 + k)])) := Same.new ht2
    have hv := Ti.mono _ _ _ s8 (Ti.mk _ _ _ (d6.tk f7) hv)
    have hc : Ti K [1 + k] (.ref t2) (upd H7 t2 (.tup [.int (1 + k)])) := ⟨t2, rfl, SqT.of upd_same⟩
    refine ⟨_, rfl, ⟨(r1, [1 + k], p), ⟨hp, mo.cn.rg, by show r1.length ≤ 400; omega, by show 1 ≤ 400; omega⟩, ⟨hv, hc, rfl, trivial⟩, fun v9 H9 s9 h9 => ?_⟩⟩
    have d9 := (d7.fr s8).fr s9
    have hT9 := (hT7.ext s8).ext s9
    obtain ⟨vl, ll⟩ := drawn_ok hp mo (by omega) (by omega) (c := 1 + k) (by omega) (by omega)
    dsimp only at h9
    generalize lMul r1 [1 + k] p = one at *
    have lo := vl.lo
    have hi2 := vl.hi
    refine ⟨_, rfl, _, rfl, rfl, rfl, (one, p), vl, ⟨ti_ts h9, rfl, trivial⟩, hT9, fun v10 H10 e10 T10 h10 => ?_⟩
    have h9 := Ts.mk.ex _ _ _ e10 h9
    have d10 := d9.ext e10
    dsimp only at h10
    obtain ⟨w1, w2, w3⟩ := one_ok vl
    refine q_when (b := false) (EvT.is (et_or (et_not (et_test (ev_isi (b := true) (ev_v 6 (PapD.md _) rfl h10) tyx_pap (by rfl)))) fun _ => et_or (et_test (ev_ne (x := .int 3) (y := .int 3) rfl (ev_len3 (ev_v 6 (PapD.md _) rfl h10)) ev_c)) fun _ => et_not (et_test (ev_walkedP (ev_v 5 Ts.mk.md rfl h9).ti (ev_v 6 (PapD.md _) rfl h10) (ev_i 3 rfl) vl))) (by rw [w1]; decide)) (fun h => by cases h) (fun _ H11 s11 => ?_)
    have h9 := Ts.mk.md _ _ _ s11 h9
    have h10 := PapD.md _ _ _ _ s11 h10
    refine q_when (b := false) (EvT.is (et_or (et_test (ev_ne (x := .bl (decide (V.str (wd (Rf.paper one p)) = V.str "whole"))) (y := .bl (isWhole one p)) rfl (ev_eq rfl (ev_wd (ev_v 6 (PapD.md _) rfl h10) ev_c) ev_c) (ev_is_wholeN (ev_v 5 Ts.mk.md rfl h9).ti (ev_i 3 rfl) vl))) fun _ => et_test (ev_notB (ev_paper_holdsN (ev_v 5 Ts.mk.md rfl h9).ti (ev_v 6 (PapD.md _) rfl h10) (ev_i 3 rfl) vl) ev_c)) ?_) (fun h => by cases h) (fun _ H12 s12 => ?_)
    · rw [w2]
      rcases w3 with ⟨t', s', e1, e2⟩ | ⟨b', e1, e2⟩
      · rw [e1, e2]
        show (!decide (V.bl (decide (V.str "whole" = V.str "whole")) = V.bl true) || !decide (true = true)) = false
        decide
      · rw [e1, e2]
        show (!decide (V.bl (decide (V.str "parts" = V.str "whole")) = V.bl false) || !decide (true = true)) = false
        decide
    have h9 := Ts.mk.md _ _ _ s12 h9
    have h10 := PapD.md _ _ _ _ s12 h10
    have d12 := (d10.fr s11).fr s12
    have hT12 := (T10.ext s11).ext s12
    rcases w3 with ⟨t', s', e1, e2⟩ | ⟨b', e1, e2⟩
    · refine s_when (b := false) (EvT.is (et_and (b := false) (et_test (ev_eq (x := .str "whole") (y := .str "parts") rfl (Ev.is (ev_wd (ev_v 6 (PapD.md _) rfl h10) ev_c) (by rw [e1]; rfl)) ev_c)) fun h => absurd h (by decide)) (by decide)) (fun h => by cases h) fun _ H13 s13 => ⟨⟨_, _, _, _, _, rfl⟩, d12.fr s13, hT12.ext s13⟩
    · obtain ⟨sw, ha, mo2, la, lb⟩ := parts_facts2 vl e1
      refine (et_test (b := true) (Ev.is (ev_eq (x := .str (wd (Rf.paper one p))) (y := .str "parts") rfl (ev_wd (ev_v 6 (PapD.md _) rfl h10) ev_c) ev_c) (by rw [e1]; show V.bl (decide (V.str "parts" = V.str "parts")) = V.bl true; decide))) H12 (Same.refl _) _ fun H13 s13 => ?_
      rw [if_pos rfl]
      have h9 := Ts.mk.md _ _ _ s13 h9
      have h10 := PapD.md _ _ _ _ s13 h10
      have d13 := d12.fr s13
      have hT13 := hT12.ext s13
      have hq : Td K [isV (.str (wd (Rf.paper one p))), pd1 (Rf.paper one p), pd2 (Rf.paper one p)] v10 H13 := Tds.td (by rw [← papD_eq]; exact h10)
      refine (ev_ixT (n := 1) (ev_v 6 (Td.mono (pd_mds _)) rfl hq) ev_c rfl (pd_mds _ _ (List.mem_cons_of_mem _ List.mem_cons_self))).run H13 (Same.refl _) _ fun u H14 s14 hu => ?_
      have h9 := Ts.mk.md _ _ _ s14 h9
      have d14 := d13.fr s14
      have hT14 := hT13.ext s14
      refine ⟨_, rfl, _, rfl, rfl, rfl, (one, p), ⟨vl, sw⟩, ⟨ti_ts h9, rfl, trivial⟩, hT14, fun v15 H15 e15 T15 h15 => ?_⟩
      have d15 := d14.ext e15
      obtain ⟨pa, us, rfl, hpa, hus⟩ := h15
      obtain ⟨u1, u2, rfl, hu1, hu2⟩ := all2_2 hus
      obtain ⟨pl, ls, rfl, hpl, hls⟩ := hu2
      rw [e1] at hu
      cases hP : partsOf one p with
      | nil =>
        rw [partsOf] at hP
        rw [hP] at ha
        exact (mo2.ne ha).elim
      | cons ee rest =>
        dsimp only at hls
        rw [hP] at hls hu
        cases ls with
        | nil => exact hls.elim
        | cons y ys =>
          obtain ⟨hy, _⟩ := hls
          obtain ⟨py, yv, rfl, hpy, hyv⟩ := hy
          obtain ⟨w1', w2', rfl, g1, g2⟩ := all2_2 hyv
          refine ⟨pa, _, 1, _, rfl, rfl, SqT.of hpa, atI_nat (j := 1) rfl, pl, _, 0, _, rfl, rfl, SqL.of hpl, atI_nat (j := 0) rfl, py, _, 0, _, rfl, rfl, SqT.of hpy, atI_nat (j := 0) rfl, ?_⟩
          have hu' : Ti K ee.1 u H15 := ti_ts (Ts.mk.ex _ _ _ e15 hu)
          refine ⟨_, _, dp_ti hu', dp_ti (ti_ts g1), shaped_ints _, shaped_ints _, false, ?_, ?_⟩
          · rw [PyData.eqv, eqvAll_ints]
            show V.bl (!decide (ee.1 = ee.1)) = V.bl false
            rw [decide_eq_true rfl]; rfl
          · exact ⟨⟨_, _, _, _, _, rfl⟩, d15, T15⟩
  · rintro σ' H1 ⟨⟨c2, c3, c4, c5, c6, rfl⟩, d1, hT⟩
    refine ⟨by show 14 ≤ sizeLine; decide, fun t ht => ?_⟩
    have s2 := Same.new (o := .tup (LONG.map V.int)) ht
    have hl : Ts LONG (.ref t) (upd H1 t (.tup (LONG.map V.int))) := ⟨t, rfl, upd_same⟩
    have hT2 := hT.ext s2
    refine ⟨_, rfl, (LONG, 2), val_long, ⟨ti_ts hl, rfl, trivial⟩, hT2, fun v3 H3 e3 T3 h3 => ?_⟩
    have hl := Ts.mk.ex _ _ _ e3 hl
    have hT3 := T3
    have hl1 : Ts LONG (.ref t) H3 := hl
    refine ⟨_, rfl, by show 2 ≤ sizeLine; decide, fun t2 ht2 => ?_⟩
    have s4 := Same.new (o := .tup [V.int 1, V.int 1]) ht2
    have hc : Ti K [1, 1] (.ref t2) (upd H3 t2 (.tup [V.int 1, V.int 1])) := ⟨t2, rfl, SqT.of upd_same⟩
    refine ⟨(LONG, [1, 1], 2), ⟨pr2, val_long.cn.rg, by decide, by decide⟩, ⟨Ti.mono _ _ _ s4 (ti_ts hl), hc, rfl, trivial⟩, fun v4 H4 s5 h4 => ?_⟩
    have s45 := s4.trans s5
    dsimp only at h4
    rw [long2_eq] at h4
    refine ⟨(LONG2, 2), val_long2, ⟨ti_ts h4, rfl, trivial⟩, T3.ext s45, fun v5 H5 e5 T5 h5 => ?_⟩
    have e35 := (LamX.ExtN.of s45).trans e5
    have hl := Ts.mk.ex _ _ _ e35 hl
    have h3 := PapD.ex _ _ _ _ e35 h3
    dsimp only at h5 h3
    rw [paper_long2] at h5
    obtain ⟨pa, us, rfl, hpa, hus⟩ := h5
    obtain ⟨u1, u2, u3, rfl, hu1, hu2, hu3⟩ := all2_3 hus
    refine ⟨2, rfl, pa, _, rfl, SqT.of hpa, fun hh => absurd hh.2 (by show ¬ HT.sIx 3 3 (some 2) = 3; decide), fun _ p5 hp5 => ?_⟩
    have s6 := Same.new (o := .tup (cutV [u1, u2, u3] none (some 2))) hp5
    have hl := Ts.mk.md _ _ _ s6 hl
    have h3 := PapD.md _ _ _ _ s6 h3
    have T6 := T5.ext s6
    have h8 : Td K [isV (.str "parts"), Ts [1, 1]] (.ref p5) (upd H5 p5 (.tup (cutV [u1, u2, u3] none (some 2)))) := ⟨p5, [u1, u2], rfl, SqT.of upd_same, hu1, Ts.mk.md _ _ _ s6 hu2, trivial⟩
    refine ⟨_, _, rfl, ?_⟩
    obtain ⟨w1, w2, w3⟩ := one_ok val_long
    obtain ⟨tt', ss', e1⟩ : ∃ t s, Rf.paper LONG 2 = .whole t s := ⟨_, _, by rw [Rf.paper, if_pos sw_long]⟩
    refine q_when (b := false) (EvT.is (et_or (et_test (ev_ne (x := .str "whole") (y := .str "whole") rfl (Ev.is (ev_wd (ev_v 6 (PapD.md _) rfl h3) ev_c) (by rw [e1]; rfl)) ev_c)) fun _ => et_or (et_not (et_test (ev_walkedP (ev_v 7 Ts.mk.md rfl hl).ti (ev_v 6 (PapD.md _) rfl h3) ev_c val_long))) fun _ => et_test (ev_nePT (ev_v 8 (Td.mono md_pt) rfl h8) (ev_tupS (ea_cons ev_c (ea_cons (ev_t2 ev_c ev_c) ea_nil))))) (by rw [w1]; decide)) (fun h => by cases h) (fun _ H7 s7 => ?_)
    refine s_retQ ?_
    refine ⟨by show 2 ≤ sizeLine; decide, fun t3 ht3 => ?_⟩
    have s8 := Same.new (o := .tup [V.int 0, V.int 1]) ht3
    refine ⟨([0, 1], 2), val_01, ⟨⟨t3, rfl, SqT.of upd_same⟩, rfl, trivial⟩, (T6.ext s7).ext s8, fun v9 H9 e9 T9 h9 => ?_⟩
    dsimp only at h9
    rw [paper_01] at h9
    refine (ev_tupS (ds := [isV (.str "whole"), Lds [Ts []], Lds []]) (ea_cons ev_c (ea_cons (ev_lds (ea_cons ev_t0 ea_nil)) (ea_cons (ev_lds ea_nil) ea_nil)))).run H9 (Same.refl _) _ fun v10 H10 s10 h10 => ?_
    have h9 := PapD.md (.whole [[]] []) _ _ _ s10 h9
    refine ⟨_, _, dp_wh h9, dp_wh h10, sh_wh, sh_wh, true, eq_wh, ?_⟩
    refine ⟨by show 3 ≤ sizeLine; decide, fun t4 ht4 => ?_⟩
    have s11 := Same.new (o := .tup [V.int 1, V.int 0, V.int 1]) ht4
    refine ⟨([1, 0, 1], 2), val_101, ⟨⟨t4, rfl, SqT.of upd_same⟩, rfl, trivial⟩, (T9.ext s10).ext s11, fun v12 H12 e12 T12 h12 => ?_⟩
    dsimp only at h12
    rw [paper_101] at h12
    obtain ⟨pb, us, rfl, hpb, hus⟩ := h12
    obtain ⟨y1, y2, y3, rfl, hy1, hy2, hy3⟩ := all2_3 hus
    obtain rfl := hy1
    refine ⟨pb, _, 0, _, rfl, rfl, SqT.of hpb, atI_nat (j := 0) rfl, ?_⟩
    exact (ev_eq (ta := tC (V.str "parts")) (tb := tC (V.str "parts")) (σ := [some (V.ref s0), some (V.ref a), c2, c3, c4, c5, some v3, some (V.ref t), some (V.ref p5)]) (x := .str "parts") (y := .str "parts") rfl ev_c ev_c).run H12 (Same.refl _) _ fun v H13 _ h13 => q v H13 (by rw [show v = _ from h13]; decide)
end
end Rw
end
section
set_option maxRecDepth 100000
set_option maxHeartbeats 4000000
namespace Rw
open PySem PySem.Spec PyProof.Rows L2 Rf
structure Facts (K : PySem.W.Frag) (mg : Str → Option Value) (c : Addr) where
  Bt : Bts mg
  Gb : Gbs K mg
  d_raised : Df K mg "raised" s_raised ["number", "exponent", "prime"]
  d_turned_over : Df K mg "turned_over" s_turned_over ["number", "prime"]
  d_is_prime : Df K mg "is_prime" s_is_prime ["number"]
  d_need_prime : Df K mg "need_prime" s_need_prime ["prime"]
  d_is_rest : Df K mg "is_rest" s_is_rest ["number", "prime"]
  d_cut : Df K mg "cut" s_cut ["numbers"]
  d_widened : Df K mg "widened" s_widened ["one", "many"]
  d_blended : Df K mg "blended" s_blended ["one", "other", "weight", "prime"]
  d_less : Df K mg "less" s_less ["one", "other", "prime"]
  d_scaled : Df K mg "scaled" s_scaled ["one", "weight", "prime"]
  d_levelled : Df K mg "levelled" s_levelled ["one", "prime"]
  d_worth_at : Df K mg "worth_at" s_worth_at ["one", "number", "prime"]
  d_sloped : Df K mg "sloped" s_sloped ["one", "prime"]
  d_multiplied : Df K mg "multiplied" s_multiplied ["one", "other", "prime"]
  d_divided : Df K mg "divided" s_divided ["one", "other", "prime"]
  d_left_by : Df K mg "left_by" s_left_by ["one", "rule", "prime"]
  d_left_raised : Df K mg "left_raised" s_left_raised ["one", "exponent", "rule", "prime"]
  d_put_through : Df K mg "put_through" s_put_through ["one", "other", "rule", "prime"]
  d_shared : Df K mg "shared" s_shared ["one", "other", "prime"]
  d_is_poly : Df K mg "is_poly" s_is_poly ["thing", "prime"]
  d_need_polys : Df K mg "need_polys" s_need_polys ["some", "prime"]
  d_lessened : Df K mg "lessened" s_lessened ["row", "other", "weight", "prime"]
  d_lowered : Df K mg "lowered" s_lowered ["row", "found", "prime"]
  d_in_order : Df K mg "in_order" s_in_order ["found"]
  d_steps_of : Df K mg "steps_of" s_steps_of ["rows", "prime"]
  d_idle_of : Df K mg "idle_of" s_idle_of ["rows", "width", "prime"]
  d_powers_left : Df K mg "powers_left" s_powers_left ["rule", "prime"]
  d_still_of : Df K mg "still_of" s_still_of ["rule", "prime"]
  d_thinned : Df K mg "thinned" s_thinned ["one", "prime"]
  d_halved : Df K mg "halved" s_halved ["one", "prime"]
  d_stands_whole : Df K mg "stands_whole" s_stands_whole ["one", "prime"]
  d_pieces_of : Df K mg "pieces_of" s_pieces_of ["one", "prime"]
  d_all_parts : Df K mg "all_parts" s_all_parts ["one", "prime"]
  d_in_rank : DfT K mg "in_rank" s_in_rank ["found"] c
  d_turns_of : Df K mg "turns_of" s_turns_of ["rule", "prime"]
  d_shows_of : Df K mg "shows_of" s_shows_of ["rule", "turns", "prime"]
  d_turns_hold : Df K mg "turns_hold" s_turns_hold ["rule", "turns", "prime"]
  d_whole_holds : Df K mg "whole_holds" s_whole_holds ["rule", "turns", "shows", "prime"]
  d_next_digits : Df K mg "next_digits" s_next_digits ["digits", "prime"]
  d_least_rule : Df K mg "least_rule" s_least_rule ["degree", "prime"]
  d_least_whole : DfK K mg "least_whole" s_least_whole ["degree", "prime"] 1
  d_is_whole : DfK K mg "is_whole" s_is_whole ["poly", "prime"] 1
  d_parts : DfK K mg "parts" s_parts ["poly", "prime"] 1
  d_paper : DfK K mg "paper" s_paper ["poly", "prime"] 1
  d_paper_holds : DfK K mg "paper_holds" s_paper_holds ["poly", "told", "prime"] 2
  d__law_primes : Df K mg "_law_primes" s__law_primes []
  d__law_trim : Df K mg "_law_trim" s__law_trim ["_law_numbers"]
  d__law_blend : Df K mg "_law_blend" s__law_blend ["_law_one", "_law_other", "_law_weight", "_law_p"]
  d__law_conv : Df K mg "_law_conv" s__law_conv ["_law_one", "_law_other", "_law_p"]
  d__law_mul : Df K mg "_law_mul" s__law_mul ["_law_one", "_law_other", "_law_p"]
  d__law_back : Df K mg "_law_back" s__law_back ["_law_number", "_law_p"]
  d__law_cut_by : Df K mg "_law_cut_by" s__law_cut_by ["_law_one", "_law_other", "_law_p"]
  d__law_rem : Df K mg "_law_rem" s__law_rem ["_law_one", "_law_other", "_law_p"]
  d__law_lift : Df K mg "_law_lift" s__law_lift ["_law_one", "_law_exponent", "_law_rule", "_law_p"]
  d__law_shifted : Df K mg "_law_shifted" s__law_shifted ["_law_poly", "_law_by", "_law_p"]
  d__law_take : Df K mg "_law_take" s__law_take ["_law_draw", "_law_sides"]
  d__law_begin : Df K mg "_law_begin" s__law_begin ["_law_script"]
  d__law_of : Df K mg "_law_of" s__law_of ["_law_draw", "_law_row"]
  d__law_rests : Df K mg "_law_rests" s__law_rests ["_law_draw", "_law_many", "_law_p"]
  d__law_level : Df K mg "_law_level" s__law_level ["_law_draw", "_law_degree", "_law_p"]
  d__law_great : Df K mg "_law_great" s__law_great ["_law_draw"]
  d__law_great_rule : Df K mg "_law_great_rule" s__law_great_rule ["_law_draw", "_law_degree", "_law_p"]
  d__law_same : Df K mg "_law_same" s__law_same ["_law_found", "_law_due"]
  d__law_walked : Df K mg "_law_walked" s__law_walked ["_law_one", "_law_told", "_law_p"]
  d_law : Df K mg "law" s_law ["_law_script"]
theorem all_ok {P : Program} {w : World} {K : PySem.W.Frag} {mg : Str → Option Value} {base : Heap} {c P' : Addr} {f0 : Addr} {fd0 : FuncData} (F : Facts K mg c) (Fn : Fun K "law" "law" s_law f0 fd0) (TB : LamX.TabB base mg c P') : FnOk P w K mg base CX0 12 f0 fd0 ["_law_script"] (p_law K [(P', qIR)]) := by
  have c_raised : Cal P w K mg base 1 "raised" p_raised := ok_raised F.d_raised
  have c_turned_over : Cal P w K mg base 2 "turned_over" p_turned_over := ok_turned_over F.d_turned_over c_raised
  have c_is_prime : Cal P w K mg base 1 "is_prime" p_is_prime := ok_is_prime F.d_is_prime F.Gb
  have c_need_prime : Cal P w K mg base 2 "need_prime" p_need_prime := ok_need_prime F.d_need_prime c_is_prime
  have c_is_rest : Cal P w K mg base 1 "is_rest" p_is_rest := ok_is_rest F.d_is_rest
  have c_cut : Cal P w K mg base 1 "cut" (p_cut K) := ok_cut F.d_cut F.Bt
  have c_widened : Cal P w K mg base 1 "widened" (p_widened K) := ok_widened F.d_widened F.Bt
  have c_blended : Cal P w K mg base 2 "blended" (p_blended K) := ok_blended F.d_blended F.Bt c_cut c_widened
  have c_less : Cal P w K mg base 3 "less" (p_less K) := ok_less F.d_less F.Bt F.Gb c_blended
  have c_scaled : Cal P w K mg base 2 "scaled" (p_scaled K) := ok_scaled F.d_scaled F.Bt F.Gb c_cut
  have c_levelled : Cal P w K mg base 3 "levelled" (p_levelled K) := ok_levelled F.d_levelled F.Bt F.Gb c_turned_over c_scaled
  have c_worth_at : Cal P w K mg base 1 "worth_at" (p_worth_at K) := ok_worth_at F.d_worth_at F.Bt F.Gb
  have c_sloped : Cal P w K mg base 2 "sloped" (p_sloped K) := ok_sloped F.d_sloped F.Bt F.Gb c_cut
  have c_multiplied : Cal P w K mg base 2 "multiplied" (p_multiplied K) := ok_multiplied F.d_multiplied F.Bt F.Gb c_cut
  have c_divided : Cal P w K mg base 3 "divided" (p_divided K) := ok_divided F.d_divided F.Bt F.Gb c_turned_over c_cut
  have c_left_by : Cal P w K mg base 4 "left_by" (p_left_by K) := ok_left_by F.d_left_by F.Bt F.Gb c_divided
  have c_left_raised : Cal P w K mg base 5 "left_raised" (p_left_raised K) := ok_left_raised F.d_left_raised F.Bt F.Gb c_multiplied c_left_by
  have c_put_through : Cal P w K mg base 5 "put_through" (p_put_through K) := ok_put_through F.d_put_through F.Bt F.Gb c_cut c_blended c_multiplied c_left_by
  have c_shared : Cal P w K mg base 4 "shared" (p_shared K) := ok_shared F.d_shared F.Bt F.Gb c_turned_over c_less c_scaled c_multiplied c_divided
  have c_is_poly : Cal P w K mg base 2 "is_poly" (p_is_poly K) := ok_is_poly F.d_is_poly F.Bt F.Gb c_is_rest
  have c_need_polys : Cal P w K mg base 3 "need_polys" (p_need_polys K) := ok_need_polys F.d_need_polys F.Bt F.Gb c_need_prime c_is_poly
  have c_lessened : Cal P w K mg base 1 "lessened" (p_lessened K) := ok_lessened F.d_lessened F.Bt F.Gb
  have c_lowered : Cal P w K mg base 2 "lowered" (p_lowered K) := ok_lowered F.d_lowered F.Bt F.Gb c_lessened
  have c_in_order : Cal P w K mg base 1 "in_order" (p_in_order K) := ok_in_order F.d_in_order F.Bt F.Gb
  have c_steps_of : Cal P w K mg base 3 "steps_of" (p_steps_of K) := ok_steps_of F.d_steps_of F.Bt F.Gb c_turned_over c_lessened c_lowered
  have c_idle_of : Cal P w K mg base 4 "idle_of" (p_idle_of K) := ok_idle_of F.d_idle_of F.Bt F.Gb c_steps_of c_in_order
  have c_cutT : Cal P w K mg base 1 "cut" p_cutT := ok_cutT F.d_cut F.Bt
  have c_powers_left : Cal P w K mg base 6 "powers_left" (p_powers_left K) := ok_powers_left F.d_powers_left F.Bt F.Gb c_multiplied c_left_by c_left_raised
  have c_still_of : Cal P w K mg base 7 "still_of" (p_still_of K) := ok_still_of F.d_still_of F.Bt F.Gb c_idle_of c_cut c_widened c_less c_powers_left c_cutT
  have c_thinned : Cal P w K mg base 1 "thinned" (p_thinned K) := ok_thinned F.d_thinned F.Bt F.Gb
  have c_halved : Cal P w K mg base 8 "halved" (p_halved K) := ok_halved F.d_halved F.Bt F.Gb c_blended c_divided c_shared c_still_of
  have c_stands_whole : Cal P w K mg base 8 "stands_whole" (p_stands_whole K) := ok_stands_whole F.d_stands_whole F.Bt F.Gb c_shared c_worth_at c_sloped c_still_of
  have c_pieces_of : Cal P w K mg base 9 "pieces_of" (p_pieces_of K) := ok_pieces_of F.d_pieces_of F.Bt F.Gb c_halved
  have c_all_parts : Cal P w K mg base 10 "all_parts" (p_all_parts K) := ok_all_parts F.d_all_parts F.Bt F.Gb c_divided c_shared c_sloped c_pieces_of c_thinned
  have c_in_rank : Cal P w K mg base 1 "in_rank" (p_in_rank [(P', qIR)]) := ok_in_rank F.d_in_rank F.Bt TB List.mem_cons_self (fun p hp _ => by rw [List.mem_singleton.mp hp])
  have c_turns_of : Cal P w K mg base 6 "turns_of" (p_turns_of K) := ok_turns_of F.d_turns_of F.Bt F.Gb c_left_raised c_put_through
  have c_shows_of : Cal P w K mg base 5 "shows_of" (p_shows_of K) := ok_shows_of F.d_shows_of F.Bt F.Gb c_less c_shared
  have c_turns_hold : Cal P w K mg base 6 "turns_hold" (p_turns_hold K) := ok_turns_hold F.d_turns_hold F.Bt F.Gb c_left_by c_left_raised c_put_through
  have c_whole_holds : Cal P w K mg base 7 "whole_holds" (p_whole_holds K) := ok_whole_holds F.d_whole_holds F.Bt F.Gb c_blended c_less c_multiplied c_turns_hold
  have c_next_digits : Cal P w K mg base 1 "next_digits" (p_next_digits K) := ok_next_digits F.d_next_digits F.Bt F.Gb
  have c_least_rule : Cal P w K mg base 9 "least_rule" (p_least_rule K) := ok_least_rule F.d_least_rule F.Bt F.Gb c_stands_whole c_next_digits
  have c_least_whole : CalK P w K mg base 10 "least_whole" 1 (p_least_whole K) := ok_least_whole F.d_least_whole F.Bt F.Gb c_need_prime c_least_rule
  have c_is_whole : CalK P w K mg base 9 "is_whole" 1 (p_is_whole K) := ok_is_whole F.d_is_whole F.Bt F.Gb c_need_polys c_levelled c_stands_whole
  have c_parts : CalK P w K mg base 11 "parts" 1 (p_parts K [(P', qIR)]) := ok_parts F.d_parts F.Bt F.Gb c_need_polys c_levelled c_all_parts c_in_rank
  have c_paper : CalK P w K mg base 11 "paper" 1 (p_paper K [(P', qIR)]) := ok_paper F.d_paper F.Bt F.Gb c_need_polys c_divided c_levelled c_all_parts c_in_rank c_stands_whole c_turns_of c_shows_of
  have c_paper_holds : CalK P w K mg base 8 "paper_holds" 2 (p_paper_holds K) := ok_paper_holds F.d_paper_holds F.Bt F.Gb c_is_poly c_need_polys c_multiplied c_whole_holds
  have c__law_primes : Cal P w K mg base 1 "_law_primes" p__law_primes := ok__law_primes F.d__law_primes F.Bt F.Gb
  have c__law_trim : Cal P w K mg base 1 "_law_trim" (p__law_trim K) := ok__law_trim F.d__law_trim F.Bt F.Gb
  have c__law_blend : Cal P w K mg base 2 "_law_blend" (p__law_blend K) := ok__law_blend F.d__law_blend F.Bt F.Gb c__law_trim
  have c__law_conv : Cal P w K mg base 1 "_law_conv" (p__law_conv K) := ok__law_conv F.d__law_conv F.Bt F.Gb
  have c__law_mul : Cal P w K mg base 2 "_law_mul" (p__law_mul K) := ok__law_mul F.d__law_mul F.Bt F.Gb c__law_trim c__law_conv
  have c__law_back : Cal P w K mg base 1 "_law_back" p__law_back := ok__law_back F.d__law_back F.Bt F.Gb
  have c__law_cut_by : Cal P w K mg base 2 "_law_cut_by" (p__law_cut_by K) := ok__law_cut_by F.d__law_cut_by F.Bt F.Gb c__law_trim c__law_back
  have c__law_rem : Cal P w K mg base 3 "_law_rem" (p__law_rem K) := ok__law_rem F.d__law_rem F.Bt F.Gb c__law_cut_by
  have c__law_lift : Cal P w K mg base 4 "_law_lift" (p__law_lift K) := ok__law_lift F.d__law_lift F.Bt F.Gb c__law_mul c__law_rem
  have c__law_shifted : Cal P w K mg base 3 "_law_shifted" (p__law_shifted K) := ok__law_shifted F.d__law_shifted F.Bt F.Gb c__law_blend c__law_mul
  have c__law_take : Cal P w K mg base 1 "_law_take" p__law_take := ok__law_take F.d__law_take F.Bt F.Gb
  have c__law_begin : Cal P w K mg base 1 "_law_begin" (p__law_begin K) := ok__law_begin F.d__law_begin F.Bt F.Gb
  have c__law_of : Cal P w K mg base 2 "_law_of" (p__law_of K) := ok__law_of F.d__law_of F.Bt F.Gb c__law_take
  have c__law_rests : Cal P w K mg base 2 "_law_rests" p__law_rests := ok__law_rests F.d__law_rests F.Bt F.Gb c__law_take
  have c__law_level : Cal P w K mg base 3 "_law_level" (p__law_level K) := ok__law_level F.d__law_level F.Bt F.Gb c__law_rests
  have c__law_great : Cal P w K mg base 3 "_law_great" p__law_great := ok__law_great F.d__law_great F.Bt F.Gb c__law_of
  have c__law_great_rule : Cal P w K mg base 11 "_law_great_rule" (p__law_great_rule K) := ok__law_great_rule F.d__law_great_rule F.Bt F.Gb c_least_whole c__law_take c__law_shifted
  have c__same0 : Cal P w K mg base 1 "_law_same" p__same0 := ok__same0 F.d__law_same F.Bt F.Gb
  have c__sameT : Cal P w K mg base 2 "_law_same" p__sameT := ok__sameT F.d__law_same F.Bt F.Gb c__same0
  have c__law_walked : Cal P w K mg base 5 "_law_walked" (p__law_walked K) := ok__law_walked F.d__law_walked F.Bt F.Gb c__sameT c__law_primes c__law_blend c__law_mul c__law_rem c__law_lift
  exact ok_law Fn F.Bt F.Gb c__law_begin c__law_great c__law_of c__law_great_rule c__law_level c__law_mul c__law_take c_paper c__law_walked c_is_whole c_paper_holds c_parts
end Rw
end
section
set_option maxRecDepth 100000
set_option maxHeartbeats 4000000
namespace Rw
open PySem PySem.Spec PyProof.Rows L2 Rf
variable {K : PySem.W.Frag} {h : Heap} {mg : Str → Option Value} {f D : Addr} {oc kV dc pm cd ct : Value} {od an : Option Addr} {sl : Array (Option Value)} {t : Tok} {c : Addr}
theorem mk_raised (X : K.In h) (G : h.Ns mainGlobals mg) (a : PySem.W.nsIn K mainGlobals "raised" = some (some (.ref f))) (l : K.lookup f = some ⟨oc, od, .func (PySem.W.fnOf "raised" "raised" (defArgs s_raised) (defBody s_raised) (defScope s_raised) .none kV dc pm an cd ct), sl⟩) (c1 : PySem.W.codeIn K cd "raised" = true) (k : PySem.W.keepIn K (.ref f) = true) : Df K mg "raised" s_raised ["number", "exponent", "prime"] := ⟨f, _, fun_mk l c1 k, PySem.W.mg_of X G a, (fun_mk l c1 k).binds fun _ _ _ _ _ _ us hl => match us, hl with | [_, _, _], _ => rfl⟩
theorem mk_turned_over (X : K.In h) (G : h.Ns mainGlobals mg) (a : PySem.W.nsIn K mainGlobals "turned_over" = some (some (.ref f))) (l : K.lookup f = some ⟨oc, od, .func (PySem.W.fnOf "turned_over" "turned_over" (defArgs s_turned_over) (defBody s_turned_over) (defScope s_turned_over) .none kV dc pm an cd ct), sl⟩) (c1 : PySem.W.codeIn K cd "turned_over" = true) (k : PySem.W.keepIn K (.ref f) = true) : Df K mg "turned_over" s_turned_over ["number", "prime"] := ⟨f, _, fun_mk l c1 k, PySem.W.mg_of X G a, (fun_mk l c1 k).binds fun _ _ _ _ _ _ us hl => match us, hl with | [_, _], _ => rfl⟩
theorem mk_is_prime (X : K.In h) (G : h.Ns mainGlobals mg) (a : PySem.W.nsIn K mainGlobals "is_prime" = some (some (.ref f))) (l : K.lookup f = some ⟨oc, od, .func (PySem.W.fnOf "is_prime" "is_prime" (defArgs s_is_prime) (defBody s_is_prime) (defScope s_is_prime) .none kV dc pm an cd ct), sl⟩) (c1 : PySem.W.codeIn K cd "is_prime" = true) (k : PySem.W.keepIn K (.ref f) = true) : Df K mg "is_prime" s_is_prime ["number"] := ⟨f, _, fun_mk l c1 k, PySem.W.mg_of X G a, (fun_mk l c1 k).binds fun _ _ _ _ _ _ us hl => match us, hl with | [_], _ => rfl⟩
theorem mk_need_prime (X : K.In h) (G : h.Ns mainGlobals mg) (a : PySem.W.nsIn K mainGlobals "need_prime" = some (some (.ref f))) (l : K.lookup f = some ⟨oc, od, .func (PySem.W.fnOf "need_prime" "need_prime" (defArgs s_need_prime) (defBody s_need_prime) (defScope s_need_prime) .none kV dc pm an cd ct), sl⟩) (c1 : PySem.W.codeIn K cd "need_prime" = true) (k : PySem.W.keepIn K (.ref f) = true) : Df K mg "need_prime" s_need_prime ["prime"] := ⟨f, _, fun_mk l c1 k, PySem.W.mg_of X G a, (fun_mk l c1 k).binds fun _ _ _ _ _ _ us hl => match us, hl with | [_], _ => rfl⟩
theorem mk_is_rest (X : K.In h) (G : h.Ns mainGlobals mg) (a : PySem.W.nsIn K mainGlobals "is_rest" = some (some (.ref f))) (l : K.lookup f = some ⟨oc, od, .func (PySem.W.fnOf "is_rest" "is_rest" (defArgs s_is_rest) (defBody s_is_rest) (defScope s_is_rest) .none kV dc pm an cd ct), sl⟩) (c1 : PySem.W.codeIn K cd "is_rest" = true) (k : PySem.W.keepIn K (.ref f) = true) : Df K mg "is_rest" s_is_rest ["number", "prime"] := ⟨f, _, fun_mk l c1 k, PySem.W.mg_of X G a, (fun_mk l c1 k).binds fun _ _ _ _ _ _ us hl => match us, hl with | [_, _], _ => rfl⟩
theorem mk_cut (X : K.In h) (G : h.Ns mainGlobals mg) (a : PySem.W.nsIn K mainGlobals "cut" = some (some (.ref f))) (l : K.lookup f = some ⟨oc, od, .func (PySem.W.fnOf "cut" "cut" (defArgs s_cut) (defBody s_cut) (defScope s_cut) .none kV dc pm an cd ct), sl⟩) (c1 : PySem.W.codeIn K cd "cut" = true) (k : PySem.W.keepIn K (.ref f) = true) : Df K mg "cut" s_cut ["numbers"] := ⟨f, _, fun_mk l c1 k, PySem.W.mg_of X G a, (fun_mk l c1 k).binds fun _ _ _ _ _ _ us hl => match us, hl with | [_], _ => rfl⟩
theorem mk_widened (X : K.In h) (G : h.Ns mainGlobals mg) (a : PySem.W.nsIn K mainGlobals "widened" = some (some (.ref f))) (l : K.lookup f = some ⟨oc, od, .func (PySem.W.fnOf "widened" "widened" (defArgs s_widened) (defBody s_widened) (defScope s_widened) .none kV dc pm an cd ct), sl⟩) (c1 : PySem.W.codeIn K cd "widened" = true) (k : PySem.W.keepIn K (.ref f) = true) : Df K mg "widened" s_widened ["one", "many"] := ⟨f, _, fun_mk l c1 k, PySem.W.mg_of X G a, (fun_mk l c1 k).binds fun _ _ _ _ _ _ us hl => match us, hl with | [_, _], _ => rfl⟩
theorem mk_blended (X : K.In h) (G : h.Ns mainGlobals mg) (a : PySem.W.nsIn K mainGlobals "blended" = some (some (.ref f))) (l : K.lookup f = some ⟨oc, od, .func (PySem.W.fnOf "blended" "blended" (defArgs s_blended) (defBody s_blended) (defScope s_blended) .none kV dc pm an cd ct), sl⟩) (c1 : PySem.W.codeIn K cd "blended" = true) (k : PySem.W.keepIn K (.ref f) = true) : Df K mg "blended" s_blended ["one", "other", "weight", "prime"] := ⟨f, _, fun_mk l c1 k, PySem.W.mg_of X G a, (fun_mk l c1 k).binds fun _ _ _ _ _ _ us hl => match us, hl with | [_, _, _, _], _ => rfl⟩
theorem mk_less (X : K.In h) (G : h.Ns mainGlobals mg) (a : PySem.W.nsIn K mainGlobals "less" = some (some (.ref f))) (l : K.lookup f = some ⟨oc, od, .func (PySem.W.fnOf "less" "less" (defArgs s_less) (defBody s_less) (defScope s_less) .none kV dc pm an cd ct), sl⟩) (c1 : PySem.W.codeIn K cd "less" = true) (k : PySem.W.keepIn K (.ref f) = true) : Df K mg "less" s_less ["one", "other", "prime"] := ⟨f, _, fun_mk l c1 k, PySem.W.mg_of X G a, (fun_mk l c1 k).binds fun _ _ _ _ _ _ us hl => match us, hl with | [_, _, _], _ => rfl⟩
theorem mk_scaled (X : K.In h) (G : h.Ns mainGlobals mg) (a : PySem.W.nsIn K mainGlobals "scaled" = some (some (.ref f))) (l : K.lookup f = some ⟨oc, od, .func (PySem.W.fnOf "scaled" "scaled" (defArgs s_scaled) (defBody s_scaled) (defScope s_scaled) .none kV dc pm an cd ct), sl⟩) (c1 : PySem.W.codeIn K cd "scaled" = true) (k : PySem.W.keepIn K (.ref f) = true) : Df K mg "scaled" s_scaled ["one", "weight", "prime"] := ⟨f, _, fun_mk l c1 k, PySem.W.mg_of X G a, (fun_mk l c1 k).binds fun _ _ _ _ _ _ us hl => match us, hl with | [_, _, _], _ => rfl⟩
theorem mk_levelled (X : K.In h) (G : h.Ns mainGlobals mg) (a : PySem.W.nsIn K mainGlobals "levelled" = some (some (.ref f))) (l : K.lookup f = some ⟨oc, od, .func (PySem.W.fnOf "levelled" "levelled" (defArgs s_levelled) (defBody s_levelled) (defScope s_levelled) .none kV dc pm an cd ct), sl⟩) (c1 : PySem.W.codeIn K cd "levelled" = true) (k : PySem.W.keepIn K (.ref f) = true) : Df K mg "levelled" s_levelled ["one", "prime"] := ⟨f, _, fun_mk l c1 k, PySem.W.mg_of X G a, (fun_mk l c1 k).binds fun _ _ _ _ _ _ us hl => match us, hl with | [_, _], _ => rfl⟩
theorem mk_worth_at (X : K.In h) (G : h.Ns mainGlobals mg) (a : PySem.W.nsIn K mainGlobals "worth_at" = some (some (.ref f))) (l : K.lookup f = some ⟨oc, od, .func (PySem.W.fnOf "worth_at" "worth_at" (defArgs s_worth_at) (defBody s_worth_at) (defScope s_worth_at) .none kV dc pm an cd ct), sl⟩) (c1 : PySem.W.codeIn K cd "worth_at" = true) (k : PySem.W.keepIn K (.ref f) = true) : Df K mg "worth_at" s_worth_at ["one", "number", "prime"] := ⟨f, _, fun_mk l c1 k, PySem.W.mg_of X G a, (fun_mk l c1 k).binds fun _ _ _ _ _ _ us hl => match us, hl with | [_, _, _], _ => rfl⟩
theorem mk_sloped (X : K.In h) (G : h.Ns mainGlobals mg) (a : PySem.W.nsIn K mainGlobals "sloped" = some (some (.ref f))) (l : K.lookup f = some ⟨oc, od, .func (PySem.W.fnOf "sloped" "sloped" (defArgs s_sloped) (defBody s_sloped) (defScope s_sloped) .none kV dc pm an cd ct), sl⟩) (c1 : PySem.W.codeIn K cd "sloped" = true) (k : PySem.W.keepIn K (.ref f) = true) : Df K mg "sloped" s_sloped ["one", "prime"] := ⟨f, _, fun_mk l c1 k, PySem.W.mg_of X G a, (fun_mk l c1 k).binds fun _ _ _ _ _ _ us hl => match us, hl with | [_, _], _ => rfl⟩
theorem mk_multiplied (X : K.In h) (G : h.Ns mainGlobals mg) (a : PySem.W.nsIn K mainGlobals "multiplied" = some (some (.ref f))) (l : K.lookup f = some ⟨oc, od, .func (PySem.W.fnOf "multiplied" "multiplied" (defArgs s_multiplied) (defBody s_multiplied) (defScope s_multiplied) .none kV dc pm an cd ct), sl⟩) (c1 : PySem.W.codeIn K cd "multiplied" = true) (k : PySem.W.keepIn K (.ref f) = true) : Df K mg "multiplied" s_multiplied ["one", "other", "prime"] := ⟨f, _, fun_mk l c1 k, PySem.W.mg_of X G a, (fun_mk l c1 k).binds fun _ _ _ _ _ _ us hl => match us, hl with | [_, _, _], _ => rfl⟩
theorem mk_divided (X : K.In h) (G : h.Ns mainGlobals mg) (a : PySem.W.nsIn K mainGlobals "divided" = some (some (.ref f))) (l : K.lookup f = some ⟨oc, od, .func (PySem.W.fnOf "divided" "divided" (defArgs s_divided) (defBody s_divided) (defScope s_divided) .none kV dc pm an cd ct), sl⟩) (c1 : PySem.W.codeIn K cd "divided" = true) (k : PySem.W.keepIn K (.ref f) = true) : Df K mg "divided" s_divided ["one", "other", "prime"] := ⟨f, _, fun_mk l c1 k, PySem.W.mg_of X G a, (fun_mk l c1 k).binds fun _ _ _ _ _ _ us hl => match us, hl with | [_, _, _], _ => rfl⟩
theorem mk_left_by (X : K.In h) (G : h.Ns mainGlobals mg) (a : PySem.W.nsIn K mainGlobals "left_by" = some (some (.ref f))) (l : K.lookup f = some ⟨oc, od, .func (PySem.W.fnOf "left_by" "left_by" (defArgs s_left_by) (defBody s_left_by) (defScope s_left_by) .none kV dc pm an cd ct), sl⟩) (c1 : PySem.W.codeIn K cd "left_by" = true) (k : PySem.W.keepIn K (.ref f) = true) : Df K mg "left_by" s_left_by ["one", "rule", "prime"] := ⟨f, _, fun_mk l c1 k, PySem.W.mg_of X G a, (fun_mk l c1 k).binds fun _ _ _ _ _ _ us hl => match us, hl with | [_, _, _], _ => rfl⟩
theorem mk_left_raised (X : K.In h) (G : h.Ns mainGlobals mg) (a : PySem.W.nsIn K mainGlobals "left_raised" = some (some (.ref f))) (l : K.lookup f = some ⟨oc, od, .func (PySem.W.fnOf "left_raised" "left_raised" (defArgs s_left_raised) (defBody s_left_raised) (defScope s_left_raised) .none kV dc pm an cd ct), sl⟩) (c1 : PySem.W.codeIn K cd "left_raised" = true) (k : PySem.W.keepIn K (.ref f) = true) : Df K mg "left_raised" s_left_raised ["one", "exponent", "rule", "prime"] := ⟨f, _, fun_mk l c1 k, PySem.W.mg_of X G a, (fun_mk l c1 k).binds fun _ _ _ _ _ _ us hl => match us, hl with | [_, _, _, _], _ => rfl⟩
theorem mk_put_through (X : K.In h) (G : h.Ns mainGlobals mg) (a : PySem.W.nsIn K mainGlobals "put_through" = some (some (.ref f))) (l : K.lookup f = some ⟨oc, od, .func (PySem.W.fnOf "put_through" "put_through" (defArgs s_put_through) (defBody s_put_through) (defScope s_put_through) .none kV dc pm an cd ct), sl⟩) (c1 : PySem.W.codeIn K cd "put_through" = true) (k : PySem.W.keepIn K (.ref f) = true) : Df K mg "put_through" s_put_through ["one", "other", "rule", "prime"] := ⟨f, _, fun_mk l c1 k, PySem.W.mg_of X G a, (fun_mk l c1 k).binds fun _ _ _ _ _ _ us hl => match us, hl with | [_, _, _, _], _ => rfl⟩
theorem mk_shared (X : K.In h) (G : h.Ns mainGlobals mg) (a : PySem.W.nsIn K mainGlobals "shared" = some (some (.ref f))) (l : K.lookup f = some ⟨oc, od, .func (PySem.W.fnOf "shared" "shared" (defArgs s_shared) (defBody s_shared) (defScope s_shared) .none kV dc pm an cd ct), sl⟩) (c1 : PySem.W.codeIn K cd "shared" = true) (k : PySem.W.keepIn K (.ref f) = true) : Df K mg "shared" s_shared ["one", "other", "prime"] := ⟨f, _, fun_mk l c1 k, PySem.W.mg_of X G a, (fun_mk l c1 k).binds fun _ _ _ _ _ _ us hl => match us, hl with | [_, _, _], _ => rfl⟩
theorem mk_is_poly (X : K.In h) (G : h.Ns mainGlobals mg) (a : PySem.W.nsIn K mainGlobals "is_poly" = some (some (.ref f))) (l : K.lookup f = some ⟨oc, od, .func (PySem.W.fnOf "is_poly" "is_poly" (defArgs s_is_poly) (defBody s_is_poly) (defScope s_is_poly) .none kV dc pm an cd ct), sl⟩) (c1 : PySem.W.codeIn K cd "is_poly" = true) (k : PySem.W.keepIn K (.ref f) = true) : Df K mg "is_poly" s_is_poly ["thing", "prime"] := ⟨f, _, fun_mk l c1 k, PySem.W.mg_of X G a, (fun_mk l c1 k).binds fun _ _ _ _ _ _ us hl => match us, hl with | [_, _], _ => rfl⟩
theorem mk_need_polys (X : K.In h) (G : h.Ns mainGlobals mg) (a : PySem.W.nsIn K mainGlobals "need_polys" = some (some (.ref f))) (l : K.lookup f = some ⟨oc, od, .func (PySem.W.fnOf "need_polys" "need_polys" (defArgs s_need_polys) (defBody s_need_polys) (defScope s_need_polys) .none kV dc pm an cd ct), sl⟩) (c1 : PySem.W.codeIn K cd "need_polys" = true) (k : PySem.W.keepIn K (.ref f) = true) : Df K mg "need_polys" s_need_polys ["some", "prime"] := ⟨f, _, fun_mk l c1 k, PySem.W.mg_of X G a, (fun_mk l c1 k).binds fun _ _ _ _ _ _ us hl => match us, hl with | [_, _], _ => rfl⟩
theorem mk_lessened (X : K.In h) (G : h.Ns mainGlobals mg) (a : PySem.W.nsIn K mainGlobals "lessened" = some (some (.ref f))) (l : K.lookup f = some ⟨oc, od, .func (PySem.W.fnOf "lessened" "lessened" (defArgs s_lessened) (defBody s_lessened) (defScope s_lessened) .none kV dc pm an cd ct), sl⟩) (c1 : PySem.W.codeIn K cd "lessened" = true) (k : PySem.W.keepIn K (.ref f) = true) : Df K mg "lessened" s_lessened ["row", "other", "weight", "prime"] := ⟨f, _, fun_mk l c1 k, PySem.W.mg_of X G a, (fun_mk l c1 k).binds fun _ _ _ _ _ _ us hl => match us, hl with | [_, _, _, _], _ => rfl⟩
theorem mk_lowered (X : K.In h) (G : h.Ns mainGlobals mg) (a : PySem.W.nsIn K mainGlobals "lowered" = some (some (.ref f))) (l : K.lookup f = some ⟨oc, od, .func (PySem.W.fnOf "lowered" "lowered" (defArgs s_lowered) (defBody s_lowered) (defScope s_lowered) .none kV dc pm an cd ct), sl⟩) (c1 : PySem.W.codeIn K cd "lowered" = true) (k : PySem.W.keepIn K (.ref f) = true) : Df K mg "lowered" s_lowered ["row", "found", "prime"] := ⟨f, _, fun_mk l c1 k, PySem.W.mg_of X G a, (fun_mk l c1 k).binds fun _ _ _ _ _ _ us hl => match us, hl with | [_, _, _], _ => rfl⟩
theorem mk_in_order (X : K.In h) (G : h.Ns mainGlobals mg) (a : PySem.W.nsIn K mainGlobals "in_order" = some (some (.ref f))) (l : K.lookup f = some ⟨oc, od, .func (PySem.W.fnOf "in_order" "in_order" (defArgs s_in_order) (defBody s_in_order) (defScope s_in_order) .none kV dc pm an cd ct), sl⟩) (c1 : PySem.W.codeIn K cd "in_order" = true) (k : PySem.W.keepIn K (.ref f) = true) : Df K mg "in_order" s_in_order ["found"] := ⟨f, _, fun_mk l c1 k, PySem.W.mg_of X G a, (fun_mk l c1 k).binds fun _ _ _ _ _ _ us hl => match us, hl with | [_], _ => rfl⟩
theorem mk_steps_of (X : K.In h) (G : h.Ns mainGlobals mg) (a : PySem.W.nsIn K mainGlobals "steps_of" = some (some (.ref f))) (l : K.lookup f = some ⟨oc, od, .func (PySem.W.fnOf "steps_of" "steps_of" (defArgs s_steps_of) (defBody s_steps_of) (defScope s_steps_of) .none kV dc pm an cd ct), sl⟩) (c1 : PySem.W.codeIn K cd "steps_of" = true) (k : PySem.W.keepIn K (.ref f) = true) : Df K mg "steps_of" s_steps_of ["rows", "prime"] := ⟨f, _, fun_mk l c1 k, PySem.W.mg_of X G a, (fun_mk l c1 k).binds fun _ _ _ _ _ _ us hl => match us, hl with | [_, _], _ => rfl⟩
theorem mk_idle_of (X : K.In h) (G : h.Ns mainGlobals mg) (a : PySem.W.nsIn K mainGlobals "idle_of" = some (some (.ref f))) (l : K.lookup f = some ⟨oc, od, .func (PySem.W.fnOf "idle_of" "idle_of" (defArgs s_idle_of) (defBody s_idle_of) (defScope s_idle_of) .none kV dc pm an cd ct), sl⟩) (c1 : PySem.W.codeIn K cd "idle_of" = true) (k : PySem.W.keepIn K (.ref f) = true) : Df K mg "idle_of" s_idle_of ["rows", "width", "prime"] := ⟨f, _, fun_mk l c1 k, PySem.W.mg_of X G a, (fun_mk l c1 k).binds fun _ _ _ _ _ _ us hl => match us, hl with | [_, _, _], _ => rfl⟩
theorem mk_powers_left (X : K.In h) (G : h.Ns mainGlobals mg) (a : PySem.W.nsIn K mainGlobals "powers_left" = some (some (.ref f))) (l : K.lookup f = some ⟨oc, od, .func (PySem.W.fnOf "powers_left" "powers_left" (defArgs s_powers_left) (defBody s_powers_left) (defScope s_powers_left) .none kV dc pm an cd ct), sl⟩) (c1 : PySem.W.codeIn K cd "powers_left" = true) (k : PySem.W.keepIn K (.ref f) = true) : Df K mg "powers_left" s_powers_left ["rule", "prime"] := ⟨f, _, fun_mk l c1 k, PySem.W.mg_of X G a, (fun_mk l c1 k).binds fun _ _ _ _ _ _ us hl => match us, hl with | [_, _], _ => rfl⟩
theorem mk_still_of (X : K.In h) (G : h.Ns mainGlobals mg) (a : PySem.W.nsIn K mainGlobals "still_of" = some (some (.ref f))) (l : K.lookup f = some ⟨oc, od, .func (PySem.W.fnOf "still_of" "still_of" (defArgs s_still_of) (defBody s_still_of) (defScope s_still_of) .none kV dc pm an cd ct), sl⟩) (c1 : PySem.W.codeIn K cd "still_of" = true) (k : PySem.W.keepIn K (.ref f) = true) : Df K mg "still_of" s_still_of ["rule", "prime"] := ⟨f, _, fun_mk l c1 k, PySem.W.mg_of X G a, (fun_mk l c1 k).binds fun _ _ _ _ _ _ us hl => match us, hl with | [_, _], _ => rfl⟩
theorem mk_thinned (X : K.In h) (G : h.Ns mainGlobals mg) (a : PySem.W.nsIn K mainGlobals "thinned" = some (some (.ref f))) (l : K.lookup f = some ⟨oc, od, .func (PySem.W.fnOf "thinned" "thinned" (defArgs s_thinned) (defBody s_thinned) (defScope s_thinned) .none kV dc pm an cd ct), sl⟩) (c1 : PySem.W.codeIn K cd "thinned" = true) (k : PySem.W.keepIn K (.ref f) = true) : Df K mg "thinned" s_thinned ["one", "prime"] := ⟨f, _, fun_mk l c1 k, PySem.W.mg_of X G a, (fun_mk l c1 k).binds fun _ _ _ _ _ _ us hl => match us, hl with | [_, _], _ => rfl⟩
theorem mk_halved (X : K.In h) (G : h.Ns mainGlobals mg) (a : PySem.W.nsIn K mainGlobals "halved" = some (some (.ref f))) (l : K.lookup f = some ⟨oc, od, .func (PySem.W.fnOf "halved" "halved" (defArgs s_halved) (defBody s_halved) (defScope s_halved) .none kV dc pm an cd ct), sl⟩) (c1 : PySem.W.codeIn K cd "halved" = true) (k : PySem.W.keepIn K (.ref f) = true) : Df K mg "halved" s_halved ["one", "prime"] := ⟨f, _, fun_mk l c1 k, PySem.W.mg_of X G a, (fun_mk l c1 k).binds fun _ _ _ _ _ _ us hl => match us, hl with | [_, _], _ => rfl⟩
theorem mk_stands_whole (X : K.In h) (G : h.Ns mainGlobals mg) (a : PySem.W.nsIn K mainGlobals "stands_whole" = some (some (.ref f))) (l : K.lookup f = some ⟨oc, od, .func (PySem.W.fnOf "stands_whole" "stands_whole" (defArgs s_stands_whole) (defBody s_stands_whole) (defScope s_stands_whole) .none kV dc pm an cd ct), sl⟩) (c1 : PySem.W.codeIn K cd "stands_whole" = true) (k : PySem.W.keepIn K (.ref f) = true) : Df K mg "stands_whole" s_stands_whole ["one", "prime"] := ⟨f, _, fun_mk l c1 k, PySem.W.mg_of X G a, (fun_mk l c1 k).binds fun _ _ _ _ _ _ us hl => match us, hl with | [_, _], _ => rfl⟩
theorem mk_pieces_of (X : K.In h) (G : h.Ns mainGlobals mg) (a : PySem.W.nsIn K mainGlobals "pieces_of" = some (some (.ref f))) (l : K.lookup f = some ⟨oc, od, .func (PySem.W.fnOf "pieces_of" "pieces_of" (defArgs s_pieces_of) (defBody s_pieces_of) (defScope s_pieces_of) .none kV dc pm an cd ct), sl⟩) (c1 : PySem.W.codeIn K cd "pieces_of" = true) (k : PySem.W.keepIn K (.ref f) = true) : Df K mg "pieces_of" s_pieces_of ["one", "prime"] := ⟨f, _, fun_mk l c1 k, PySem.W.mg_of X G a, (fun_mk l c1 k).binds fun _ _ _ _ _ _ us hl => match us, hl with | [_, _], _ => rfl⟩
theorem mk_all_parts (X : K.In h) (G : h.Ns mainGlobals mg) (a : PySem.W.nsIn K mainGlobals "all_parts" = some (some (.ref f))) (l : K.lookup f = some ⟨oc, od, .func (PySem.W.fnOf "all_parts" "all_parts" (defArgs s_all_parts) (defBody s_all_parts) (defScope s_all_parts) .none kV dc pm an cd ct), sl⟩) (c1 : PySem.W.codeIn K cd "all_parts" = true) (k : PySem.W.keepIn K (.ref f) = true) : Df K mg "all_parts" s_all_parts ["one", "prime"] := ⟨f, _, fun_mk l c1 k, PySem.W.mg_of X G a, (fun_mk l c1 k).binds fun _ _ _ _ _ _ us hl => match us, hl with | [_, _], _ => rfl⟩
theorem mk_in_rank (X : K.In h) (G : h.Ns mainGlobals mg) (a : PySem.W.nsIn K mainGlobals "in_rank" = some (some (.ref f))) (l : K.lookup f = some ⟨oc, od, .func (PySem.W.fnOf "in_rank" "in_rank" (defArgs s_in_rank) (defBody s_in_rank) (defScope s_in_rank) .none kV dc pm an (.ref c) ct), sl⟩) (c1 : PySem.W.codeIn K (.ref c) "in_rank" = true) (k : PySem.W.keepIn K (.ref f) = true) : DfT K mg "in_rank" s_in_rank ["found"] c := ⟨f, oc, od, kV, dc, pm, an, ct, sl, l, c1, PySem.W.mg_of X G a, k, (fun_mk l c1 k).binds fun _ _ _ _ _ _ us hl => match us, hl with | [_], _ => rfl⟩
theorem mk_turns_of (X : K.In h) (G : h.Ns mainGlobals mg) (a : PySem.W.nsIn K mainGlobals "turns_of" = some (some (.ref f))) (l : K.lookup f = some ⟨oc, od, .func (PySem.W.fnOf "turns_of" "turns_of" (defArgs s_turns_of) (defBody s_turns_of) (defScope s_turns_of) .none kV dc pm an cd ct), sl⟩) (c1 : PySem.W.codeIn K cd "turns_of" = true) (k : PySem.W.keepIn K (.ref f) = true) : Df K mg "turns_of" s_turns_of ["rule", "prime"] := ⟨f, _, fun_mk l c1 k, PySem.W.mg_of X G a, (fun_mk l c1 k).binds fun _ _ _ _ _ _ us hl => match us, hl with | [_, _], _ => rfl⟩
theorem mk_shows_of (X : K.In h) (G : h.Ns mainGlobals mg) (a : PySem.W.nsIn K mainGlobals "shows_of" = some (some (.ref f))) (l : K.lookup f = some ⟨oc, od, .func (PySem.W.fnOf "shows_of" "shows_of" (defArgs s_shows_of) (defBody s_shows_of) (defScope s_shows_of) .none kV dc pm an cd ct), sl⟩) (c1 : PySem.W.codeIn K cd "shows_of" = true) (k : PySem.W.keepIn K (.ref f) = true) : Df K mg "shows_of" s_shows_of ["rule", "turns", "prime"] := ⟨f, _, fun_mk l c1 k, PySem.W.mg_of X G a, (fun_mk l c1 k).binds fun _ _ _ _ _ _ us hl => match us, hl with | [_, _, _], _ => rfl⟩
theorem mk_turns_hold (X : K.In h) (G : h.Ns mainGlobals mg) (a : PySem.W.nsIn K mainGlobals "turns_hold" = some (some (.ref f))) (l : K.lookup f = some ⟨oc, od, .func (PySem.W.fnOf "turns_hold" "turns_hold" (defArgs s_turns_hold) (defBody s_turns_hold) (defScope s_turns_hold) .none kV dc pm an cd ct), sl⟩) (c1 : PySem.W.codeIn K cd "turns_hold" = true) (k : PySem.W.keepIn K (.ref f) = true) : Df K mg "turns_hold" s_turns_hold ["rule", "turns", "prime"] := ⟨f, _, fun_mk l c1 k, PySem.W.mg_of X G a, (fun_mk l c1 k).binds fun _ _ _ _ _ _ us hl => match us, hl with | [_, _, _], _ => rfl⟩
theorem mk_whole_holds (X : K.In h) (G : h.Ns mainGlobals mg) (a : PySem.W.nsIn K mainGlobals "whole_holds" = some (some (.ref f))) (l : K.lookup f = some ⟨oc, od, .func (PySem.W.fnOf "whole_holds" "whole_holds" (defArgs s_whole_holds) (defBody s_whole_holds) (defScope s_whole_holds) .none kV dc pm an cd ct), sl⟩) (c1 : PySem.W.codeIn K cd "whole_holds" = true) (k : PySem.W.keepIn K (.ref f) = true) : Df K mg "whole_holds" s_whole_holds ["rule", "turns", "shows", "prime"] := ⟨f, _, fun_mk l c1 k, PySem.W.mg_of X G a, (fun_mk l c1 k).binds fun _ _ _ _ _ _ us hl => match us, hl with | [_, _, _, _], _ => rfl⟩
theorem mk_next_digits (X : K.In h) (G : h.Ns mainGlobals mg) (a : PySem.W.nsIn K mainGlobals "next_digits" = some (some (.ref f))) (l : K.lookup f = some ⟨oc, od, .func (PySem.W.fnOf "next_digits" "next_digits" (defArgs s_next_digits) (defBody s_next_digits) (defScope s_next_digits) .none kV dc pm an cd ct), sl⟩) (c1 : PySem.W.codeIn K cd "next_digits" = true) (k : PySem.W.keepIn K (.ref f) = true) : Df K mg "next_digits" s_next_digits ["digits", "prime"] := ⟨f, _, fun_mk l c1 k, PySem.W.mg_of X G a, (fun_mk l c1 k).binds fun _ _ _ _ _ _ us hl => match us, hl with | [_, _], _ => rfl⟩
theorem mk_least_rule (X : K.In h) (G : h.Ns mainGlobals mg) (a : PySem.W.nsIn K mainGlobals "least_rule" = some (some (.ref f))) (l : K.lookup f = some ⟨oc, od, .func (PySem.W.fnOf "least_rule" "least_rule" (defArgs s_least_rule) (defBody s_least_rule) (defScope s_least_rule) .none kV dc pm an cd ct), sl⟩) (c1 : PySem.W.codeIn K cd "least_rule" = true) (k : PySem.W.keepIn K (.ref f) = true) : Df K mg "least_rule" s_least_rule ["degree", "prime"] := ⟨f, _, fun_mk l c1 k, PySem.W.mg_of X G a, (fun_mk l c1 k).binds fun _ _ _ _ _ _ us hl => match us, hl with | [_, _], _ => rfl⟩
theorem mk_least_whole (X : K.In h) (G : h.Ns mainGlobals mg) (a : PySem.W.nsIn K mainGlobals "least_whole" = some (some (.ref f))) (l : K.lookup f = some ⟨oc, od, .func (PySem.W.fnOf "least_whole" "least_whole" (defArgs s_least_whole) (defBody s_least_whole) (defScope s_least_whole) .none (.ref D) dc pm an cd ct), sl⟩) (c1 : PySem.W.codeIn K cd "least_whole" = true) (k : PySem.W.keepIn K (.ref f) = true) {u : Value} (p : PySem.W.nsIn K D "prime" = some (some u)) (pe : u = .int 2 t) : DfK K mg "least_whole" s_least_whole ["degree", "prime"] 1 := by
  have F : FunD K "least_whole" "least_whole" (defArgs s_least_whole) (defBody s_least_whole) (defScope s_least_whole) [] [("prime", V.int 2)] f _ := ⟨⟨oc, od, .none, .ref D, dc, pm, an, cd, ct, sl, rfl, l, c1, .inl ⟨rfl, rfl⟩, .inr ⟨D, rfl, fun q hq => by rw [List.mem_singleton.mp hq]; exact ⟨u, p, ⟨t, pe⟩⟩⟩⟩, k⟩
  exact ⟨f, _, F, PySem.W.mg_of X G a, ⟨fun s us ws X l1 l2 => match us, ws, l1, l2 with | [_], [_], _, _ => .of_eq rfl, fun r1 r2 => r1.append r2⟩, F.binds0 1 (by simp) rfl fun D doc pm an cdv ct us ks h1 h2 => match us, ks, h1, h2 with | [_], [_], _, _ => ⟨_, _, _, _, _, _, rfl, rfl, rfl⟩⟩
theorem mk_is_whole (X : K.In h) (G : h.Ns mainGlobals mg) (a : PySem.W.nsIn K mainGlobals "is_whole" = some (some (.ref f))) (l : K.lookup f = some ⟨oc, od, .func (PySem.W.fnOf "is_whole" "is_whole" (defArgs s_is_whole) (defBody s_is_whole) (defScope s_is_whole) .none (.ref D) dc pm an cd ct), sl⟩) (c1 : PySem.W.codeIn K cd "is_whole" = true) (k : PySem.W.keepIn K (.ref f) = true) {u : Value} (p : PySem.W.nsIn K D "prime" = some (some u)) (pe : u = .int 2 t) : DfK K mg "is_whole" s_is_whole ["poly", "prime"] 1 := by
  have F : FunD K "is_whole" "is_whole" (defArgs s_is_whole) (defBody s_is_whole) (defScope s_is_whole) [] [("prime", V.int 2)] f _ := ⟨⟨oc, od, .none, .ref D, dc, pm, an, cd, ct, sl, rfl, l, c1, .inl ⟨rfl, rfl⟩, .inr ⟨D, rfl, fun q hq => by rw [List.mem_singleton.mp hq]; exact ⟨u, p, ⟨t, pe⟩⟩⟩⟩, k⟩
  exact ⟨f, _, F, PySem.W.mg_of X G a, ⟨fun s us ws X l1 l2 => match us, ws, l1, l2 with | [_], [_], _, _ => .of_eq rfl, fun r1 r2 => r1.append r2⟩, F.binds0 1 (by simp) rfl fun D doc pm an cdv ct us ks h1 h2 => match us, ks, h1, h2 with | [_], [_], _, _ => ⟨_, _, _, _, _, _, rfl, rfl, rfl⟩⟩
theorem mk_parts (X : K.In h) (G : h.Ns mainGlobals mg) (a : PySem.W.nsIn K mainGlobals "parts" = some (some (.ref f))) (l : K.lookup f = some ⟨oc, od, .func (PySem.W.fnOf "parts" "parts" (defArgs s_parts) (defBody s_parts) (defScope s_parts) .none (.ref D) dc pm an cd ct), sl⟩) (c1 : PySem.W.codeIn K cd "parts" = true) (k : PySem.W.keepIn K (.ref f) = true) {u : Value} (p : PySem.W.nsIn K D "prime" = some (some u)) (pe : u = .int 2 t) : DfK K mg "parts" s_parts ["poly", "prime"] 1 := by
  have F : FunD K "parts" "parts" (defArgs s_parts) (defBody s_parts) (defScope s_parts) [] [("prime", V.int 2)] f _ := ⟨⟨oc, od, .none, .ref D, dc, pm, an, cd, ct, sl, rfl, l, c1, .inl ⟨rfl, rfl⟩, .inr ⟨D, rfl, fun q hq => by rw [List.mem_singleton.mp hq]; exact ⟨u, p, ⟨t, pe⟩⟩⟩⟩, k⟩
  exact ⟨f, _, F, PySem.W.mg_of X G a, ⟨fun s us ws X l1 l2 => match us, ws, l1, l2 with | [_], [_], _, _ => .of_eq rfl, fun r1 r2 => r1.append r2⟩, F.binds0 1 (by simp) rfl fun D doc pm an cdv ct us ks h1 h2 => match us, ks, h1, h2 with | [_], [_], _, _ => ⟨_, _, _, _, _, _, rfl, rfl, rfl⟩⟩
theorem mk_paper (X : K.In h) (G : h.Ns mainGlobals mg) (a : PySem.W.nsIn K mainGlobals "paper" = some (some (.ref f))) (l : K.lookup f = some ⟨oc, od, .func (PySem.W.fnOf "paper" "paper" (defArgs s_paper) (defBody s_paper) (defScope s_paper) .none (.ref D) dc pm an cd ct), sl⟩) (c1 : PySem.W.codeIn K cd "paper" = true) (k : PySem.W.keepIn K (.ref f) = true) {u : Value} (p : PySem.W.nsIn K D "prime" = some (some u)) (pe : u = .int 2 t) : DfK K mg "paper" s_paper ["poly", "prime"] 1 := by
  have F : FunD K "paper" "paper" (defArgs s_paper) (defBody s_paper) (defScope s_paper) [] [("prime", V.int 2)] f _ := ⟨⟨oc, od, .none, .ref D, dc, pm, an, cd, ct, sl, rfl, l, c1, .inl ⟨rfl, rfl⟩, .inr ⟨D, rfl, fun q hq => by rw [List.mem_singleton.mp hq]; exact ⟨u, p, ⟨t, pe⟩⟩⟩⟩, k⟩
  exact ⟨f, _, F, PySem.W.mg_of X G a, ⟨fun s us ws X l1 l2 => match us, ws, l1, l2 with | [_], [_], _, _ => .of_eq rfl, fun r1 r2 => r1.append r2⟩, F.binds0 1 (by simp) rfl fun D doc pm an cdv ct us ks h1 h2 => match us, ks, h1, h2 with | [_], [_], _, _ => ⟨_, _, _, _, _, _, rfl, rfl, rfl⟩⟩
theorem mk_paper_holds (X : K.In h) (G : h.Ns mainGlobals mg) (a : PySem.W.nsIn K mainGlobals "paper_holds" = some (some (.ref f))) (l : K.lookup f = some ⟨oc, od, .func (PySem.W.fnOf "paper_holds" "paper_holds" (defArgs s_paper_holds) (defBody s_paper_holds) (defScope s_paper_holds) .none (.ref D) dc pm an cd ct), sl⟩) (c1 : PySem.W.codeIn K cd "paper_holds" = true) (k : PySem.W.keepIn K (.ref f) = true) {u : Value} (p : PySem.W.nsIn K D "prime" = some (some u)) (pe : u = .int 2 t) : DfK K mg "paper_holds" s_paper_holds ["poly", "told", "prime"] 2 := by
  have F : FunD K "paper_holds" "paper_holds" (defArgs s_paper_holds) (defBody s_paper_holds) (defScope s_paper_holds) [] [("prime", V.int 2)] f _ := ⟨⟨oc, od, .none, .ref D, dc, pm, an, cd, ct, sl, rfl, l, c1, .inl ⟨rfl, rfl⟩, .inr ⟨D, rfl, fun q hq => by rw [List.mem_singleton.mp hq]; exact ⟨u, p, ⟨t, pe⟩⟩⟩⟩, k⟩
  exact ⟨f, _, F, PySem.W.mg_of X G a, ⟨fun s us ws X l1 l2 => match us, ws, l1, l2 with | [_, _], [_], _, _ => .of_eq rfl, fun r1 r2 => r1.append r2⟩, F.binds0 2 (by simp) rfl fun D doc pm an cdv ct us ks h1 h2 => match us, ks, h1, h2 with | [_, _], [_], _, _ => ⟨_, _, _, _, _, _, rfl, rfl, rfl⟩⟩
theorem mk__law_primes (X : K.In h) (G : h.Ns mainGlobals mg) (a : PySem.W.nsIn K mainGlobals "_law_primes" = some (some (.ref f))) (l : K.lookup f = some ⟨oc, od, .func (PySem.W.fnOf "_law_primes" "_law_primes" (defArgs s__law_primes) (defBody s__law_primes) (defScope s__law_primes) .none kV dc pm an cd ct), sl⟩) (c1 : PySem.W.codeIn K cd "_law_primes" = true) (k : PySem.W.keepIn K (.ref f) = true) : Df K mg "_law_primes" s__law_primes [] := ⟨f, _, fun_mk l c1 k, PySem.W.mg_of X G a, (fun_mk l c1 k).binds fun _ _ _ _ _ _ us hl => match us, hl with | [], _ => rfl⟩
theorem mk__law_trim (X : K.In h) (G : h.Ns mainGlobals mg) (a : PySem.W.nsIn K mainGlobals "_law_trim" = some (some (.ref f))) (l : K.lookup f = some ⟨oc, od, .func (PySem.W.fnOf "_law_trim" "_law_trim" (defArgs s__law_trim) (defBody s__law_trim) (defScope s__law_trim) .none kV dc pm an cd ct), sl⟩) (c1 : PySem.W.codeIn K cd "_law_trim" = true) (k : PySem.W.keepIn K (.ref f) = true) : Df K mg "_law_trim" s__law_trim ["_law_numbers"] := ⟨f, _, fun_mk l c1 k, PySem.W.mg_of X G a, (fun_mk l c1 k).binds fun _ _ _ _ _ _ us hl => match us, hl with | [_], _ => rfl⟩
theorem mk__law_blend (X : K.In h) (G : h.Ns mainGlobals mg) (a : PySem.W.nsIn K mainGlobals "_law_blend" = some (some (.ref f))) (l : K.lookup f = some ⟨oc, od, .func (PySem.W.fnOf "_law_blend" "_law_blend" (defArgs s__law_blend) (defBody s__law_blend) (defScope s__law_blend) .none kV dc pm an cd ct), sl⟩) (c1 : PySem.W.codeIn K cd "_law_blend" = true) (k : PySem.W.keepIn K (.ref f) = true) : Df K mg "_law_blend" s__law_blend ["_law_one", "_law_other", "_law_weight", "_law_p"] := ⟨f, _, fun_mk l c1 k, PySem.W.mg_of X G a, (fun_mk l c1 k).binds fun _ _ _ _ _ _ us hl => match us, hl with | [_, _, _, _], _ => rfl⟩
theorem mk__law_conv (X : K.In h) (G : h.Ns mainGlobals mg) (a : PySem.W.nsIn K mainGlobals "_law_conv" = some (some (.ref f))) (l : K.lookup f = some ⟨oc, od, .func (PySem.W.fnOf "_law_conv" "_law_conv" (defArgs s__law_conv) (defBody s__law_conv) (defScope s__law_conv) .none kV dc pm an cd ct), sl⟩) (c1 : PySem.W.codeIn K cd "_law_conv" = true) (k : PySem.W.keepIn K (.ref f) = true) : Df K mg "_law_conv" s__law_conv ["_law_one", "_law_other", "_law_p"] := ⟨f, _, fun_mk l c1 k, PySem.W.mg_of X G a, (fun_mk l c1 k).binds fun _ _ _ _ _ _ us hl => match us, hl with | [_, _, _], _ => rfl⟩
theorem mk__law_mul (X : K.In h) (G : h.Ns mainGlobals mg) (a : PySem.W.nsIn K mainGlobals "_law_mul" = some (some (.ref f))) (l : K.lookup f = some ⟨oc, od, .func (PySem.W.fnOf "_law_mul" "_law_mul" (defArgs s__law_mul) (defBody s__law_mul) (defScope s__law_mul) .none kV dc pm an cd ct), sl⟩) (c1 : PySem.W.codeIn K cd "_law_mul" = true) (k : PySem.W.keepIn K (.ref f) = true) : Df K mg "_law_mul" s__law_mul ["_law_one", "_law_other", "_law_p"] := ⟨f, _, fun_mk l c1 k, PySem.W.mg_of X G a, (fun_mk l c1 k).binds fun _ _ _ _ _ _ us hl => match us, hl with | [_, _, _], _ => rfl⟩
theorem mk__law_back (X : K.In h) (G : h.Ns mainGlobals mg) (a : PySem.W.nsIn K mainGlobals "_law_back" = some (some (.ref f))) (l : K.lookup f = some ⟨oc, od, .func (PySem.W.fnOf "_law_back" "_law_back" (defArgs s__law_back) (defBody s__law_back) (defScope s__law_back) .none kV dc pm an cd ct), sl⟩) (c1 : PySem.W.codeIn K cd "_law_back" = true) (k : PySem.W.keepIn K (.ref f) = true) : Df K mg "_law_back" s__law_back ["_law_number", "_law_p"] := ⟨f, _, fun_mk l c1 k, PySem.W.mg_of X G a, (fun_mk l c1 k).binds fun _ _ _ _ _ _ us hl => match us, hl with | [_, _], _ => rfl⟩
theorem mk__law_cut_by (X : K.In h) (G : h.Ns mainGlobals mg) (a : PySem.W.nsIn K mainGlobals "_law_cut_by" = some (some (.ref f))) (l : K.lookup f = some ⟨oc, od, .func (PySem.W.fnOf "_law_cut_by" "_law_cut_by" (defArgs s__law_cut_by) (defBody s__law_cut_by) (defScope s__law_cut_by) .none kV dc pm an cd ct), sl⟩) (c1 : PySem.W.codeIn K cd "_law_cut_by" = true) (k : PySem.W.keepIn K (.ref f) = true) : Df K mg "_law_cut_by" s__law_cut_by ["_law_one", "_law_other", "_law_p"] := ⟨f, _, fun_mk l c1 k, PySem.W.mg_of X G a, (fun_mk l c1 k).binds fun _ _ _ _ _ _ us hl => match us, hl with | [_, _, _], _ => rfl⟩
theorem mk__law_rem (X : K.In h) (G : h.Ns mainGlobals mg) (a : PySem.W.nsIn K mainGlobals "_law_rem" = some (some (.ref f))) (l : K.lookup f = some ⟨oc, od, .func (PySem.W.fnOf "_law_rem" "_law_rem" (defArgs s__law_rem) (defBody s__law_rem) (defScope s__law_rem) .none kV dc pm an cd ct), sl⟩) (c1 : PySem.W.codeIn K cd "_law_rem" = true) (k : PySem.W.keepIn K (.ref f) = true) : Df K mg "_law_rem" s__law_rem ["_law_one", "_law_other", "_law_p"] := ⟨f, _, fun_mk l c1 k, PySem.W.mg_of X G a, (fun_mk l c1 k).binds fun _ _ _ _ _ _ us hl => match us, hl with | [_, _, _], _ => rfl⟩
theorem mk__law_lift (X : K.In h) (G : h.Ns mainGlobals mg) (a : PySem.W.nsIn K mainGlobals "_law_lift" = some (some (.ref f))) (l : K.lookup f = some ⟨oc, od, .func (PySem.W.fnOf "_law_lift" "_law_lift" (defArgs s__law_lift) (defBody s__law_lift) (defScope s__law_lift) .none kV dc pm an cd ct), sl⟩) (c1 : PySem.W.codeIn K cd "_law_lift" = true) (k : PySem.W.keepIn K (.ref f) = true) : Df K mg "_law_lift" s__law_lift ["_law_one", "_law_exponent", "_law_rule", "_law_p"] := ⟨f, _, fun_mk l c1 k, PySem.W.mg_of X G a, (fun_mk l c1 k).binds fun _ _ _ _ _ _ us hl => match us, hl with | [_, _, _, _], _ => rfl⟩
theorem mk__law_shifted (X : K.In h) (G : h.Ns mainGlobals mg) (a : PySem.W.nsIn K mainGlobals "_law_shifted" = some (some (.ref f))) (l : K.lookup f = some ⟨oc, od, .func (PySem.W.fnOf "_law_shifted" "_law_shifted" (defArgs s__law_shifted) (defBody s__law_shifted) (defScope s__law_shifted) .none kV dc pm an cd ct), sl⟩) (c1 : PySem.W.codeIn K cd "_law_shifted" = true) (k : PySem.W.keepIn K (.ref f) = true) : Df K mg "_law_shifted" s__law_shifted ["_law_poly", "_law_by", "_law_p"] := ⟨f, _, fun_mk l c1 k, PySem.W.mg_of X G a, (fun_mk l c1 k).binds fun _ _ _ _ _ _ us hl => match us, hl with | [_, _, _], _ => rfl⟩
theorem mk__law_take (X : K.In h) (G : h.Ns mainGlobals mg) (a : PySem.W.nsIn K mainGlobals "_law_take" = some (some (.ref f))) (l : K.lookup f = some ⟨oc, od, .func (PySem.W.fnOf "_law_take" "_law_take" (defArgs s__law_take) (defBody s__law_take) (defScope s__law_take) .none kV dc pm an cd ct), sl⟩) (c1 : PySem.W.codeIn K cd "_law_take" = true) (k : PySem.W.keepIn K (.ref f) = true) : Df K mg "_law_take" s__law_take ["_law_draw", "_law_sides"] := ⟨f, _, fun_mk l c1 k, PySem.W.mg_of X G a, (fun_mk l c1 k).binds fun _ _ _ _ _ _ us hl => match us, hl with | [_, _], _ => rfl⟩
theorem mk__law_begin (X : K.In h) (G : h.Ns mainGlobals mg) (a : PySem.W.nsIn K mainGlobals "_law_begin" = some (some (.ref f))) (l : K.lookup f = some ⟨oc, od, .func (PySem.W.fnOf "_law_begin" "_law_begin" (defArgs s__law_begin) (defBody s__law_begin) (defScope s__law_begin) .none kV dc pm an cd ct), sl⟩) (c1 : PySem.W.codeIn K cd "_law_begin" = true) (k : PySem.W.keepIn K (.ref f) = true) : Df K mg "_law_begin" s__law_begin ["_law_script"] := ⟨f, _, fun_mk l c1 k, PySem.W.mg_of X G a, (fun_mk l c1 k).binds fun _ _ _ _ _ _ us hl => match us, hl with | [_], _ => rfl⟩
theorem mk__law_of (X : K.In h) (G : h.Ns mainGlobals mg) (a : PySem.W.nsIn K mainGlobals "_law_of" = some (some (.ref f))) (l : K.lookup f = some ⟨oc, od, .func (PySem.W.fnOf "_law_of" "_law_of" (defArgs s__law_of) (defBody s__law_of) (defScope s__law_of) .none kV dc pm an cd ct), sl⟩) (c1 : PySem.W.codeIn K cd "_law_of" = true) (k : PySem.W.keepIn K (.ref f) = true) : Df K mg "_law_of" s__law_of ["_law_draw", "_law_row"] := ⟨f, _, fun_mk l c1 k, PySem.W.mg_of X G a, (fun_mk l c1 k).binds fun _ _ _ _ _ _ us hl => match us, hl with | [_, _], _ => rfl⟩
theorem mk__law_rests (X : K.In h) (G : h.Ns mainGlobals mg) (a : PySem.W.nsIn K mainGlobals "_law_rests" = some (some (.ref f))) (l : K.lookup f = some ⟨oc, od, .func (PySem.W.fnOf "_law_rests" "_law_rests" (defArgs s__law_rests) (defBody s__law_rests) (defScope s__law_rests) .none kV dc pm an cd ct), sl⟩) (c1 : PySem.W.codeIn K cd "_law_rests" = true) (k : PySem.W.keepIn K (.ref f) = true) : Df K mg "_law_rests" s__law_rests ["_law_draw", "_law_many", "_law_p"] := ⟨f, _, fun_mk l c1 k, PySem.W.mg_of X G a, (fun_mk l c1 k).binds fun _ _ _ _ _ _ us hl => match us, hl with | [_, _, _], _ => rfl⟩
theorem mk__law_level (X : K.In h) (G : h.Ns mainGlobals mg) (a : PySem.W.nsIn K mainGlobals "_law_level" = some (some (.ref f))) (l : K.lookup f = some ⟨oc, od, .func (PySem.W.fnOf "_law_level" "_law_level" (defArgs s__law_level) (defBody s__law_level) (defScope s__law_level) .none kV dc pm an cd ct), sl⟩) (c1 : PySem.W.codeIn K cd "_law_level" = true) (k : PySem.W.keepIn K (.ref f) = true) : Df K mg "_law_level" s__law_level ["_law_draw", "_law_degree", "_law_p"] := ⟨f, _, fun_mk l c1 k, PySem.W.mg_of X G a, (fun_mk l c1 k).binds fun _ _ _ _ _ _ us hl => match us, hl with | [_, _, _], _ => rfl⟩
theorem mk__law_great (X : K.In h) (G : h.Ns mainGlobals mg) (a : PySem.W.nsIn K mainGlobals "_law_great" = some (some (.ref f))) (l : K.lookup f = some ⟨oc, od, .func (PySem.W.fnOf "_law_great" "_law_great" (defArgs s__law_great) (defBody s__law_great) (defScope s__law_great) .none kV dc pm an cd ct), sl⟩) (c1 : PySem.W.codeIn K cd "_law_great" = true) (k : PySem.W.keepIn K (.ref f) = true) : Df K mg "_law_great" s__law_great ["_law_draw"] := ⟨f, _, fun_mk l c1 k, PySem.W.mg_of X G a, (fun_mk l c1 k).binds fun _ _ _ _ _ _ us hl => match us, hl with | [_], _ => rfl⟩
theorem mk__law_great_rule (X : K.In h) (G : h.Ns mainGlobals mg) (a : PySem.W.nsIn K mainGlobals "_law_great_rule" = some (some (.ref f))) (l : K.lookup f = some ⟨oc, od, .func (PySem.W.fnOf "_law_great_rule" "_law_great_rule" (defArgs s__law_great_rule) (defBody s__law_great_rule) (defScope s__law_great_rule) .none kV dc pm an cd ct), sl⟩) (c1 : PySem.W.codeIn K cd "_law_great_rule" = true) (k : PySem.W.keepIn K (.ref f) = true) : Df K mg "_law_great_rule" s__law_great_rule ["_law_draw", "_law_degree", "_law_p"] := ⟨f, _, fun_mk l c1 k, PySem.W.mg_of X G a, (fun_mk l c1 k).binds fun _ _ _ _ _ _ us hl => match us, hl with | [_, _, _], _ => rfl⟩
theorem mk__law_same (X : K.In h) (G : h.Ns mainGlobals mg) (a : PySem.W.nsIn K mainGlobals "_law_same" = some (some (.ref f))) (l : K.lookup f = some ⟨oc, od, .func (PySem.W.fnOf "_law_same" "_law_same" (defArgs s__law_same) (defBody s__law_same) (defScope s__law_same) .none kV dc pm an cd ct), sl⟩) (c1 : PySem.W.codeIn K cd "_law_same" = true) (k : PySem.W.keepIn K (.ref f) = true) : Df K mg "_law_same" s__law_same ["_law_found", "_law_due"] := ⟨f, _, fun_mk l c1 k, PySem.W.mg_of X G a, (fun_mk l c1 k).binds fun _ _ _ _ _ _ us hl => match us, hl with | [_, _], _ => rfl⟩
theorem mk__law_walked (X : K.In h) (G : h.Ns mainGlobals mg) (a : PySem.W.nsIn K mainGlobals "_law_walked" = some (some (.ref f))) (l : K.lookup f = some ⟨oc, od, .func (PySem.W.fnOf "_law_walked" "_law_walked" (defArgs s__law_walked) (defBody s__law_walked) (defScope s__law_walked) .none kV dc pm an cd ct), sl⟩) (c1 : PySem.W.codeIn K cd "_law_walked" = true) (k : PySem.W.keepIn K (.ref f) = true) : Df K mg "_law_walked" s__law_walked ["_law_one", "_law_told", "_law_p"] := ⟨f, _, fun_mk l c1 k, PySem.W.mg_of X G a, (fun_mk l c1 k).binds fun _ _ _ _ _ _ us hl => match us, hl with | [_, _, _], _ => rfl⟩
theorem mk_law (X : K.In h) (G : h.Ns mainGlobals mg) (a : PySem.W.nsIn K mainGlobals "law" = some (some (.ref f))) (l : K.lookup f = some ⟨oc, od, .func (PySem.W.fnOf "law" "law" (defArgs s_law) (defBody s_law) (defScope s_law) .none kV dc pm an cd ct), sl⟩) (c1 : PySem.W.codeIn K cd "law" = true) (k : PySem.W.keepIn K (.ref f) = true) : Df K mg "law" s_law ["_law_script"] := ⟨f, _, fun_mk l c1 k, PySem.W.mg_of X G a, (fun_mk l c1 k).binds fun _ _ _ _ _ _ us hl => match us, hl with | [_], _ => rfl⟩
def ivs : List Value → Option (List Int)
  | [] => some []
  | .int i _ :: r => (ivs r).map (i :: ·)
  | _ :: _ => none
theorem vals_ivs : ∀ {vs : List Value} {xs : List Int}, ivs vs = some xs → Vals (xs.map V.int) vs
  | [], xs, e => by cases e; exact .nil
  | v :: vs, xs, e => by
    cases v with
    | int i t =>
      rw [ivs] at e
      cases h : ivs vs with
      | none => rw [h] at e; cases e
      | some ys => rw [h] at e; cases e; exact .cons ⟨_, rfl⟩ (vals_ivs h)
    | _ => cases e
theorem sq_mk {a : Addr} {its : Array Value} {n : Nat} {d : Option Addr} {xs : List Int} (l : K.lookup a = some ⟨.type "tuple", d, .seq its n, sl⟩) (e : ivs its.toList = some xs) (hs : decide (its.size ≤ sizeLine) = true) (H : Hp) : SqT K H a (xs.map V.int) :=
  .inr ⟨_, its, n, l, rfl, rfl, of_decide_eq_true hs, vals_ivs e⟩
theorem mg_int {x : Str} {v : Value} {i : Int} (X : K.In h) (G : h.Ns mainGlobals mg) (a : PySem.W.nsIn K mainGlobals x = some (some v)) (e : v = .int i t) : mg x = some (.int i t) := by
  rw [← e]; exact PySem.W.mg_of X G a
theorem law_at {l : PySem.W.OpenLaw} {w : World} {fa P' : Addr} (F : Facts K mg c) (hmg : mg "law" = some (.ref fa)) (hT : h.get? P' = some { cls := .none, data := .fields #[] }) (nT : K.lookup P' = none) (C : PySem.W.CodeHd h c P') :
    LamX.LawAtS l w K CX0 12 63 "_law_script" mg fa h := by
  obtain ⟨f, fd, Fn, m, b⟩ := F.d_law.ex
  have e := hmg.symm.trans m
  cases e
  obtain ⟨_, _, _, _, _, _, _, _, _, hfd, _⟩ := Fn.ex
  refine ⟨fd, [(c, P')], p_law K [(P', qIR)], fun p hp => by rw [List.mem_singleton.mp hp]; exact hT, fun p hp => by rw [List.mem_singleton.mp hp]; exact nT, fun p hp => by rw [List.mem_singleton.mp hp]; exact C, ?_, ?_, ?_⟩
  · intro s u
    subst hfd
    exact .of_eq rfl
  · intro H a ns hl _ hH hS
    exact ⟨a, ns, rfl, hS, fun p hp => by rw [List.mem_singleton.mp hp]; exact LamX.TabS.nil (hH _ List.mem_cons_self), fun v _ e => e⟩
  · intro base _ _ TB
    exact all_ok F Fn (TB _ List.mem_cons_self)
end Rw
end
section
open PySem PySem.W PyProof.Rows
set_option maxRecDepth 100000 in
set_option maxHeartbeats 0 in
theorem PySem.Challenge.cw_rungfields_k12_papers_of_wholeness_holds : PySem.Challenge.rw_rungfields_k12_papers_of_wholeness.Holds := by
  w_on; o_law; k_head; (case hw => w_witness2)
  k_fill
  refine LamX.walk_ofTs (l := PySem.Challenge.rw_rungfields_k12_papers_of_wholeness) (n := 63) (k := 12) (x := "_law_script") (CX := fun _ => L2.CX0) rfl (by decide) rfl ⟨rfl, by decide, by decide⟩ (fun w h Y => PySem.W.km_in_of Y) ?F (fun _ _ _ _ _ z => z)
  intro w mg fa h Y KX G hmg
  have HT := PySem.W.km_tabs_of Y _ List.mem_cons_self
  refine Rw.law_at (c := ?cc) ?FF hmg HT ?nT (PySem.W.codeHd_of_K KX ?cH)
  case FF =>
    refine' ⟨?bt, ?gb, ?d_raised, ?d_turned_over, ?d_is_prime, ?d_need_prime, ?d_is_rest, ?d_cut, ?d_widened, ?d_blended, ?d_less, ?d_scaled, ?d_levelled, ?d_worth_at, ?d_sloped, ?d_multiplied, ?d_divided, ?d_left_by, ?d_left_raised, ?d_put_through, ?d_shared, ?d_is_poly, ?d_need_polys, ?d_lessened, ?d_lowered, ?d_in_order, ?d_steps_of, ?d_idle_of, ?d_powers_left, ?d_still_of, ?d_thinned, ?d_halved, ?d_stands_whole, ?d_pieces_of, ?d_all_parts, ?d_in_rank, ?d_turns_of, ?d_shows_of, ?d_turns_hold, ?d_whole_holds, ?d_next_digits, ?d_least_rule, ?d_least_whole, ?d_is_whole, ?d_parts, ?d_paper, ?d_paper_holds, ?d__law_primes, ?d__law_trim, ?d__law_blend, ?d__law_conv, ?d__law_mul, ?d__law_back, ?d__law_cut_by, ?d__law_rem, ?d__law_lift, ?d__law_shifted, ?d__law_take, ?d__law_begin, ?d__law_of, ?d__law_rests, ?d__law_level, ?d__law_great, ?d__law_great_rule, ?d__law_same, ?d__law_walked, ?d_law⟩
    case bt =>
      refine' ⟨PySem.W.mg_none_of KX G ?z0, PySem.W.mg_none_of KX G ?z1, PySem.W.mg_none_of KX G ?z2, PySem.W.mg_none_of KX G ?z3, PySem.W.mg_none_of KX G ?z4, PySem.W.mg_none_of KX G ?z5, PySem.W.mg_none_of KX G ?z6, PySem.W.mg_none_of KX G ?z7, PySem.W.mg_none_of KX G ?z8, PySem.W.mg_none_of KX G ?z9, PySem.W.mg_none_of KX G ?z10, PySem.W.mg_none_of KX G ?z11, PySem.W.mg_none_of KX G ?z12, PySem.W.mg_none_of KX G ?z13, PySem.W.mg_none_of KX G ?z14⟩
      all_goals k_is
    case gb =>
      refine' ⟨_, _, _, PySem.W.mg_of KX G ?p1, PySem.W.mg_of KX G ?p2, PySem.W.mg_of KX G ?p3, _, _, Rw.mg_int KX G ?p4 ?v4, Rw.mg_int KX G ?p5 ?v5, Rw.sq_mk ?l1 ?e1 ?s1, Rw.sq_mk ?l2 ?e2 ?s2, Rw.sq_mk ?l3 ?e3 ?s3⟩
      (case p1 => k_is)
      (case p2 => k_is)
      (case p3 => k_is)
      (case p4 => k_is)
      (case v4 => rfl)
      (case p5 => k_is)
      (case v5 => rfl)
      (case l1 => k_is)
      (case l2 => k_is)
      (case l3 => k_is)
      (case e1 => decide +kernel)
      (case e2 => decide +kernel)
      (case e3 => decide +kernel)
      (case s1 => decide +kernel)
      (case s2 => decide +kernel)
      (case s3 => decide +kernel)
    case d_raised =>
      refine' Rw.mk_raised KX G ?a ?l ?c1 ?k
      (case a => k_is); (case l => k_is); (case c1 => k_is); (case k => k_is)
    case d_turned_over =>
      refine' Rw.mk_turned_over KX G ?a ?l ?c1 ?k
      (case a => k_is); (case l => k_is); (case c1 => k_is); (case k => k_is)
    case d_is_prime =>
      refine' Rw.mk_is_prime KX G ?a ?l ?c1 ?k
      (case a => k_is); (case l => k_is); (case c1 => k_is); (case k => k_is)
    case d_need_prime =>
      refine' Rw.mk_need_prime KX G ?a ?l ?c1 ?k
      (case a => k_is); (case l => k_is); (case c1 => k_is); (case k => k_is)
    case d_is_rest =>
      refine' Rw.mk_is_rest KX G ?a ?l ?c1 ?k
      (case a => k_is); (case l => k_is); (case c1 => k_is); (case k => k_is)
    case d_cut =>
      refine' Rw.mk_cut KX G ?a ?l ?c1 ?k
      (case a => k_is); (case l => k_is); (case c1 => k_is); (case k => k_is)
    case d_widened =>
      refine' Rw.mk_widened KX G ?a ?l ?c1 ?k
      (case a => k_is); (case l => k_is); (case c1 => k_is); (case k => k_is)
    case d_blended =>
      refine' Rw.mk_blended KX G ?a ?l ?c1 ?k
      (case a => k_is); (case l => k_is); (case c1 => k_is); (case k => k_is)
    case d_less =>
      refine' Rw.mk_less KX G ?a ?l ?c1 ?k
      (case a => k_is); (case l => k_is); (case c1 => k_is); (case k => k_is)
    case d_scaled =>
      refine' Rw.mk_scaled KX G ?a ?l ?c1 ?k
      (case a => k_is); (case l => k_is); (case c1 => k_is); (case k => k_is)
    case d_levelled =>
      refine' Rw.mk_levelled KX G ?a ?l ?c1 ?k
      (case a => k_is); (case l => k_is); (case c1 => k_is); (case k => k_is)
    case d_worth_at =>
      refine' Rw.mk_worth_at KX G ?a ?l ?c1 ?k
      (case a => k_is); (case l => k_is); (case c1 => k_is); (case k => k_is)
    case d_sloped =>
      refine' Rw.mk_sloped KX G ?a ?l ?c1 ?k
      (case a => k_is); (case l => k_is); (case c1 => k_is); (case k => k_is)
    case d_multiplied =>
      refine' Rw.mk_multiplied KX G ?a ?l ?c1 ?k
      (case a => k_is); (case l => k_is); (case c1 => k_is); (case k => k_is)
    case d_divided =>
      refine' Rw.mk_divided KX G ?a ?l ?c1 ?k
      (case a => k_is); (case l => k_is); (case c1 => k_is); (case k => k_is)
    case d_left_by =>
      refine' Rw.mk_left_by KX G ?a ?l ?c1 ?k
      (case a => k_is); (case l => k_is); (case c1 => k_is); (case k => k_is)
    case d_left_raised =>
      refine' Rw.mk_left_raised KX G ?a ?l ?c1 ?k
      (case a => k_is); (case l => k_is); (case c1 => k_is); (case k => k_is)
    case d_put_through =>
      refine' Rw.mk_put_through KX G ?a ?l ?c1 ?k
      (case a => k_is); (case l => k_is); (case c1 => k_is); (case k => k_is)
    case d_shared =>
      refine' Rw.mk_shared KX G ?a ?l ?c1 ?k
      (case a => k_is); (case l => k_is); (case c1 => k_is); (case k => k_is)
    case d_is_poly =>
      refine' Rw.mk_is_poly KX G ?a ?l ?c1 ?k
      (case a => k_is); (case l => k_is); (case c1 => k_is); (case k => k_is)
    case d_need_polys =>
      refine' Rw.mk_need_polys KX G ?a ?l ?c1 ?k
      (case a => k_is); (case l => k_is); (case c1 => k_is); (case k => k_is)
    case d_lessened =>
      refine' Rw.mk_lessened KX G ?a ?l ?c1 ?k
      (case a => k_is); (case l => k_is); (case c1 => k_is); (case k => k_is)
    case d_lowered =>
      refine' Rw.mk_lowered KX G ?a ?l ?c1 ?k
      (case a => k_is); (case l => k_is); (case c1 => k_is); (case k => k_is)
    case d_in_order =>
      refine' Rw.mk_in_order KX G ?a ?l ?c1 ?k
      (case a => k_is); (case l => k_is); (case c1 => k_is); (case k => k_is)
    case d_steps_of =>
      refine' Rw.mk_steps_of KX G ?a ?l ?c1 ?k
      (case a => k_is); (case l => k_is); (case c1 => k_is); (case k => k_is)
    case d_idle_of =>
      refine' Rw.mk_idle_of KX G ?a ?l ?c1 ?k
      (case a => k_is); (case l => k_is); (case c1 => k_is); (case k => k_is)
    case d_powers_left =>
      refine' Rw.mk_powers_left KX G ?a ?l ?c1 ?k
      (case a => k_is); (case l => k_is); (case c1 => k_is); (case k => k_is)
    case d_still_of =>
      refine' Rw.mk_still_of KX G ?a ?l ?c1 ?k
      (case a => k_is); (case l => k_is); (case c1 => k_is); (case k => k_is)
    case d_thinned =>
      refine' Rw.mk_thinned KX G ?a ?l ?c1 ?k
      (case a => k_is); (case l => k_is); (case c1 => k_is); (case k => k_is)
    case d_halved =>
      refine' Rw.mk_halved KX G ?a ?l ?c1 ?k
      (case a => k_is); (case l => k_is); (case c1 => k_is); (case k => k_is)
    case d_stands_whole =>
      refine' Rw.mk_stands_whole KX G ?a ?l ?c1 ?k
      (case a => k_is); (case l => k_is); (case c1 => k_is); (case k => k_is)
    case d_pieces_of =>
      refine' Rw.mk_pieces_of KX G ?a ?l ?c1 ?k
      (case a => k_is); (case l => k_is); (case c1 => k_is); (case k => k_is)
    case d_all_parts =>
      refine' Rw.mk_all_parts KX G ?a ?l ?c1 ?k
      (case a => k_is); (case l => k_is); (case c1 => k_is); (case k => k_is)
    case d_in_rank =>
      refine' Rw.mk_in_rank KX G ?a ?l ?c1 ?k
      (case a => k_is); (case l => k_is); (case c1 => k_is); (case k => k_is)
    case d_turns_of =>
      refine' Rw.mk_turns_of KX G ?a ?l ?c1 ?k
      (case a => k_is); (case l => k_is); (case c1 => k_is); (case k => k_is)
    case d_shows_of =>
      refine' Rw.mk_shows_of KX G ?a ?l ?c1 ?k
      (case a => k_is); (case l => k_is); (case c1 => k_is); (case k => k_is)
    case d_turns_hold =>
      refine' Rw.mk_turns_hold KX G ?a ?l ?c1 ?k
      (case a => k_is); (case l => k_is); (case c1 => k_is); (case k => k_is)
    case d_whole_holds =>
      refine' Rw.mk_whole_holds KX G ?a ?l ?c1 ?k
      (case a => k_is); (case l => k_is); (case c1 => k_is); (case k => k_is)
    case d_next_digits =>
      refine' Rw.mk_next_digits KX G ?a ?l ?c1 ?k
      (case a => k_is); (case l => k_is); (case c1 => k_is); (case k => k_is)
    case d_least_rule =>
      refine' Rw.mk_least_rule KX G ?a ?l ?c1 ?k
      (case a => k_is); (case l => k_is); (case c1 => k_is); (case k => k_is)
    case d_least_whole =>
      refine' Rw.mk_least_whole KX G ?a ?l ?c1 ?k ?qp ?qe
      (case a => k_is); (case l => k_is); (case c1 => k_is); (case k => k_is); (case qp => k_is); (case qe => rfl)
    case d_is_whole =>
      refine' Rw.mk_is_whole KX G ?a ?l ?c1 ?k ?qp ?qe
      (case a => k_is); (case l => k_is); (case c1 => k_is); (case k => k_is); (case qp => k_is); (case qe => rfl)
    case d_parts =>
      refine' Rw.mk_parts KX G ?a ?l ?c1 ?k ?qp ?qe
      (case a => k_is); (case l => k_is); (case c1 => k_is); (case k => k_is); (case qp => k_is); (case qe => rfl)
    case d_paper =>
      refine' Rw.mk_paper KX G ?a ?l ?c1 ?k ?qp ?qe
      (case a => k_is); (case l => k_is); (case c1 => k_is); (case k => k_is); (case qp => k_is); (case qe => rfl)
    case d_paper_holds =>
      refine' Rw.mk_paper_holds KX G ?a ?l ?c1 ?k ?qp ?qe
      (case a => k_is); (case l => k_is); (case c1 => k_is); (case k => k_is); (case qp => k_is); (case qe => rfl)
    case d__law_primes =>
      refine' Rw.mk__law_primes KX G ?a ?l ?c1 ?k
      (case a => k_is); (case l => k_is); (case c1 => k_is); (case k => k_is)
    case d__law_trim =>
      refine' Rw.mk__law_trim KX G ?a ?l ?c1 ?k
      (case a => k_is); (case l => k_is); (case c1 => k_is); (case k => k_is)
    case d__law_blend =>
      refine' Rw.mk__law_blend KX G ?a ?l ?c1 ?k
      (case a => k_is); (case l => k_is); (case c1 => k_is); (case k => k_is)
    case d__law_conv =>
      refine' Rw.mk__law_conv KX G ?a ?l ?c1 ?k
      (case a => k_is); (case l => k_is); (case c1 => k_is); (case k => k_is)
    case d__law_mul =>
      refine' Rw.mk__law_mul KX G ?a ?l ?c1 ?k
      (case a => k_is); (case l => k_is); (case c1 => k_is); (case k => k_is)
    case d__law_back =>
      refine' Rw.mk__law_back KX G ?a ?l ?c1 ?k
      (case a => k_is); (case l => k_is); (case c1 => k_is); (case k => k_is)
    case d__law_cut_by =>
      refine' Rw.mk__law_cut_by KX G ?a ?l ?c1 ?k
      (case a => k_is); (case l => k_is); (case c1 => k_is); (case k => k_is)
    case d__law_rem =>
      refine' Rw.mk__law_rem KX G ?a ?l ?c1 ?k
      (case a => k_is); (case l => k_is); (case c1 => k_is); (case k => k_is)
    case d__law_lift =>
      refine' Rw.mk__law_lift KX G ?a ?l ?c1 ?k
      (case a => k_is); (case l => k_is); (case c1 => k_is); (case k => k_is)
    case d__law_shifted =>
      refine' Rw.mk__law_shifted KX G ?a ?l ?c1 ?k
      (case a => k_is); (case l => k_is); (case c1 => k_is); (case k => k_is)
    case d__law_take =>
      refine' Rw.mk__law_take KX G ?a ?l ?c1 ?k
      (case a => k_is); (case l => k_is); (case c1 => k_is); (case k => k_is)
    case d__law_begin =>
      refine' Rw.mk__law_begin KX G ?a ?l ?c1 ?k
      (case a => k_is); (case l => k_is); (case c1 => k_is); (case k => k_is)
    case d__law_of =>
      refine' Rw.mk__law_of KX G ?a ?l ?c1 ?k
      (case a => k_is); (case l => k_is); (case c1 => k_is); (case k => k_is)
    case d__law_rests =>
      refine' Rw.mk__law_rests KX G ?a ?l ?c1 ?k
      (case a => k_is); (case l => k_is); (case c1 => k_is); (case k => k_is)
    case d__law_level =>
      refine' Rw.mk__law_level KX G ?a ?l ?c1 ?k
      (case a => k_is); (case l => k_is); (case c1 => k_is); (case k => k_is)
    case d__law_great =>
      refine' Rw.mk__law_great KX G ?a ?l ?c1 ?k
      (case a => k_is); (case l => k_is); (case c1 => k_is); (case k => k_is)
    case d__law_great_rule =>
      refine' Rw.mk__law_great_rule KX G ?a ?l ?c1 ?k
      (case a => k_is); (case l => k_is); (case c1 => k_is); (case k => k_is)
    case d__law_same =>
      refine' Rw.mk__law_same KX G ?a ?l ?c1 ?k
      (case a => k_is); (case l => k_is); (case c1 => k_is); (case k => k_is)
    case d__law_walked =>
      refine' Rw.mk__law_walked KX G ?a ?l ?c1 ?k
      (case a => k_is); (case l => k_is); (case c1 => k_is); (case k => k_is)
    case d_law =>
      refine' Rw.mk_law KX G ?a ?l ?c1 ?k
      (case a => k_is); (case l => k_is); (case c1 => k_is); (case k => k_is)
  case nT => first | rfl | decide +kernel | k_is
  case cH => first | rfl | decide +kernel | k_is
end

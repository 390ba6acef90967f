import PyProof.Rows.All
import Wide.All
import OpenK.AllK
import Wide.FinOn
import HandS.ForMost
import HandS.Walk
import HandS.Evl
import HandS.Zip
import HandS.TupAny
import HandS.TupMul
import HandS.IsInst
import HandS.Style
import HandS.Words
import HandS.Conv
import KE.GoesEnum
import HandS.Sort
import KE.KDictSum
import KE.SortData
import PySem.Challenge.RW_mapwebs_k06_whole_polynomials_and_factor
import PyProof.P3Eq
set_option Elab.async false
section
set_option autoImplicit false
/-! Polynomials over a field, in plain Lean: the ring, degrees, division, Bezout, primes. -/
namespace Mw
open Lean.Grind

section Series
variable {R : Type} [CommRing R]
/-- the product of two series -/
def cmul : (Nat → R) → (Nat → R) → Nat → R
  | f, g, 0 => f 0 * g 0
  | f, g, n + 1 => f 0 * g (n + 1) + cmul (fun i => f (i + 1)) g n

theorem cmul_zero_left (g : Nat → R) : ∀ n, cmul (fun _ => 0) g n = 0
  | 0 => by simp only [cmul]; grind
  | n + 1 => by simp only [cmul]; rw [cmul_zero_left g n]; grind
theorem cmul_add_left (g : Nat → R) : ∀ (n : Nat) (f h : Nat → R), cmul (fun i => f i + h i) g n = cmul f g n + cmul h g n
  | 0, f, h => by simp only [cmul]; grind
  | n + 1, f, h => by
    simp only [cmul]; rw [cmul_add_left g n (fun i => f (i + 1)) (fun i => h (i + 1))]; grind
theorem cmul_smul_left (g : Nat → R) (a : R) : ∀ (n : Nat) (f : Nat → R), cmul (fun i => a * f i) g n = a * cmul f g n
  | 0, f => by simp only [cmul]; grind
  | n + 1, f => by
    simp only [cmul]; rw [cmul_smul_left g a n (fun i => f (i + 1))]; grind
theorem cmul_succ' (g : Nat → R) : ∀ (n : Nat) (f : Nat → R), cmul f g (n + 1) = cmul f (fun i => g (i + 1)) n + f (n + 1) * g 0
  | 0, f => by simp only [cmul]
  | n + 1, f => by
    rw [cmul, cmul_succ' g n (fun i => f (i + 1)), cmul]; grind
theorem cmul_comm : ∀ (n : Nat) (f g : Nat → R), cmul f g n = cmul g f n
  | 0, f, g => by simp only [cmul]; grind
  | n + 1, f, g => by
    rw [cmul_succ' g n f, cmul, cmul_comm n f]; grind
theorem cmul_assoc (h : Nat → R) : ∀ (n : Nat) (f g : Nat → R), cmul (cmul f g) h n = cmul f (cmul g h) n
  | 0, f, g => by simp only [cmul]; grind
  | n + 1, f, g => by
    have e : (fun i => cmul f g (i + 1)) = fun i => (f 0 * g (i + 1)) + cmul (fun i => f (i + 1)) g i := by
      funext i; rw [cmul]
    rw [cmul, e, cmul_add_left h n (fun i => f 0 * g (i + 1)), cmul_smul_left h (f 0) n (fun i => g (i + 1)), cmul_assoc h n (fun i => f (i + 1)) g]
    rw [show cmul f (cmul g h) (n + 1) = f 0 * cmul g h (n + 1) + cmul (fun i => f (i + 1)) (cmul g h) n by rw [cmul]]
    rw [show cmul g h (n + 1) = g 0 * h (n + 1) + cmul (fun i => g (i + 1)) h n by rw [cmul]]
    rw [show cmul f g 0 = f 0 * g 0 by rw [cmul]]
    grind
/-- a constant as a series -/
def cst (a : R) : Nat → R := fun i => if i = 0 then a else 0
theorem cmul_cst (a : R) (g : Nat → R) (n : Nat) : cmul (cst a) g n = a * g n := by
  have e : (fun i => cst a (i + 1)) = fun _ => (0 : R) := by
    funext i; simp [cst]
  cases n with
  | zero => simp [cmul, cst]
  | succ n => rw [cmul, e, cmul_zero_left]; simp [cst]; grind
/-- a vanishes from a on, g from b on -/
theorem cmul_high : ∀ (a b : Nat) (f g : Nat → R), (∀ i, a ≤ i → f i = 0) → (∀ i, b ≤ i → g i = 0) → ∀ n, a + b ≤ n + 1 → cmul f g n = 0
  | 0, b, f, g, hf, hg, n, hn => by
    have e : f = fun _ => 0 := funext fun i => hf i (Nat.zero_le _)
    rw [e, cmul_zero_left]
  | a + 1, b, f, g, hf, hg, 0, hn => by
    rw [cmul, hg 0 (by omega)]; grind
  | a + 1, b, f, g, hf, hg, n + 1, hn => by
    rw [cmul, hg (n + 1) (by omega), cmul_high a b _ g (fun i hi => hf (i + 1) (by omega)) hg n (by omega)]; grind
theorem cmul_top : ∀ (a b : Nat) (f g : Nat → R), (∀ i, a < i → f i = 0) → (∀ i, b < i → g i = 0) → cmul f g (a + b) = f a * g b
  | 0, b, f, g, hf, hg => by
    have e : f = cst (f 0) := by
      funext i
      by_cases h : i = 0
      · rw [h]; simp [cst]
      · rw [hf i (by omega)]; simp [cst, h]
    rw [e, cmul_cst]; simp [cst]
  | a + 1, b, f, g, hf, hg => by
    rw [show a + 1 + b = (a + b) + 1 by omega, cmul, hg (a + b + 1) (by omega), cmul_top a b _ g (fun i hi => hf (i + 1) (by omega)) hg]; grind
/-- a at place m alone -/
def one_at (a : R) (m : Nat) : Nat → R := fun i => if i = m then a else 0
theorem cmul_one_at (a : R) (g : Nat → R) : ∀ (m n : Nat), cmul (one_at a m) g n = if n < m then 0 else a * g (n - m)
  | 0, n => by
    have e : one_at a 0 = cst a := rfl
    rw [e, cmul_cst]; simp
  | m + 1, 0 => by
    rw [cmul]; simp [one_at]; grind
  | m + 1, n + 1 => by
    have e : (fun i => one_at a (m + 1) (i + 1)) = one_at a m := by
      funext i; simp [one_at]
    rw [cmul, e, cmul_one_at a g m n]
    simp only [one_at]
    have : ¬ (0 = m + 1) := by omega
    rw [if_neg this]
    by_cases h : n < m
    · rw [if_pos h, if_pos (by omega)]; grind
    · rw [if_neg h, if_neg (by omega), show n + 1 - (m + 1) = n - m by omega]; grind
end Series

/-- a polynomial: its worths, noughts from some place on -/
structure Poly (F : Type) [CommRing F] where
  c : Nat → F
  fin : ∃ n, ∀ i, n ≤ i → c i = 0

section Ring
variable {F : Type} [CommRing F]
local instance instNC : NatCast F := Semiring.natCast
local instance instIC : IntCast F := Ring.intCast
theorem Poly.ext {f g : Poly F} (h : ∀ i, f.c i = g.c i) : f = g := by
  cases f; cases g
  have e := funext h
  simp only at e
  subst e
  rfl
def Poly.C (a : F) : Poly F := ⟨cst a, 1, fun i hi => by simp only [cst]; rw [if_neg (by omega)]⟩
def Poly.mono (a : F) (m : Nat) : Poly F := ⟨one_at a m, m + 1, fun i hi => by simp only [one_at]; rw [if_neg (by omega)]⟩
def Poly.add (f g : Poly F) : Poly F := ⟨fun i => f.c i + g.c i, by
  obtain ⟨n, hn⟩ := f.fin
  obtain ⟨m, hm⟩ := g.fin
  exact ⟨n + m, fun i hi => by rw [hn i (by omega), hm i (by omega)]; grind⟩⟩
def Poly.neg (f : Poly F) : Poly F := ⟨fun i => - f.c i, by
  obtain ⟨n, hn⟩ := f.fin
  exact ⟨n, fun i hi => by rw [hn i hi]; grind⟩⟩
def Poly.sub (f g : Poly F) : Poly F := ⟨fun i => f.c i - g.c i, by
  obtain ⟨n, hn⟩ := f.fin
  obtain ⟨m, hm⟩ := g.fin
  exact ⟨n + m, fun i hi => by rw [hn i (by omega), hm i (by omega)]; grind⟩⟩
def Poly.mul (f g : Poly F) : Poly F := ⟨cmul f.c g.c, by
  obtain ⟨n, hn⟩ := f.fin
  obtain ⟨m, hm⟩ := g.fin
  exact ⟨n + m, fun i hi => cmul_high n m _ _ hn hm i (by omega)⟩⟩
def Poly.npow (f : Poly F) : Nat → Poly F
  | 0 => Poly.C 1
  | n + 1 => (Poly.npow f n).mul f

instance : Add (Poly F) := ⟨Poly.add⟩
instance : Neg (Poly F) := ⟨Poly.neg⟩
instance : Sub (Poly F) := ⟨Poly.sub⟩
instance : Mul (Poly F) := ⟨Poly.mul⟩
instance (n : Nat) : OfNat (Poly F) n := ⟨Poly.C (OfNat.ofNat n)⟩
instance : NatCast (Poly F) := ⟨fun n => Poly.C (n : F)⟩
instance : IntCast (Poly F) := ⟨fun n => Poly.C (n : F)⟩
instance : HPow (Poly F) Nat (Poly F) := ⟨Poly.npow⟩
instance : SMul Nat (Poly F) := ⟨fun n f => (Poly.C (n : F)).mul f⟩
instance : SMul Int (Poly F) := ⟨fun n f => (Poly.C (n : F)).mul f⟩

theorem add_c (f g : Poly F) (i : Nat) : (f + g).c i = f.c i + g.c i := rfl
theorem sub_c (f g : Poly F) (i : Nat) : (f - g).c i = f.c i - g.c i := rfl
theorem neg_c (f : Poly F) (i : Nat) : (-f).c i = - f.c i := rfl
theorem mul_c (f g : Poly F) (i : Nat) : (f * g).c i = cmul f.c g.c i := rfl
theorem C_c (a : F) (i : Nat) : (Poly.C a).c i = cst a i := rfl
theorem num_c (n i : Nat) : (OfNat.ofNat n : Poly F).c i = cst (OfNat.ofNat n : F) i := rfl
theorem zero_c (i : Nat) : (0 : Poly F).c i = 0 := by
  show cst (0 : F) i = 0
  unfold cst; split <;> rfl
theorem C_mul_c (a : F) (f : Poly F) (i : Nat) : (Poly.C a * f).c i = a * f.c i := cmul_cst a f.c i
theorem mono_mul_c (a : F) (m : Nat) (f : Poly F) (i : Nat) : (Poly.mono a m * f).c i = if i < m then 0 else a * f.c (i - m) := cmul_one_at a f.c m i

instance : CommRing (Poly F) where
  add_zero f := Poly.ext fun i => by rw [add_c, zero_c]; grind
  add_comm f g := Poly.ext fun i => by rw [add_c, add_c]; grind
  add_assoc f g h := Poly.ext fun i => by simp only [add_c]; grind
  mul_assoc f g h := Poly.ext fun i => cmul_assoc h.c i f.c g.c
  mul_comm f g := Poly.ext fun i => cmul_comm i f.c g.c
  mul_one f := Poly.ext fun i => by
    rw [mul_c, cmul_comm]
    show cmul (cst (1 : F)) f.c i = _
    rw [cmul_cst]; grind
  one_mul f := Poly.ext fun i => by
    rw [mul_c]
    show cmul (cst (1 : F)) f.c i = _
    rw [cmul_cst]; grind
  left_distrib f g h := Poly.ext fun i => by
    rw [add_c, mul_c, mul_c, mul_c, cmul_comm i f.c, cmul_comm i f.c, cmul_comm i f.c]
    exact cmul_add_left f.c i g.c h.c
  right_distrib f g h := Poly.ext fun i => by
    rw [add_c, mul_c, mul_c, mul_c]
    exact cmul_add_left h.c i f.c g.c
  zero_mul f := Poly.ext fun i => by
    rw [mul_c]
    have e : (0 : Poly F).c = fun _ => (0 : F) := funext zero_c
    rw [e, cmul_zero_left]
  mul_zero f := Poly.ext fun i => by
    rw [mul_c, cmul_comm]
    have e : (0 : Poly F).c = fun _ => (0 : F) := funext zero_c
    rw [e, cmul_zero_left]
  pow_zero f := rfl
  pow_succ f n := rfl
  ofNat_succ n := Poly.ext fun i => by
    rw [add_c, num_c, num_c, num_c]
    unfold cst
    split
    · exact Semiring.ofNat_succ n
    · grind
  ofNat_eq_natCast n := Poly.ext fun i => by
    rw [num_c]
    show _ = cst ((n : Nat) : F) i
    rw [Semiring.ofNat_eq_natCast]
  neg_add_cancel f := Poly.ext fun i => by rw [add_c, neg_c, zero_c]; grind
  sub_eq_add_neg f g := Poly.ext fun i => by rw [sub_c, add_c, neg_c]; grind
  neg_zsmul n f := Poly.ext fun i => by
    show cmul (cst ((-n : Int) : F)) f.c i = - cmul (cst ((n : Int) : F)) f.c i
    rw [cmul_cst, cmul_cst, Ring.intCast_neg]; grind
  zsmul_natCast_eq_nsmul n f := Poly.ext fun i => by
    show cmul (cst (((n : Int)) : F)) f.c i = cmul (cst ((n : Nat) : F)) f.c i
    rw [cmul_cst, cmul_cst, Ring.intCast_natCast]
  intCast_ofNat n := Poly.ext fun i => by
    show cst (((OfNat.ofNat n : Int)) : F) i = cst (OfNat.ofNat n : F) i
    rw [Ring.intCast_ofNat]
  intCast_neg n := Poly.ext fun i => by
    show cst ((-n : Int) : F) i = - cst ((n : Int) : F) i
    rw [Ring.intCast_neg]
    unfold cst
    split
    · rfl
    · grind

theorem C_add (a b : F) : Poly.C (a + b) = Poly.C a + Poly.C b := Poly.ext fun i => by
  rw [add_c, C_c, C_c, C_c]; unfold cst; split
  · rfl
  · grind
theorem C_sub (a b : F) : Poly.C (a - b) = Poly.C a - Poly.C b := Poly.ext fun i => by
  rw [sub_c, C_c, C_c, C_c]; unfold cst; split
  · rfl
  · grind
theorem C_mul (a b : F) : Poly.C (a * b) = Poly.C a * Poly.C b := Poly.ext fun i => by
  rw [C_mul_c, C_c, C_c]; unfold cst; split
  · rfl
  · grind
theorem C_one : Poly.C (1 : F) = 1 := rfl
theorem C_zero : Poly.C (0 : F) = 0 := rfl
theorem C_inj {a b : F} (h : Poly.C a = Poly.C b) : a = b := by
  have e : (Poly.C a).c 0 = (Poly.C b).c 0 := by rw [h]
  simpa [C_c, cst] using e
theorem C_pow (a : F) : ∀ n : Nat, Poly.C (a ^ n) = Poly.C a ^ n
  | 0 => by rw [Semiring.pow_zero, Semiring.pow_zero]; rfl
  | n + 1 => by rw [Semiring.pow_succ, Semiring.pow_succ, C_mul, C_pow a n]
instance {p : Nat} [IsCharP F p] : IsCharP (Poly F) p where
  ofNat_ext_iff {x y} := by
    constructor
    · intro h
      exact (IsCharP.ofNat_ext_iff (α := F) (p := p)).mp (C_inj h)
    · intro h
      have e := (IsCharP.ofNat_ext_iff (α := F) (p := p)).mpr h
      show Poly.C (OfNat.ofNat x : F) = Poly.C (OfNat.ofNat y : F)
      rw [e]
end Ring
end Mw
end
section
set_option autoImplicit false
/-! Degrees, division, Bezout, primes, unique factors. -/
namespace Mw
open Lean.Grind

theorem least_of (P : Nat → Prop) (h : ∃ n, P n) : ∃ n, P n ∧ ∀ m, m < n → ¬ P m := by
  obtain ⟨n, hn⟩ := h
  induction n using Nat.strongRecOn with
  | _ n ih =>
    by_cases q : ∃ m, m < n ∧ P m
    · obtain ⟨m, hm, pm⟩ := q
      exact ih m hm pm
    · exact ⟨n, hn, fun m hm pm => q ⟨m, hm, pm⟩⟩

class Fld (F : Type) [CommRing F] : Prop where
  inv : ∀ a : F, a ≠ 0 → ∃ b, a * b = 1
  one_ne : (1 : F) ≠ 0

section
variable {F : Type} [CommRing F]
noncomputable def len (f : Poly F) : Nat := Classical.choose (least_of _ f.fin)
theorem len_spec (f : Poly F) : ∀ i, len f ≤ i → f.c i = 0 := (Classical.choose_spec (least_of _ f.fin)).1
theorem len_min (f : Poly F) : ∀ m, m < len f → ¬ ∀ i, m ≤ i → f.c i = 0 := (Classical.choose_spec (least_of _ f.fin)).2
theorem len_le {f : Poly F} {n : Nat} (h : ∀ i, n ≤ i → f.c i = 0) : len f ≤ n := Classical.byContradiction fun q => len_min f n (by omega) h
noncomputable def lead (f : Poly F) : F := f.c (len f - 1)
theorem lead_ne {f : Poly F} (h : 0 < len f) : lead f ≠ 0 := fun e => len_min f (len f - 1) (by omega) fun i hi => by
  by_cases q : i = len f - 1
  · rw [q]; exact e
  · exact len_spec f i (by omega)
theorem len_zero : len (0 : Poly F) = 0 := Nat.le_zero.mp (len_le fun i _ => zero_c i)
theorem eq_zero_of_len {f : Poly F} (h : len f = 0) : f = 0 := Poly.ext fun i => by rw [zero_c, len_spec f i (by omega)]
theorem len_pos {f : Poly F} (h : f ≠ 0) : 0 < len f := Nat.pos_of_ne_zero fun e => h (eq_zero_of_len e)
theorem ne_of_len {f : Poly F} (h : 0 < len f) : f ≠ 0 := fun e => by rw [e, len_zero] at h; omega
theorem len_eq {f : Poly F} {n : Nat} (h : ∀ i, n ≤ i → f.c i = 0) (h1 : f.c (n - 1) ≠ 0) (hn : 0 < n) : len f = n := by
  have a := len_le h
  by_cases q : len f = n
  · exact q
  · exact absurd (len_spec f (n - 1) (by omega)) h1
theorem len_C {a : F} (h : a ≠ 0) : len (Poly.C a) = 1 := len_eq (fun i hi => by rw [C_c]; unfold cst; rw [if_neg (by omega)]) (by simpa [C_c, cst] using h) (by omega)
theorem len_C_le (a : F) : len (Poly.C a) ≤ 1 := len_le fun i hi => by rw [C_c]; unfold cst; rw [if_neg (by omega)]
theorem const_of {f : Poly F} (h : len f ≤ 1) : f = Poly.C (f.c 0) := Poly.ext fun i => by
  rw [C_c]; unfold cst; split
  · next e => rw [e]
  · exact len_spec f i (by omega)
theorem len_add_le (f g : Poly F) : len (f + g) ≤ max (len f) (len g) := len_le fun i hi => by
  rw [add_c, len_spec f i (by omega), len_spec g i (by omega)]; grind
theorem len_sub_le (f g : Poly F) : len (f - g) ≤ max (len f) (len g) := len_le fun i hi => by
  rw [sub_c, len_spec f i (by omega), len_spec g i (by omega)]; grind
theorem len_neg (f : Poly F) : len (-f) ≤ len f := len_le fun i hi => by rw [neg_c, len_spec f i hi]; grind
theorem len_mul_le (f g : Poly F) : len (f * g) ≤ len f + len g - 1 := len_le fun i hi => cmul_high _ _ _ _ (len_spec f) (len_spec g) i (by omega)

variable [Fld F]
theorem no_zero_div {a b : F} (h : a * b = 0) : a = 0 ∨ b = 0 := by
  by_cases q : a = 0
  · exact .inl q
  · obtain ⟨c, hc⟩ := Fld.inv a q
    right
    have : b = (a * c) * b := by rw [hc]; grind
    rw [this, show a * c * b = c * (a * b) by grind, h]; grind
theorem mul_top (f g : Poly F) (hf : 0 < len f) (hg : 0 < len g) : (f * g).c (len f - 1 + (len g - 1)) = lead f * lead g :=
  cmul_top _ _ _ _ (fun i hi => len_spec f i (by omega)) (fun i hi => len_spec g i (by omega))
theorem len_mul {f g : Poly F} (hf : 0 < len f) (hg : 0 < len g) : len (f * g) = len f + len g - 1 := by
  refine len_eq (fun i hi => cmul_high _ _ _ _ (len_spec f) (len_spec g) i (by omega)) ?_ (by omega)
  have e := mul_top f g hf hg
  rw [show len f + len g - 1 - 1 = len f - 1 + (len g - 1) by omega, e]
  intro z
  rcases no_zero_div z with z | z
  · exact lead_ne hf z
  · exact lead_ne hg z
theorem lead_mul {f g : Poly F} (hf : 0 < len f) (hg : 0 < len g) : lead (f * g) = lead f * lead g := by
  unfold lead
  rw [len_mul hf hg, show len f + len g - 1 - 1 = len f - 1 + (len g - 1) by omega]
  exact mul_top f g hf hg
theorem mul_ne {f g : Poly F} (hf : f ≠ 0) (hg : g ≠ 0) : f * g ≠ 0 := ne_of_len (by rw [len_mul (len_pos hf) (len_pos hg)]; have := len_pos hf; have := len_pos hg; omega)
theorem mul_zero_of {f g : Poly F} (h : f * g = 0) : f = 0 ∨ g = 0 := by
  by_cases a : f = 0
  · exact .inl a
  · by_cases b : g = 0
    · exact .inr b
    · exact absurd h (mul_ne a b)
theorem cancel {f g h : Poly F} (hf : f ≠ 0) (e : f * g = f * h) : g = h := by
  have : f * (g - h) = 0 := by grind
  rcases mul_zero_of this with q | q
  · exact absurd q hf
  · grind
theorem len_C_mul {a : F} (h : a ≠ 0) (f : Poly F) : len (Poly.C a * f) = len f := by
  by_cases q : f = 0
  · rw [q, show Poly.C a * (0 : Poly F) = 0 by grind]
  · rw [len_mul (by rw [len_C h]; omega) (len_pos q), len_C h]; omega

/-- division with rest -/
theorem div_rest (g : Poly F) (hg : g ≠ 0) : ∀ (n : Nat) (f : Poly F), len f ≤ n → ∃ q r, f = q * g + r ∧ len r < len g := by
  intro n
  induction n with
  | zero =>
    intro f hf
    exact ⟨0, f, by grind, by have := len_pos hg; omega⟩
  | succ n ih =>
    intro f hf
    by_cases h : len f < len g
    · exact ⟨0, f, by grind, h⟩
    · have hgl := len_pos hg
      obtain ⟨b, hb⟩ := Fld.inv _ (lead_ne hgl)
      let t := Poly.mono (lead f * b) (len f - len g)
      have hl : len (f - t * g) ≤ n := by
        refine len_le fun i hi => ?_
        rw [sub_c]
        show f.c i - (Poly.mono (lead f * b) (len f - len g) * g).c i = 0
        rw [mono_mul_c]
        by_cases h1 : i < len f - len g
        · omega
        · rw [if_neg h1]
          by_cases h2 : i = len f - 1
          · have e1 : f.c i = lead f := by rw [h2]; rfl
            have e2 : g.c (i - (len f - len g)) = lead g := by
              rw [show i - (len f - len g) = len g - 1 by omega]; rfl
            rw [e1, e2]; grind
          · rw [len_spec f i (by omega), len_spec g _ (by omega)]; grind
      obtain ⟨q, r, e, hr⟩ := ih _ hl
      exact ⟨q + t, r, by grind, hr⟩

/-- divides -/
def Dv (f g : Poly F) : Prop := ∃ q, g = f * q
theorem Dv.refl (f : Poly F) : Dv f f := ⟨1, by grind⟩
theorem Dv.trans {f g h : Poly F} (a : Dv f g) (b : Dv g h) : Dv f h := by
  obtain ⟨q, rfl⟩ := a
  obtain ⟨r, rfl⟩ := b
  exact ⟨q * r, by grind⟩
theorem Dv.zero (f : Poly F) : Dv f 0 := ⟨0, by grind⟩
theorem Dv.add {f g h : Poly F} (a : Dv f g) (b : Dv f h) : Dv f (g + h) := by
  obtain ⟨q, rfl⟩ := a
  obtain ⟨r, rfl⟩ := b
  exact ⟨q + r, by grind⟩
theorem Dv.sub {f g h : Poly F} (a : Dv f g) (b : Dv f h) : Dv f (g - h) := by
  obtain ⟨q, rfl⟩ := a
  obtain ⟨r, rfl⟩ := b
  exact ⟨q - r, by grind⟩
theorem Dv.mul {f g : Poly F} (a : Dv f g) (h : Poly F) : Dv f (g * h) := by
  obtain ⟨q, rfl⟩ := a
  exact ⟨q * h, by grind⟩
theorem Dv.mul' {f g : Poly F} (a : Dv f g) (h : Poly F) : Dv f (h * g) := by
  obtain ⟨q, rfl⟩ := a
  exact ⟨q * h, by grind⟩
theorem Dv.both {f g h k : Poly F} (a : Dv f g) (b : Dv h k) : Dv (f * h) (g * k) := by
  obtain ⟨q, rfl⟩ := a
  obtain ⟨r, rfl⟩ := b
  exact ⟨q * r, by grind⟩
theorem Dv.len {f g : Poly F} (a : Dv f g) (hg : g ≠ 0) : Mw.len f ≤ Mw.len g ∧ f ≠ 0 := by
  obtain ⟨q, rfl⟩ := a
  have hf : f ≠ 0 := fun e => hg (by rw [e]; grind)
  have hq : q ≠ 0 := fun e => hg (by rw [e]; grind)
  rw [len_mul (len_pos hf) (len_pos hq)]
  have := len_pos hq
  exact ⟨by omega, hf⟩
theorem Dv.one {f : Poly F} (a : Dv f 1) : Mw.len f = 1 := by
  have h1 : Mw.len (1 : Poly F) = 1 := len_C (Fld.one_ne)
  have h := a.len (ne_of_len (by omega))
  have := len_pos h.2
  omega
theorem Dv.const {f : Poly F} {a : F} (h : Dv f (Poly.C a)) (hf : 2 ≤ Mw.len f) : a = 0 := by
  by_cases q : a = 0
  · exact q
  · have := (h.len (ne_of_len (by rw [len_C q]; omega))).1
    rw [len_C q] at this
    omega
theorem Dv.cancel {f g h : Poly F} (hf : f ≠ 0) (a : Dv (f * g) (f * h)) : Dv g h := by
  obtain ⟨q, e⟩ := a
  exact ⟨q, Mw.cancel hf (by grind)⟩
theorem Dv.zero_of_len {f g : Poly F} (a : Dv f g) (h : Mw.len g < Mw.len f) : g = 0 := by
  by_cases q : g = 0
  · exact q
  · have := (a.len q).1
    omega

/-- the greatest common divisor, by both -/
theorem bezout : ∀ (n : Nat) (f g : Poly F), len g ≤ n → ∃ d u v, d = u * f + v * g ∧ Dv d f ∧ Dv d g := by
  intro n
  induction n with
  | zero =>
    intro f g hg
    have e := eq_zero_of_len (f := g) (by omega)
    exact ⟨f, 1, 0, by grind, Dv.refl f, by rw [e]; exact Dv.zero f⟩
  | succ n ih =>
    intro f g hg
    by_cases h : g = 0
    · exact ⟨f, 1, 0, by grind, Dv.refl f, by rw [h]; exact Dv.zero f⟩
    · obtain ⟨q, r, e, hr⟩ := div_rest g h _ f (Nat.le_refl _)
      obtain ⟨d, u, v, e1, d1, d2⟩ := ih g r (by omega)
      refine ⟨d, v, u - v * q, by grind, ?_, d1⟩
      rw [e]
      exact (d1.mul' q).add d2

def Cop (f g : Poly F) : Prop := ∃ u v, u * f + v * g = 1
theorem Cop.symm {f g : Poly F} (h : Cop f g) : Cop g f := by
  obtain ⟨u, v, e⟩ := h
  exact ⟨v, u, by grind⟩
theorem Cop.mul {f g h : Poly F} (a : Cop f g) (b : Cop f h) : Cop f (g * h) := by
  obtain ⟨u, v, e⟩ := a
  obtain ⟨x, y, e2⟩ := b
  exact ⟨u * (x * f + y * h) + v * g * x, v * y, by grind⟩
theorem Cop.one (f : Poly F) : Cop f 1 := ⟨0, 1, by grind⟩
theorem Cop.of_dv {f g h : Poly F} (a : Cop f g) (d : Dv h g) : Cop f h := by
  obtain ⟨u, v, e⟩ := a
  obtain ⟨q, rfl⟩ := d
  exact ⟨u, v * q, by grind⟩
theorem Cop.of_dv' {f g h : Poly F} (a : Cop f g) (d : Dv h f) : Cop h g := (a.symm.of_dv d).symm
theorem Cop.dv {f g h : Poly F} (a : Cop f g) (d : Dv f (g * h)) : Dv f h := by
  obtain ⟨u, v, e⟩ := a
  obtain ⟨q, eq⟩ := d
  exact ⟨u * h + v * q, by
    have : h = (u * f + v * g) * h := by rw [e]; grind
    grind⟩
theorem Cop.prod {f g h : Poly F} (a : Cop f g) (d1 : Dv f h) (d2 : Dv g h) : Dv (f * g) h := by
  obtain ⟨q, rfl⟩ := d1
  have := a.symm.dv d2
  obtain ⟨r, rfl⟩ := this
  exact ⟨r, by grind⟩
theorem Cop.self {f : Poly F} (a : Cop f f) : len f = 1 := by
  obtain ⟨u, v, e⟩ := a
  exact Dv.one ⟨u + v, by grind⟩
/-- coprime: no common divisor of degree above 0 -/
theorem cop_of {f g : Poly F} (hf : f ≠ 0) (h : ∀ d, Dv d f → Dv d g → len d ≤ 1) : Cop f g := by
  obtain ⟨d, u, v, e, d1, d2⟩ := bezout _ f g (Nat.le_refl _)
  have hd := h d d1 d2
  have hd0 := (d1.len hf).2
  have ec := const_of hd
  have h0 : d.c 0 ≠ 0 := fun z => hd0 (by rw [ec, z]; rfl)
  obtain ⟨b, hb⟩ := Fld.inv _ h0
  refine ⟨Poly.C b * u, Poly.C b * v, ?_⟩
  have : Poly.C b * Poly.C (d.c 0) = (1 : Poly F) := by
    rw [← C_mul, show b * d.c 0 = 1 by grind]; rfl
  rw [← ec, e] at this
  grind

/-- a prime polynomial, up to a number -/
def Irr (P : Poly F) : Prop := 2 ≤ len P ∧ ∀ a b, P = a * b → len a ≤ 1 ∨ len b ≤ 1
theorem Irr.ne {P : Poly F} (h : Irr P) : P ≠ 0 := ne_of_len (by have := h.1; omega)
/-- a divisor of the same length divides back -/
theorem dv_back {d f : Poly F} (a : Dv d f) (hf : f ≠ 0) (h : len f ≤ len d) : Dv f d := by
  obtain ⟨q, rfl⟩ := a
  have hd : d ≠ 0 := fun e => hf (by rw [e]; grind)
  have hq : q ≠ 0 := fun e => hf (by rw [e]; grind)
  rw [len_mul (len_pos hd) (len_pos hq)] at h
  have := len_pos hq
  have := len_pos hd
  have ec := const_of (f := q) (by omega)
  have h0 : q.c 0 ≠ 0 := fun z => hq (by rw [ec, z]; rfl)
  obtain ⟨b, hb⟩ := Fld.inv _ h0
  refine ⟨Poly.C b, ?_⟩
  have e1 : q * Poly.C b = 1 := by
    rw [ec, ← C_mul, hb]; rfl
  grind
theorem Irr.cop {P a : Poly F} (h : Irr P) (n : ¬ Dv P a) : Cop P a := cop_of h.ne fun d d1 d2 => by
  obtain ⟨q, e⟩ := id d1
  rcases h.2 d q e with z | z
  · exact z
  · exfalso
    have hd := (d1.len h.ne)
    have hq : q ≠ 0 := fun e2 => h.ne (by rw [e, e2]; grind)
    have : len P = len d + len q - 1 := by rw [e, len_mul (len_pos hd.2) (len_pos hq)]
    exact n ((dv_back d1 h.ne (by omega)).trans d2)
theorem Irr.euclid {P a b : Poly F} (h : Irr P) (d : Dv P (a * b)) : Dv P a ∨ Dv P b := by
  by_cases q : Dv P a
  · exact .inl q
  · exact .inr ((h.cop q).dv d)
def Mon (f : Poly F) : Prop := lead f = 1
theorem Mon.pos {f : Poly F} (h : Mon f) : 0 < len f := by
  by_cases q : len f = 0
  · unfold Mon lead at h
    rw [len_spec f _ (by omega)] at h
    exact absurd h.symm Fld.one_ne
  · omega
theorem Mon.ne {f : Poly F} (h : Mon f) : f ≠ 0 := ne_of_len h.pos
theorem Mon.mul {f g : Poly F} (a : Mon f) (b : Mon g) : Mon (f * g) := by
  unfold Mon
  rw [lead_mul a.pos b.pos, a, b]; grind
theorem Mon.right {f g : Poly F} (a : Mon f) (b : Mon (f * g)) : Mon g := by
  have hg : g ≠ 0 := fun e => b.ne (by rw [e]; grind)
  unfold Mon at b
  rw [lead_mul a.pos (len_pos hg), a] at b
  unfold Mon; grind
theorem len_one : len (1 : Poly F) = 1 := len_C (Fld.one_ne)
theorem Mon.one : Mon (1 : Poly F) := by
  unfold Mon lead
  rw [len_one]; rfl
theorem Mon.eq_one {f : Poly F} (a : Mon f) (h : len f ≤ 1) : f = 1 := by
  have := a.pos
  have e := const_of h
  unfold Mon lead at a
  rw [show len f - 1 = 0 by omega] at a
  rw [e, a]; rfl
theorem Mon.eq_of_dv {f g : Poly F} (a : Mon f) (b : Mon g) (d : Dv f g) (h : len g ≤ len f) : f = g := by
  obtain ⟨q, rfl⟩ := d
  have hq : q ≠ 0 := fun e => b.ne (by rw [e]; grind)
  rw [len_mul a.pos (len_pos hq)] at h
  have := a.pos
  rw [Mon.eq_one (a.right b) (by omega)]; grind
theorem Irr.eq {P Q : Poly F} (p : Irr P) (q : Irr Q) (mp : Mon P) (mq : Mon Q) (d : Dv P Q) : P = Q := by
  obtain ⟨r, e⟩ := id d
  refine mp.eq_of_dv mq d ?_
  rcases q.2 _ _ e with z | z
  · have := p.1; omega
  · have hr : r ≠ 0 := fun e2 => q.ne (by rw [e, e2]; grind)
    rw [e, len_mul mp.pos (len_pos hr)]; omega
theorem irr_dv : ∀ (n : Nat) (f : Poly F), len f ≤ n → 2 ≤ len f → ∃ P, Irr P ∧ Dv P f := by
  intro n
  induction n with
  | zero => intro f a b; omega
  | succ n ih =>
    intro f hn h
    by_cases q : Irr f
    · exact ⟨f, q, Dv.refl f⟩
    · have : ∃ a b, f = a * b ∧ 2 ≤ len a ∧ 2 ≤ len b := Classical.byContradiction fun no => q ⟨h, fun a b e => by
        by_cases z : len a ≤ 1
        · exact .inl z
        · by_cases y : len b ≤ 1
          · exact .inr y
          · exact absurd ⟨a, b, e, by omega, by omega⟩ no⟩
      obtain ⟨a, b, e, ha, hb⟩ := this
      have el : len f = len a + len b - 1 := by rw [e, len_mul (by omega) (by omega)]
      obtain ⟨P, ip, dp⟩ := ih a (by omega) ha
      exact ⟨P, ip, by rw [e]; exact dp.mul b⟩
/-- scaled to a monic one -/
theorem mon_of {f : Poly F} (h : f ≠ 0) : ∃ (a : F) (g : Poly F), a ≠ 0 ∧ f = Poly.C a * g ∧ Mon g ∧ Mw.len g = Mw.len f := by
  obtain ⟨b, hb⟩ := Fld.inv _ (lead_ne (len_pos h))
  have hb0 : b ≠ 0 := fun e => by rw [e] at hb; exact Fld.one_ne (F := F) (by grind)
  refine ⟨lead f, Poly.C b * f, lead_ne (len_pos h), ?_, ?_, len_C_mul hb0 f⟩
  · refine Poly.ext fun i => ?_
    rw [C_mul_c, C_mul_c]
    grind
  · unfold Mon lead
    rw [len_C_mul hb0, C_mul_c]
    show b * lead f = 1
    grind
end
end Mw
end
section
set_option autoImplicit false
set_option linter.unusedSectionVars false
/-! Unique factors; the facts behind the parting of square-free polynomials. -/
namespace Mw
open Lean.Grind

section
variable {F : Type} [CommRing F] [Fld F]

/-! ### powers and products -/
theorem pow_add' (P : Poly F) (a : Nat) : ∀ b, P ^ (a + b) = P ^ a * P ^ b
  | 0 => by rw [Nat.add_zero, Semiring.pow_zero]; grind
  | b + 1 => by rw [← Nat.add_assoc, Semiring.pow_succ, pow_add' P a b, Semiring.pow_succ]; grind
theorem Mon.pow {P : Poly F} (h : Mon P) : ∀ e : Nat, Mon (P ^ e)
  | 0 => by rw [Semiring.pow_zero]; exact Mon.one
  | e + 1 => by rw [Semiring.pow_succ]; exact (Mon.pow h e).mul h
theorem dv_pow {P : Poly F} {a b : Nat} (h : a ≤ b) : Dv (P ^ a) (P ^ b) := ⟨P ^ (b - a), by rw [← pow_add', Nat.add_sub_cancel' h]⟩
theorem Cop.pow {P Q : Poly F} (h : Cop P Q) : ∀ e : Nat, Cop P (Q ^ e)
  | 0 => by rw [Semiring.pow_zero]; exact Cop.one P
  | e + 1 => by rw [Semiring.pow_succ]; exact (Cop.pow h e).mul h
theorem Cop.powl {P Q : Poly F} (h : Cop P Q) (e : Nat) : Cop (P ^ e) Q := (h.symm.pow e).symm
theorem len_pow {P : Poly F} (h : P ≠ 0) : ∀ e : Nat, P ^ e ≠ 0 ∧ len (P ^ e) = e * (len P - 1) + 1
  | 0 => by
    rw [Semiring.pow_zero, Nat.zero_mul, len_one]
    exact ⟨Mon.one.ne, rfl⟩
  | e + 1 => by
    obtain ⟨a, b⟩ := len_pow h e
    have hp := len_pos h
    rw [Semiring.pow_succ, len_mul (len_pos a) hp, b, Nat.add_mul]
    exact ⟨mul_ne a h, by omega⟩
/-- the greatest power that divides -/
theorem max_pow {P f : Poly F} (hP : 2 ≤ len P) (hf : f ≠ 0) : ∃ e, Dv (P ^ e) f ∧ ¬ Dv (P ^ (e + 1)) f := by
  have hp : P ≠ 0 := ne_of_len (by omega)
  obtain ⟨n, h1, h2⟩ := least_of (fun n => ¬ Dv (P ^ n) f) ⟨len f, fun d => by
    have := (d.len hf).1
    rw [(len_pow hp _).2] at this
    have : len f * 1 ≤ len f * (len P - 1) := Nat.mul_le_mul_left _ (by omega)
    omega⟩
  cases n with
  | zero => exact absurd ⟨f, by rw [Semiring.pow_zero]; grind⟩ h1
  | succ n => exact ⟨n, Classical.byContradiction fun q => h2 n (by omega) q, h1⟩

def prodP : List (Poly F) → Poly F
  | [] => 1
  | a :: l => a * prodP l
theorem prodP_append (l m : List (Poly F)) : prodP (l ++ m) = prodP l * prodP m := by
  induction l with
  | nil => show prodP m = 1 * prodP m; grind
  | cons a l ih => show a * prodP (l ++ m) = a * prodP l * prodP m; rw [ih]; grind
theorem prodP_mon {l : List (Poly F)} (h : ∀ q, q ∈ l → Mon q) : Mon (prodP l) := by
  induction l with
  | nil => exact Mon.one
  | cons a l ih => exact (h a (by simp)).mul (ih fun q hq => h q (by simp [hq]))
theorem prodP_dv {l : List (Poly F)} {q : Poly F} (h : q ∈ l) : Dv q (prodP l) := by
  induction l with
  | nil => cases h
  | cons a l ih =>
    rcases List.mem_cons.mp h with e | e
    · rw [e]; exact ⟨prodP l, rfl⟩
    · exact (ih e).mul' a

/-! ### unique factors -/
def prodL : List (Poly F × Nat) → Poly F
  | [] => 1
  | a :: l => a.1 ^ a.2 * prodL l
def GoodL (L : List (Poly F × Nat)) : Prop := (∀ x, x ∈ L → Irr x.1 ∧ Mon x.1 ∧ 1 ≤ x.2) ∧ (L.map (·.1)).Nodup
theorem GoodL.tail {x : Poly F × Nat} {L : List (Poly F × Nat)} (h : GoodL (x :: L)) : GoodL L :=
  ⟨fun y hy => h.1 y (by simp [hy]), (List.nodup_cons.mp h.2).2⟩
theorem prodL_mon {L : List (Poly F × Nat)} (h : ∀ x, x ∈ L → Mon x.1) : Mon (prodL L) := by
  induction L with
  | nil => exact Mon.one
  | cons a l ih => exact ((h a (by simp)).pow _).mul (ih fun q hq => h q (by simp [hq]))
theorem cop_prodL {P : Poly F} (hP : Irr P) (mP : Mon P) : ∀ {L : List (Poly F × Nat)}, GoodL L → P ∉ L.map (·.1) → Cop P (prodL L)
  | [], _, _ => Cop.one P
  | x :: L, h, n => by
    have hx := h.1 x (by simp)
    have n1 : ¬ Dv P x.1 := fun d => n (by rw [hP.eq hx.1 mP hx.2.1 d]; simp)
    exact ((hP.cop n1).pow x.2).mul (cop_prodL hP mP h.tail fun q => n (by simp only [List.map_cons]; exact List.mem_cons_of_mem _ q))
theorem prodL_at {P : Poly F} {e : Nat} : ∀ {L : List (Poly F × Nat)}, GoodL L → (P, e) ∈ L → ∃ M, prodL L = P ^ e * M ∧ Cop P M
  | x :: L, h, m => by
    have hx := h.1 x (by simp)
    rcases List.mem_cons.mp m with q | q
    · have n := (List.nodup_cons.mp h.2).1
      rw [← q] at n hx
      exact ⟨prodL L, by rw [← q]; rfl, cop_prodL hx.1 hx.2.1 h.tail n⟩
    · obtain ⟨M, e1, c⟩ := prodL_at h.tail q
      have hp := h.tail.1 _ q
      have ne : ¬ Dv P x.1 := fun d => (List.nodup_cons.mp h.2).1 (by
        have e0 : P = x.1 := hp.1.eq hx.1 hp.2.1 hx.2.1 d
        exact List.mem_map.mpr ⟨_, q, e0⟩)
      refine ⟨x.1 ^ x.2 * M, ?_, ((hp.1.cop ne).pow _).mul c⟩
      show x.1 ^ x.2 * prodL L = _
      rw [e1]; grind
/-- which pairs stand in a list of factors: told by the product alone -/
theorem mem_prodL {L : List (Poly F × Nat)} (h : GoodL L) (P : Poly F) (e : Nat) :
    (P, e) ∈ L ↔ Irr P ∧ Mon P ∧ 1 ≤ e ∧ Dv (P ^ e) (prodL L) ∧ ¬ Dv (P ^ (e + 1)) (prodL L) := by
  have exact_ : ∀ e', (P, e') ∈ L → Dv (P ^ e') (prodL L) ∧ ¬ Dv (P ^ (e' + 1)) (prodL L) := fun e' m => by
    obtain ⟨M, e1, c⟩ := prodL_at h m
    have hp := h.1 _ m
    refine ⟨⟨M, e1⟩, fun d => ?_⟩
    rw [e1, Semiring.pow_succ] at d
    have d1 : Dv P M := Dv.cancel (hp.2.1.pow e').ne d
    have := (c.of_dv d1).self
    have := hp.1.1
    simp only at *
    omega
  constructor
  · intro m
    have hp := h.1 _ m
    exact ⟨hp.1, hp.2.1, hp.2.2, exact_ e m⟩
  · rintro ⟨i, mo, he, d1, d2⟩
    by_cases q : P ∈ L.map (·.1)
    · obtain ⟨⟨P', e'⟩, m, rfl⟩ := List.mem_map.mp q
      obtain ⟨d3, d4⟩ := exact_ e' m
      have a1 : ¬ e < e' := fun z => d2 ((dv_pow (by omega)).trans d3)
      have a2 : ¬ e' < e := fun z => d4 ((dv_pow (by omega)).trans d1)
      have : e = e' := by omega
      rw [this]; exact m
    · exfalso
      have c := cop_prodL i mo h q
      have d : Dv P (prodL L) := by
        refine Dv.trans ?_ d1
        rw [show e = (e - 1) + 1 by omega, Semiring.pow_succ]
        exact (Dv.refl P).mul' _
      have := (c.of_dv d).self
      have := i.1
      omega

/-! ### square-free -/
def SqF (f : Poly F) : Prop := ∀ d, Dv (d * d) f → len d ≤ 1
theorem SqF.dv {f g : Poly F} (h : SqF f) (d : Dv g f) : SqF g := fun x hx => h x (hx.trans d)
theorem SqF.cop {a b f : Poly F} (h : SqF f) (hf : f ≠ 0) (e : f = a * b) : Cop a b := cop_of (fun z => hf (by rw [e, z]; grind)) fun d d1 d2 => h d (by
  rw [e]; exact d1.both d2)
theorem SqF.nodup {l : List (Poly F)} (h : SqF (prodP l)) (h2 : ∀ q, q ∈ l → 2 ≤ len q) : l.Nodup := by
  induction l with
  | nil => exact List.nodup_nil
  | cons a l ih =>
    refine List.nodup_cons.mpr ⟨fun m => ?_, ih (h.dv ((Dv.refl _).mul' a)) fun q hq => h2 q (by simp [hq])⟩
    have := h a ((Dv.refl a).both (prodP_dv m))
    have := h2 a (by simp)
    omega

/-! ### linear sums -/
def linf : (Nat → F) → List (Poly F) → Poly F
  | _, [] => 0
  | a, s :: S => Poly.C (a 0) * s + linf (fun i => a (i + 1)) S
theorem linf_add (S : List (Poly F)) : ∀ a b : Nat → F, linf (fun i => a i + b i) S = linf a S + linf b S := by
  induction S with
  | nil => intro a b; show (0 : Poly F) = 0 + 0; grind
  | cons s S ih =>
    intro a b
    show Poly.C (a 0 + b 0) * s + linf (fun i => a (i + 1) + b (i + 1)) S = (Poly.C (a 0) * s + linf (fun i => a (i + 1)) S) + (Poly.C (b 0) * s + linf (fun i => b (i + 1)) S)
    rw [ih (fun i => a (i + 1)) (fun i => b (i + 1)), C_add]; grind
theorem linf_smul (S : List (Poly F)) (x : F) : ∀ a : Nat → F, linf (fun i => x * a i) S = Poly.C x * linf a S := by
  induction S with
  | nil => intro a; show (0 : Poly F) = Poly.C x * 0; grind
  | cons s S ih =>
    intro a
    show Poly.C (x * a 0) * s + linf (fun i => x * a (i + 1)) S = Poly.C x * (Poly.C (a 0) * s + linf (fun i => a (i + 1)) S)
    rw [ih (fun i => a (i + 1)), C_mul]; grind
theorem linf_zero (S : List (Poly F)) : ∀ a : Nat → F, (∀ i, i < S.length → a i = 0) → linf a S = 0 := by
  induction S with
  | nil => intro a _; rfl
  | cons s S ih =>
    intro a h
    show Poly.C (a 0) * s + linf (fun i => a (i + 1)) S = 0
    rw [h 0 (by simp), ih _ fun i hi => h (i + 1) (by simp; omega), C_zero]; grind
def sumN : Nat → (Nat → F) → F
  | 0, _ => 0
  | m + 1, f => f 0 + sumN m (fun i => f (i + 1))
def sumP : Nat → (Nat → Poly F) → Poly F
  | 0, _ => 0
  | m + 1, f => f 0 + sumP m (fun i => f (i + 1))
def prodN : Nat → (Nat → Poly F) → Poly F
  | 0, _ => 1
  | m + 1, f => f 0 * prodN m (fun i => f (i + 1))
theorem sumN_zero : ∀ (m : Nat) (f : Nat → F), (∀ i, i < m → f i = 0) → sumN m f = 0
  | 0, _, _ => rfl
  | m + 1, f, h => by
    show f 0 + sumN m _ = 0
    rw [h 0 (by omega), sumN_zero m _ fun i hi => h (i + 1) (by omega)]; grind
theorem sumN_add : ∀ (m : Nat) (f g : Nat → F), sumN m (fun i => f i + g i) = sumN m f + sumN m g
  | 0, _, _ => by show (0 : F) = 0 + 0; grind
  | m + 1, f, g => by
    show f 0 + g 0 + sumN m (fun i => f (i + 1) + g (i + 1)) = (f 0 + sumN m _) + (g 0 + sumN m _)
    rw [sumN_add m (fun i => f (i + 1)) (fun i => g (i + 1))]; grind
theorem sumN_mul (x : F) : ∀ (m : Nat) (f : Nat → F), sumN m (fun i => f i * x) = sumN m f * x
  | 0, _ => by show (0 : F) = 0 * x; grind
  | m + 1, f => by
    show f 0 * x + sumN m (fun i => f (i + 1) * x) = (f 0 + sumN m _) * x
    rw [sumN_mul x m (fun i => f (i + 1))]; grind
theorem sumN_congr : ∀ (m : Nat) (f g : Nat → F), (∀ i, i < m → f i = g i) → sumN m f = sumN m g
  | 0, _, _, _ => rfl
  | m + 1, f, g, h => by
    show f 0 + sumN m _ = g 0 + sumN m _
    rw [h 0 (by omega), sumN_congr m _ _ fun i hi => h (i + 1) (by omega)]
/-- more vectors than places: one depends on the others -/
theorem depends : ∀ (k m : Nat) (A : Nat → Nat → F), k < m → ∃ x : Nat → F, (∃ i, i < m ∧ x i ≠ 0) ∧ ∀ j, j < k → sumN m (fun i => x i * A i j) = 0 := by
  intro k
  induction k with
  | zero => intro m A h; exact ⟨fun _ => 1, ⟨0, h, Fld.one_ne⟩, fun j hj => by omega⟩
  | succ k ih =>
    intro m A h
    cases m with
    | zero => omega
    | succ m =>
      by_cases z : ∀ j, j < k + 1 → A 0 j = 0
      · refine ⟨fun i => if i = 0 then 1 else 0, ⟨0, by omega, by simpa using Fld.one_ne⟩, fun j hj => sumN_zero _ _ fun i hi => ?_⟩
        by_cases e : i = 0
        · rw [e, z j hj]; grind
        · simp only [if_neg e]; grind
      · have : ∃ t, t < k + 1 ∧ A 0 t ≠ 0 := Classical.byContradiction fun no => z fun j hj => Classical.byContradiction fun q => no ⟨j, hj, q⟩
        obtain ⟨t, ht, hne⟩ := this
        obtain ⟨b, hb⟩ := Fld.inv _ hne
        obtain ⟨x, ⟨i, hi, hx⟩, hs⟩ := ih m (fun i j => A (i + 1) (if j = t then k else j) - (A (i + 1) t * b) * A 0 (if j = t then k else j)) (by omega)
        refine ⟨fun i => match i with | 0 => - sumN m (fun i => x i * (A (i + 1) t * b)) | i + 1 => x i, ⟨i + 1, by omega, hx⟩, fun j hj => ?_⟩
        show - sumN m (fun i => x i * (A (i + 1) t * b)) * A 0 j + sumN m (fun i => x i * A (i + 1) j) = 0
        have key : sumN m (fun i => x i * (A (i + 1) j - (A (i + 1) t * b) * A 0 j)) = 0 := by
          by_cases e : j = t
          · refine sumN_zero _ _ fun i _ => ?_
            rw [e]; grind
          · by_cases e2 : j = k
            · have htk : t < k := by omega
              have := hs t htk
              rw [if_pos rfl] at this
              rw [e2]; exact this
            · have := hs j (by omega)
              rw [if_neg e] at this
              exact this
        have e3 : sumN m (fun i => x i * (A (i + 1) j - (A (i + 1) t * b) * A 0 j)) = sumN m (fun i => x i * A (i + 1) j) + sumN m (fun i => (x i * (A (i + 1) t * b)) * (- A 0 j)) := by
          rw [← sumN_add]
          exact sumN_congr _ _ _ fun i _ => by grind
        rw [sumN_mul] at e3
        grind
theorem linf_sum (S : List (Poly F)) : ∀ (m : Nat) (x : Nat → F) (A : Nat → Nat → F), linf (fun j => sumN m (fun i => x i * A i j)) S = sumP m (fun i => Poly.C (x i) * linf (A i) S)
  | 0, x, A => linf_zero S _ fun _ _ => rfl
  | m + 1, x, A => by
    show linf (fun j => x 0 * A 0 j + sumN m (fun i => x (i + 1) * A (i + 1) j)) S = _
    rw [linf_add S (fun j => x 0 * A 0 j) (fun j => sumN m (fun i => x (i + 1) * A (i + 1) j)), linf_smul, linf_sum S m (fun i => x (i + 1)) (fun i => A (i + 1))]
    rfl

/-! ### the sub-ring of those that their power of the prime leaves as they are -/
structure IsFp (p : Nat) (els : List F) : Prop where
  nodup : els.Nodup
  all : ∀ a : F, a ∈ els
  prod : ∀ v : Poly F, prodP (els.map fun c => v - Poly.C c) = v ^ p - v
  frob : ∀ a b : Poly F, (a + b) ^ p = a ^ p + b ^ p
  fer : ∀ a : F, a ^ p = a

def Berl (p : Nat) (f v : Poly F) : Prop := Dv f (v ^ p - v)
def Spans (p : Nat) (f : Poly F) (S : List (Poly F)) : Prop := ∀ v, len v < len f → Berl p f v → ∃ a, v = linf a S

theorem dv_pow_sub (x y : Poly F) : ∀ n : Nat, Dv (x - y) (x ^ n - y ^ n)
  | 0 => by rw [Semiring.pow_zero, Semiring.pow_zero]; exact ⟨0, by grind⟩
  | n + 1 => by
    obtain ⟨q, e⟩ := dv_pow_sub x y n
    rw [Semiring.pow_succ, Semiring.pow_succ]
    exact ⟨q * x + y ^ n, by grind⟩
theorem Berl.congr {p : Nat} {f v r : Poly F} (h : Berl p f v) (d : Dv f (v - r)) : Berl p f r := by
  have := (h.sub (d.trans (dv_pow_sub v r p))).add d
  unfold Berl
  rw [show r ^ p - r = v ^ p - v - (v ^ p - r ^ p) + (v - r) by grind]
  exact this
theorem cop_shift (v : Poly F) {a b : F} (h : a ≠ b) : Cop (v - Poly.C a) (v - Poly.C b) := by
  obtain ⟨c, hc⟩ := Fld.inv (b - a) (fun e => h (by grind))
  refine ⟨Poly.C c, - Poly.C c, ?_⟩
  have e : Poly.C (b - a) * Poly.C c = 1 := by rw [← C_mul, hc]; rfl
  rw [C_sub] at e
  grind
section
variable {p : Nat} {els : List F}
theorem IsFp.dv01 (X : IsFp p els) (v : Poly F) : Dv (v * (v - 1)) (v ^ p - v) := by
  have d0 : Dv (v - Poly.C 0) (v ^ p - v) := by rw [← X.prod v]; exact prodP_dv (List.mem_map.mpr ⟨0, X.all _, rfl⟩)
  have d1 : Dv (v - Poly.C 1) (v ^ p - v) := by rw [← X.prod v]; exact prodP_dv (List.mem_map.mpr ⟨1, X.all _, rfl⟩)
  have := (cop_shift v (a := 0) (b := 1) (fun e => Fld.one_ne (F := F) e.symm)).prod d0 d1
  rw [C_zero, C_one] at this
  rw [show v = v - 0 by grind]
  rw [show v - 0 - 1 = v - 1 by grind, show (v - 0) ^ p - (v - 0) = v ^ p - v by rw [show v - 0 = v by grind]]
  exact this
/-- parts that no spanning one parts further are prime -/
theorem irr_of_still (X : IsFp p els) {f q : Poly F} {S : List (Poly F)} (hf : f ≠ 0) (sf : SqF f) (sp : Spans p f S) (dq : Dv q f) (hq : 2 ≤ len q) (hs : ∀ s, s ∈ S → ∃ c, Dv q (s - Poly.C c)) : Irr q := by
  refine ⟨hq, fun a b e => Classical.byContradiction fun no => ?_⟩
  have ha : 2 ≤ len a := by omega
  have hb : 2 ≤ len b := by omega
  obtain ⟨m, em⟩ := dq
  have ef : f = a * (b * m) := by rw [em, e]; grind
  obtain ⟨u, w, h1⟩ := sf.cop hf ef
  -- v = w b m : nought at b m, 1 at a
  obtain ⟨Q, r, er, hr⟩ := div_rest f hf _ (w * (b * m)) (Nat.le_refl _)
  have hB : Berl p f (w * (b * m)) := Dv.trans ⟨- (u * w), by rw [ef]; grind⟩ (X.dv01 (w * (b * m)))
  have hd : Dv f (w * (b * m) - r) := ⟨Q, by grind⟩
  obtain ⟨al, hal⟩ := sp r hr (hB.congr hd)
  have hc : ∀ (S : List (Poly F)) (al : Nat → F), (∀ s, s ∈ S → ∃ c, Dv q (s - Poly.C c)) → ∃ c, Dv q (linf al S - Poly.C c) := by
    intro S
    induction S with
    | nil => intro al _; exact ⟨0, by show Dv q (0 - Poly.C 0); rw [C_zero]; exact ⟨0, by grind⟩⟩
    | cons s S ih =>
      intro al h
      obtain ⟨c, d1⟩ := h s (by simp)
      obtain ⟨c2, d2⟩ := ih (fun i => al (i + 1)) fun s hs => h s (by simp [hs])
      refine ⟨al 0 * c + c2, ?_⟩
      show Dv q (Poly.C (al 0) * s + linf (fun i => al (i + 1)) S - Poly.C (al 0 * c + c2))
      rw [C_add, C_mul, show Poly.C (al 0) * s + linf (fun i => al (i + 1)) S - (Poly.C (al 0) * Poly.C c + Poly.C c2) = Poly.C (al 0) * (s - Poly.C c) + (linf (fun i => al (i + 1)) S - Poly.C c2) by grind]
      exact (d1.mul' _).add d2
  obtain ⟨c, dc⟩ := hc S al hs
  rw [← hal] at dc
  have da : Dv a (Poly.C (c - 1)) := by
    have x1 : Dv a (r - Poly.C c) := Dv.trans ⟨b, e⟩ dc
    have x2 : Dv a (w * (b * m) - r) := Dv.trans ⟨b * m, ef⟩ hd
    have x3 : Dv a (w * (b * m) - 1) := ⟨- u, by grind⟩
    rw [C_sub, C_one, show Poly.C c - 1 = (w * (b * m) - 1) - (w * (b * m) - r) - (r - Poly.C c) by grind]
    exact (x3.sub x2).sub x1
  have db : Dv b (Poly.C c) := by
    have x1 : Dv b (r - Poly.C c) := Dv.trans ⟨a, by rw [e]; grind⟩ dc
    have x2 : Dv b (w * (b * m) - r) := Dv.trans ⟨a * m, by rw [ef]; grind⟩ hd
    have x3 : Dv b (w * (b * m)) := ⟨w * m, by grind⟩
    rw [show Poly.C c = (w * (b * m)) - (w * (b * m) - r) - (r - Poly.C c) by grind]
    exact (x3.sub x2).sub x1
  have z1 := da.const ha
  have z2 := db.const hb
  exact Fld.one_ne (F := F) (by grind)
end

theorem prodN_at : ∀ (m t : Nat) (g : Nat → Poly F), t < m → prodN m g = g t * prodN m (fun i => if i = t then 1 else g i)
  | m + 1, 0, g, h => by
    show g 0 * prodN m (fun i => g (i + 1)) = g 0 * ((if 0 = 0 then 1 else g 0) * prodN m (fun i => if i + 1 = 0 then 1 else g (i + 1)))
    have e : (fun i => if i + 1 = 0 then (1 : Poly F) else g (i + 1)) = fun i => g (i + 1) := funext fun i => by rw [if_neg (by omega)]
    rw [e, if_pos rfl]; grind
  | m + 1, t + 1, g, h => by
    show g 0 * prodN m (fun i => g (i + 1)) = g (t + 1) * ((if 0 = t + 1 then 1 else g 0) * prodN m (fun i => if i + 1 = t + 1 then 1 else g (i + 1)))
    have e : (fun i => if i + 1 = t + 1 then (1 : Poly F) else g (i + 1)) = fun i => if i = t then 1 else g (i + 1) := funext fun i => by
      by_cases q : i = t
      · rw [if_pos q, if_pos (by omega)]
      · rw [if_neg q, if_neg (by omega)]
    rw [e, if_neg (by omega), prodN_at m t (fun i => g (i + 1)) (by omega)]; grind
theorem prodN_dv : ∀ (m t : Nat) (g : Nat → Poly F), t < m → Dv (g t) (prodN m g) := fun m t g h => ⟨_, prodN_at m t g h⟩
theorem sumP_dv {q : Poly F} : ∀ (m : Nat) (f : Nat → Poly F), (∀ i, i < m → Dv q (f i)) → Dv q (sumP m f)
  | 0, f, _ => Dv.zero q
  | m + 1, f, h => (h 0 (by omega)).add (sumP_dv m _ fun i hi => h (i + 1) (by omega))
theorem sumP_dv_but {q : Poly F} : ∀ (m t : Nat) (f : Nat → Poly F), t < m → (∀ i, i < m → i ≠ t → Dv q (f i)) → Dv q (sumP m f - f t)
  | m + 1, 0, f, _, h => by
    show Dv q (f 0 + sumP m (fun i => f (i + 1)) - f 0)
    rw [show f 0 + sumP m (fun i => f (i + 1)) - f 0 = sumP m (fun i => f (i + 1)) by grind]
    exact sumP_dv m _ fun i hi => h (i + 1) (by omega) (by omega)
  | m + 1, t + 1, f, ht, h => by
    show Dv q (f 0 + sumP m (fun i => f (i + 1)) - f (t + 1))
    rw [show f 0 + sumP m (fun i => f (i + 1)) - f (t + 1) = f 0 + (sumP m (fun i => f (i + 1)) - f (t + 1)) by grind]
    exact (h 0 (by omega) (by omega)).add (sumP_dv_but m t (fun i => f (i + 1)) (by omega) fun i hi hn => h (i + 1) (by omega) (by omega))
theorem prodP_N : ∀ l : List (Poly F), prodP l = prodN l.length (fun i => l.getD i 1)
  | [] => rfl
  | a :: l => by
    show a * prodP l = a * prodN l.length (fun i => (a :: l).getD (i + 1) 1)
    rw [prodP_N l]; rfl
section
variable {p : Nat} {els : List F}
/-- as many parts as spanning ones, at most -/
theorem parts_le (X : IsFp p els) {l S : List (Poly F)} (sf : SqF (prodP l)) (h2 : ∀ q, q ∈ l → 2 ≤ len q) (sp : Spans p (prodP l) S) : l.length ≤ S.length := by
  refine Classical.byContradiction fun no => ?_
  have hne : ∀ l : List (Poly F), (∀ q, q ∈ l → 2 ≤ len q) → prodP l ≠ 0 := by
    intro l
    induction l with
    | nil => intro _; exact Mon.one.ne
    | cons a l ih => intro h; exact mul_ne (ne_of_len (by have := h a (by simp); omega)) (ih fun q hq => h q (by simp [hq]))
  have hf := hne l h2
  have one : ∀ t, ∃ a : Nat → F, t < l.length → Dv (l.getD t 1) (linf a S - 1) ∧ ∀ j, j < l.length → j ≠ t → Dv (l.getD j 1) (linf a S) := fun t => by
    by_cases ht : t < l.length
    · have e := prodN_at l.length t (fun i => l.getD i 1) ht
      rw [← prodP_N] at e
      obtain ⟨u, w, h1⟩ := sf.cop hf e
      let N := prodN l.length (fun i => if i = t then 1 else l.getD i 1)
      have h1' : u * l.getD t 1 + w * N = 1 := h1
      have e' : prodP l = l.getD t 1 * N := e
      obtain ⟨Q, r, er, hr⟩ := div_rest (prodP l) hf _ (w * N) (Nat.le_refl _)
      have hB : Berl p (prodP l) (w * N) := Dv.trans ⟨- (u * w), by rw [e']; grind⟩ (X.dv01 (w * N))
      have hd : Dv (prodP l) (w * N - r) := ⟨Q, by grind⟩
      obtain ⟨a, ha⟩ := sp r hr (hB.congr hd)
      refine ⟨a, fun _ => ⟨?_, fun j hj hn => ?_⟩⟩
      · rw [← ha]
        have x2 : Dv (l.getD t 1) (w * N - r) := Dv.trans ⟨N, e'⟩ hd
        have x3 : Dv (l.getD t 1) (w * N - 1) := ⟨- u, by grind⟩
        rw [show r - 1 = (w * N - 1) - (w * N - r) by grind]
        exact x3.sub x2
      · rw [← ha]
        have y : Dv (l.getD j 1) N := by
          have := prodN_dv l.length j (fun i => if i = t then 1 else l.getD i 1) hj
          simp only [if_neg hn] at this
          exact this
        have x2 : Dv (l.getD j 1) (w * N - r) := Dv.trans y (Dv.trans ⟨l.getD t 1, by rw [e']; grind⟩ hd)
        rw [show r = w * N - (w * N - r) by grind]
        exact (y.mul' w).sub x2
    · exact ⟨fun _ => 0, fun q => absurd q ht⟩
  let A := fun i => Classical.choose (one i)
  have hA := fun i => Classical.choose_spec (one i)
  obtain ⟨x, ⟨t, ht, hx⟩, hs⟩ := depends S.length l.length A (by omega)
  have z : sumP l.length (fun i => Poly.C (x i) * linf (A i) S) = 0 := by
    rw [← linf_sum S]
    exact linf_zero S _ fun i hi => hs i hi
  have d := sumP_dv_but (q := l.getD t 1) l.length t (fun i => Poly.C (x i) * linf (A i) S) ht fun i hi hn => ((hA i hi).2 t ht (Ne.symm hn)).mul' _
  rw [z] at d
  have d2 : Dv (l.getD t 1) (Poly.C (x t)) := by
    have d3 := ((hA t ht).1.mul' (Poly.C (x t)))
    rw [show Poly.C (x t) = (0 - (0 - Poly.C (x t) * linf (A t) S)) - Poly.C (x t) * (linf (A t) S - 1) by grind]
    exact ((Dv.zero _).sub d).sub d3
  refine hx (d2.const (h2 _ ?_))
  rw [List.getD_eq_getElem?_getD, List.getElem?_eq_getElem ht]
  exact List.getElem_mem ht
/-- just as many: all are prime -/
theorem irr_of_count (X : IsFp p els) {l S : List (Poly F)} (sf : SqF (prodP l)) (h2 : ∀ q, q ∈ l → 2 ≤ len q) (sp : Spans p (prodP l) S) (hl : l.length = S.length) : ∀ q, q ∈ l → Irr q := by
  intro q hq
  refine ⟨h2 q hq, fun a b e => Classical.byContradiction fun no => ?_⟩
  obtain ⟨l1, l2, rfl⟩ := List.append_of_mem hq
  have ep : prodP (a :: b :: (l1 ++ l2)) = prodP (l1 ++ q :: l2) := by
    show a * (b * prodP (l1 ++ l2)) = _
    rw [prodP_append, prodP_append]
    show _ = prodP l1 * (q * prodP l2)
    rw [e]; grind
  have := parts_le X (l := a :: b :: (l1 ++ l2)) (S := S) (by rw [ep]; exact sf) (fun x hx => by
    simp only [List.mem_cons, List.mem_append] at hx
    rcases hx with rfl | rfl | hx | hx
    · omega
    · omega
    · exact h2 x (by simp [hx])
    · exact h2 x (by simp [hx])) (by rw [ep]; exact sp)
  simp at this hl
  omega

/-! ### parting by greatest common divisors -/
def IsGcd (d f g : Poly F) : Prop := Mon d ∧ Dv d f ∧ Dv d g ∧ ∃ u v, d = u * f + v * g
theorem IsGcd.of_dv {d f g x : Poly F} (h : IsGcd d f g) (a : Dv x f) (b : Dv x g) : Dv x d := by
  obtain ⟨_, _, _, u, v, e⟩ := h
  rw [e]
  exact (a.mul' u).add (b.mul' v)
/-- ds: for each of els the gcd of the part and v less it; their product is the part -/
theorem split_prod (X : IsFp p els) {q v : Poly F} (mq : Mon q) (hB : Berl p q v) {G : F → Poly F} (hG : ∀ c, IsGcd (G c) q (v - Poly.C c)) : prodP (els.map G) = q := by
  have A : ∀ cs : List F, cs.Nodup → Dv (prodP (cs.map G)) q ∧ ∀ c, c ∉ cs → Cop (v - Poly.C c) (prodP (cs.map G)) := by
    intro cs
    induction cs with
    | nil => intro _; exact ⟨⟨q, by show q = 1 * q; grind⟩, fun c _ => Cop.one _⟩
    | cons c cs ih =>
      intro nd
      obtain ⟨n1, n2⟩ := List.nodup_cons.mp nd
      obtain ⟨d, h⟩ := ih n2
      refine ⟨((h c n1).of_dv' (hG c).2.2.1).prod (hG c).2.1 d, fun c2 hc2 => ?_⟩
      simp only [List.mem_cons, _root_.not_or] at hc2
      exact ((cop_shift v hc2.1).of_dv (hG c).2.2.1).mul (h c2 hc2.2)
  have B : ∀ cs : List F, ∃ W, Dv q (prodP (cs.map G) - W * prodP (cs.map fun c => v - Poly.C c)) := by
    intro cs
    induction cs with
    | nil => exact ⟨1, ⟨0, by show (1 : Poly F) - 1 * 1 = q * 0; grind⟩⟩
    | cons c cs ih =>
      obtain ⟨W, y, e⟩ := ih
      obtain ⟨_, _, _, u, w, e2⟩ := hG c
      refine ⟨w * W, ⟨G c * y + u * (W * prodP (cs.map fun c => v - Poly.C c)), ?_⟩⟩
      show G c * prodP (cs.map G) - w * W * ((v - Poly.C c) * prodP (cs.map fun c => v - Poly.C c)) = _
      grind
  obtain ⟨d1, _⟩ := A els X.nodup
  obtain ⟨W, hW⟩ := B els
  have d2 : Dv q (prodP (els.map G)) := by
    rw [X.prod v] at hW
    have := hW.add (hB.mul' W)
    rw [show prodP (els.map G) - W * (v ^ p - v) + W * (v ^ p - v) = prodP (els.map G) by grind] at this
    exact this
  have mp : Mon (prodP (els.map G)) := prodP_mon fun x hx => by
    obtain ⟨c, _, rfl⟩ := List.mem_map.mp hx
    exact (hG c).1
  exact mp.eq_of_dv mq d1 ((d2.len mp.ne).1)
end
end
end Mw
end
section
set_option autoImplicit false
/-! The program's functions over plain lists of ints. -/
namespace Mw
abbrev LI := List Int

def invOf (p w : Int) : Int := (List.range (p - 2).toNat).foldl (fun f _ => f * w % p) 1
/-- noughts at the end left away -/
def trim : LI → LI
  | [] => []
  | a :: l => match trim l with
    | [] => if a = 0 then [] else [a]
    | b :: r => a :: b :: r
/-- the last worth -/
def lastI (l : LI) : Int := l.getD (l.length - 1) 0
def isPoly (p : Int) (l : LI) : Bool := l.all (fun x => decide (0 ≤ x ∧ x ≤ p - 1)) && (l.isEmpty || decide (lastI l ≠ 0))
/-- found[at + place] += here * other[place], the first n places -/
def addRow (p : Int) (at_ : Nat) (here : Int) (other : LI) (n : Nat) (found : LI) : LI :=
  (List.range n).foldl (fun f k => f.set (at_ + k) ((f.getD (at_ + k) 0 + here * other.getD k 0) % p)) found
def mulRows (p : Int) (one other : LI) (n : Nat) (found : LI) : LI :=
  (List.range n).foldl (fun f i => addRow p i (one.getD i 0) other other.length f) found
def rawProduct (p : Int) (one other : LI) : LI := trim (mulRows p one other one.length (List.replicate (one.length + other.length) 0))
def monic (p : Int) (l : LI) : LI := l.map fun w => w * invOf p (lastI l) % p
/-- left[at + place] -= many * other[place], the first n places -/
def subRow (p : Int) (at_ : Nat) (many : Int) (other : LI) (n : Nat) (left : LI) : LI :=
  (List.range n).foldl (fun f k => f.set (at_ + k) ((f.getD (at_ + k) 0 - many * other.getD k 0) % p)) left
/-- one turn of the division, at the place a -/
def divTurn (p inv : Int) (other : LI) (a : Nat) (s : LI × LI) : LI × LI :=
  let many := s.1.getD (a + other.length - 1) 0 * inv % p
  (subRow p a many other other.length s.1, s.2.set a many)
/-- n turns from the place top down -/
def divTurns (p inv : Int) (other : LI) (top : Nat) (n : Nat) (s : LI × LI) : LI × LI :=
  (List.range n).foldl (fun s i => divTurn p inv other (top - i) s) s
def divided (p : Int) (one other : LI) : LI × LI :=
  let n := one.length + 1 - other.length
  let s := divTurns p (invOf p (lastI other)) other (one.length - other.length) n (one, List.replicate n 0)
  (trim s.2, trim s.1)
def commonF (p : Int) : Nat → LI → LI → LI
  | 0, _, _ => []
  | n + 1, one, other => if other = [] then monic p one else commonF p n other (divided p one other).2
def common (p : Int) (one other : LI) : LI := commonF p (other.length + 1) one other
def slope (p : Int) (l : LI) : LI := trim (((List.range l.length).map fun (i : Nat) => (i : Int) * l.getD i 0 % p).drop 1)
def minus (p : Int) (one other : LI) : LI :=
  trim ((List.range (max one.length other.length)).map fun (i : Nat) => (one.getD i 0 - other.getD i 0) % p)
def pad (n : Nat) (l : LI) : LI := l ++ List.replicate (n - l.length) 0
/-- the rests of the powers step ^ 0 .. step ^ (n - 1) -/
def restsF (p : Int) (poly step : LI) : Nat → List LI
  | 0 => [[1]]
  | n + 1 => let r := restsF p poly step n; r ++ [(divided p (rawProduct p (r.getD n []) step) poly).2]
def powerRests (p : Int) (poly : LI) : List LI :=
  let step := (divided p (List.replicate p.toNat 0 ++ [1]) poly).2
  (restsF p poly step (poly.length - 2)).map (pad (poly.length - 1))
/-- the columns of the table whose kernel is asked -/
def stillCols (p : Int) (poly : LI) : List LI :=
  let rests := powerRests p poly
  (List.range (poly.length - 1)).map fun a => (List.range (rests.getD a []).length).map fun h => ((rests.getD a []).getD h 0 - (if a = h then 1 else 0)) % p
def rowsOf (high : Nat) (cols : List LI) : List LI := (List.range high).map fun a => cols.map fun c => c.getD a 0
def less (p : Int) (row : LI) (m : Int) (other : LI) : LI := (List.range (min row.length other.length)).map fun i => (row.getD i 0 - m * other.getD i 0) % p
def cleared (p : Int) (rows : List LI) (place : Nat) (row : LI) : List LI :=
  rows.map fun o => if o.getD place 0 ≠ 0 then less p o (o.getD place 0) row else o
structure Red where
  left : List LI
  found : List LI
  places : List Nat
def redTurn (p : Int) (s : Red) (place : Nat) : Red :=
  match (List.range s.left.length).filter (fun a => decide ((s.left.getD a []).getD place 0 ≠ 0)) with
  | [] => s
  | a :: _ =>
    let r0 := s.left.getD a []
    let row := r0.map fun w => w * invOf p (r0.getD place 0) % p
    ⟨cleared p (s.left.eraseIdx a) place row, cleared p s.found place row ++ [row], s.places ++ [place]⟩
def redTurns (p : Int) (n : Nat) (s : Red) : Red := (List.range n).foldl (redTurn p) s
def reducedRows (p : Int) (wide : Nat) (rows : List LI) : List LI × List Nat :=
  let s := redTurns p wide ⟨rows, [], []⟩
  (s.found, s.places)
/-- the column of a free place -/
def freeCol (p : Int) (wide : Nat) (rows : List LI) (places : List Nat) (free : Nat) (n : Nat) : LI :=
  (List.range n).foldl (fun c i => c.set (places.getD i 0) (-((rows.getD i []).getD free 0) % p)) ((List.range wide).map fun a => if a = free then (1 : Int) else 0)
def kernel (p : Int) (wide : Nat) (rows : List LI) : List LI :=
  let s := reducedRows p wide rows
  let found := ((List.range wide).filter fun f => !s.2.contains f).map fun f => freeCol p wide s.1 s.2 f (min s.1.length s.2.length)
  (reducedRows p wide found).1
def stillPolys (p : Int) (poly : LI) : List LI :=
  (kernel p (poly.length - 1) (rowsOf (poly.length - 1) (stillCols p poly))).map trim
/-- a part, parted by one -/
def splitBy (p : Int) (one part : LI) : List LI :=
  ((List.range p.toNat).map fun (w : Nat) => common p part (minus p one (trim [(w : Int)]))).filter fun d => decide (1 < d.length)
def splitAll (p : Int) (one : LI) (found : List LI) : List LI := found.flatMap (splitBy p one)
def simpleGo (p : Int) (m : Nat) : List LI → List LI → List LI
  | [], found => found
  | one :: still, found => if (splitAll p one found).length = m then splitAll p one found else simpleGo p m still (splitAll p one found)
def simpleFactors (p : Int) (poly : LI) : List LI := simpleGo p (stillPolys p poly).length (stillPolys p poly) [poly]
def timesInF (p : Int) (factor : LI) : Nat → LI → Nat → Nat × LI
  | 0, poly, many => (many, poly)
  | n + 1, poly, many => let d := divided p poly factor; if d.2 = [] ∧ d.1 ≠ [] then timesInF p factor n d.1 (many + 1) else (many, poly)
def timesIn (p : Int) (poly factor : LI) : Nat × LI := timesInF p factor poly.length poly 0
abbrev Dic := List (LI × Int)
def getDic (d : Dic) (k : LI) : Int := ((d.find? fun kv => decide (kv.1 = k)).map (·.2)).getD 0
def putDic (d : Dic) (k : LI) (v : Int) : Dic :=
  if (d.any fun kv => decide (kv.1 = k)) = true then d.map (fun kv => if kv.1 = k then (kv.1, v) else kv) else d ++ [(k, v)]
/-- the turn of the inner loop: a factor taken out as often as it is in -/
def takeOut (p scale : Int) (s : LI × Dic) (factor : LI) : LI × Dic :=
  let t := timesIn p s.1 factor
  (t.2, putDic s.2 factor (getDic s.2 factor + (t.1 : Int) * scale))
def everyPth (p : Int) (l : LI) : LI := (List.range ((l.length + p.toNat - 1) / p.toNat)).map fun i => l.getD (i * p.toNat) 0
def rawF (p : Int) : Nat → LI → Int → Dic → Dic
  | 0, _, _, found => found
  | n + 1, left, scale, found =>
    if 1 < left.length then
      if slope p left = [] then rawF p n (everyPth p left) (scale * p) found
      else
        let simple := (divided p left (common p left (slope p left))).1
        let s := (simpleFactors p simple).foldl (takeOut p scale) (left, found)
        rawF p n s.1 scale s.2
    else found
def rawDic (p : Int) (poly : LI) : Dic := rawF p poly.length (monic p poly) 1 []
/-- the order of lists of ints -/
def ltL : LI → LI → Bool
  | [], [] => false
  | [], _ :: _ => true
  | _ :: _, [] => false
  | a :: l, b :: m => if a = b then ltL l m else decide (a < b)
def leP (x y : LI × Int) : Bool := if x.1 = y.1 then decide (x.2 ≤ y.2) else ltL x.1 y.1
def rawFactors (p : Int) (poly : LI) : Dic := (rawDic p poly).mergeSort leP
end Mw
end
section
set_option autoImplicit false
set_option linter.unusedSectionVars false
/-! The six fields; lists of ints as polynomials; sums and products. -/
namespace Mw
open Lean.Grind

inductive P6 | p2 | p3 | p5 | p7 | p11 | p13
  deriving DecidableEq
def P6.n : P6 → Nat
  | .p2 => 2 | .p3 => 3 | .p5 => 5 | .p7 => 7 | .p11 => 11 | .p13 => 13
theorem P6.two (q : P6) : 2 ≤ q.n := by cases q <;> decide
theorem P6.most (q : P6) : q.n ≤ 13 := by cases q <;> decide
instance (q : P6) : NeZero q.n := ⟨by have := q.two; omega⟩
abbrev Fq (q : P6) : Type := Fin q.n
instance (q : P6) : IsCharP (Fq q) q.n := inferInstanceAs (IsCharP (Fin q.n) q.n)
instance (q : P6) : Fld (Fq q) where
  one_ne := by cases q <;> (show (1 : Fin _) ≠ 0; decide)
  inv := by
    cases q
    · show ∀ a : Fin 2, a ≠ 0 → ∃ b, a * b = 1; decide
    · show ∀ a : Fin 3, a ≠ 0 → ∃ b, a * b = 1; decide
    · show ∀ a : Fin 5, a ≠ 0 → ∃ b, a * b = 1; decide
    · show ∀ a : Fin 7, a ≠ 0 → ∃ b, a * b = 1; decide
    · show ∀ a : Fin 11, a ≠ 0 → ∃ b, a * b = 1; decide
    · show ∀ a : Fin 13, a ≠ 0 → ∃ b, a * b = 1; decide
def els (q : P6) : List (Fq q) := List.finRange q.n
section
variable {R : Type} [CommRing R]
theorem frob2 [IsCharP R 2] (a b : R) : (a + b) ^ 2 = a ^ 2 + b ^ 2 := by grind
theorem prod2 [IsCharP R 2] (v : R) : (v - 0) * ((v - 1) * 1) = v ^ 2 - v := by grind
theorem frob3 [IsCharP R 3] (a b : R) : (a + b) ^ 3 = a ^ 3 + b ^ 3 := by grind
theorem prod3 [IsCharP R 3] (v : R) : (v - 0) * ((v - 1) * ((v - 2) * 1)) = v ^ 3 - v := by grind
theorem frob5 [IsCharP R 5] (a b : R) : (a + b) ^ 5 = a ^ 5 + b ^ 5 := by grind
theorem prod5 [IsCharP R 5] (v : R) : (v - 0) * ((v - 1) * ((v - 2) * ((v - 3) * ((v - 4) * 1)))) = v ^ 5 - v := by grind
theorem frob7 [IsCharP R 7] (a b : R) : (a + b) ^ 7 = a ^ 7 + b ^ 7 := by grind
theorem prod7 [IsCharP R 7] (v : R) : (v - 0) * ((v - 1) * ((v - 2) * ((v - 3) * ((v - 4) * ((v - 5) * ((v - 6) * 1)))))) = v ^ 7 - v := by grind
theorem frob11 [IsCharP R 11] (a b : R) : (a + b) ^ 11 = a ^ 11 + b ^ 11 := by grind
theorem prod11 [IsCharP R 11] (v : R) : (v - 0) * ((v - 1) * ((v - 2) * ((v - 3) * ((v - 4) * ((v - 5) * ((v - 6) * ((v - 7) * ((v - 8) * ((v - 9) * ((v - 10) * 1)))))))))) = v ^ 11 - v := by grind
theorem frob13 [IsCharP R 13] (a b : R) : (a + b) ^ 13 = a ^ 13 + b ^ 13 := by grind
theorem prod13 [IsCharP R 13] (v : R) : (v - 0) * ((v - 1) * ((v - 2) * ((v - 3) * ((v - 4) * ((v - 5) * ((v - 6) * ((v - 7) * ((v - 8) * ((v - 9) * ((v - 10) * ((v - 11) * ((v - 12) * 1)))))))))))) = v ^ 13 - v := by grind
end
theorem isFp (q : P6) : IsFp q.n (els q) where
  nodup := by cases q <;> (unfold els; decide)
  all := by
    intro a
    exact List.mem_finRange a
  fer := by
    cases q
    · show ∀ a : Fin 2, a ^ 2 = a; decide
    · show ∀ a : Fin 3, a ^ 3 = a; decide
    · show ∀ a : Fin 5, a ^ 5 = a; decide
    · show ∀ a : Fin 7, a ^ 7 = a; decide
    · show ∀ a : Fin 11, a ^ 11 = a; decide
    · show ∀ a : Fin 13, a ^ 13 = a; decide
  frob := by
    cases q
    · have : IsCharP (Fq .p2) 2 := inferInstanceAs (IsCharP (Fin 2) 2); exact fun a b => frob2 (R := Poly (Fq .p2)) a b
    · have : IsCharP (Fq .p3) 3 := inferInstanceAs (IsCharP (Fin 3) 3); exact fun a b => frob3 (R := Poly (Fq .p3)) a b
    · have : IsCharP (Fq .p5) 5 := inferInstanceAs (IsCharP (Fin 5) 5); exact fun a b => frob5 (R := Poly (Fq .p5)) a b
    · have : IsCharP (Fq .p7) 7 := inferInstanceAs (IsCharP (Fin 7) 7); exact fun a b => frob7 (R := Poly (Fq .p7)) a b
    · have : IsCharP (Fq .p11) 11 := inferInstanceAs (IsCharP (Fin 11) 11); exact fun a b => frob11 (R := Poly (Fq .p11)) a b
    · have : IsCharP (Fq .p13) 13 := inferInstanceAs (IsCharP (Fin 13) 13); exact fun a b => frob13 (R := Poly (Fq .p13)) a b
  prod := by
    cases q
    · have : IsCharP (Fq .p2) 2 := inferInstanceAs (IsCharP (Fin 2) 2); exact fun v => prod2 (R := Poly (Fq .p2)) v
    · have : IsCharP (Fq .p3) 3 := inferInstanceAs (IsCharP (Fin 3) 3); exact fun v => prod3 (R := Poly (Fq .p3)) v
    · have : IsCharP (Fq .p5) 5 := inferInstanceAs (IsCharP (Fin 5) 5); exact fun v => prod5 (R := Poly (Fq .p5)) v
    · have : IsCharP (Fq .p7) 7 := inferInstanceAs (IsCharP (Fin 7) 7); exact fun v => prod7 (R := Poly (Fq .p7)) v
    · have : IsCharP (Fq .p11) 11 := inferInstanceAs (IsCharP (Fin 11) 11); exact fun v => prod11 (R := Poly (Fq .p11)) v
    · have : IsCharP (Fq .p13) 13 := inferInstanceAs (IsCharP (Fin 13) 13); exact fun v => prod13 (R := Poly (Fq .p13)) v

section
variable {q : P6}
local instance instICq : IntCast (Fq q) := Ring.intCast
/-- an int as a worth -/
def cf (q : P6) (z : Int) : Fq q := ((z : Int) : Fq q)
abbrev P6.z (q : P6) : Int := (q.n : Int)
theorem cf_add (a b : Int) : cf q (a + b) = cf q a + cf q b := Ring.intCast_add a b
theorem cf_sub (a b : Int) : cf q (a - b) = cf q a - cf q b := Ring.intCast_sub a b
theorem cf_mul (a b : Int) : cf q (a * b) = cf q a * cf q b := Ring.intCast_mul a b
theorem cf_neg (a : Int) : cf q (-a) = - cf q a := Ring.intCast_neg a
theorem cf_zero : cf q 0 = 0 := Ring.intCast_zero
theorem cf_one : cf q 1 = 1 := Ring.intCast_one
theorem cf_mod (a : Int) : cf q (a % q.z) = cf q a := IsCharP.intCast_emod q.n a
theorem cf_iff (a b : Int) : cf q a = cf q b ↔ a % q.z = b % q.z := IsCharP.intCast_ext_iff q.n
theorem P6.z2 (q : P6) : 2 ≤ q.z := by have := q.two; show 2 ≤ (q.n : Int); omega
theorem cf_inj {a b : Int} (h : cf q a = cf q b) (a0 : 0 ≤ a) (a1 : a < q.z) (b0 : 0 ≤ b) (b1 : b < q.z) : a = b := by
  have := (cf_iff a b).mp h
  rw [Int.emod_eq_of_lt a0 a1, Int.emod_eq_of_lt b0 b1] at this
  exact this
theorem cf_eq_zero {a : Int} (a0 : 0 ≤ a) (a1 : a < q.z) : cf q a = 0 ↔ a = 0 := by
  constructor
  · intro h
    rw [← cf_zero] at h
    exact cf_inj h a0 a1 (by omega) (by have := q.z2; omega)
  · rintro rfl; exact cf_zero
theorem mod_in (a : Int) : 0 ≤ a % q.z ∧ a % q.z < q.z := ⟨Int.emod_nonneg _ (by have := q.z2; omega), Int.emod_lt_of_pos _ (by have := q.z2; omega)⟩
theorem cf_val (a : Fq q) : cf q (a.val : Int) = a := by
  have h := Ring.intCast_natCast (α := Fq q) a.val
  refine Eq.trans h ?_
  exact Fin.ext (Nat.mod_eq_of_lt a.isLt)

def toP (q : P6) (l : LI) : Poly (Fq q) := ⟨fun i => cf q (l.getD i 0), l.length, fun i hi => by
  rw [List.getD_eq_getElem?_getD, List.getElem?_eq_none hi]
  exact cf_zero⟩
theorem toP_c (l : LI) (i : Nat) : (toP q l).c i = cf q (l.getD i 0) := rfl
/-- all worths -/
def Rg (q : P6) (l : LI) : Prop := ∀ x, x ∈ l → 0 ≤ x ∧ x < q.z
/-- the right form -/
def IsC (q : P6) (l : LI) : Prop := Rg q l ∧ (l ≠ [] → lastI l ≠ 0)
theorem Rg.get {l : LI} (h : Rg q l) (i : Nat) : 0 ≤ l.getD i 0 ∧ l.getD i 0 < q.z := by
  rw [List.getD_eq_getElem?_getD]
  by_cases hi : i < l.length
  · rw [List.getElem?_eq_getElem hi]
    exact h _ (List.getElem_mem hi)
  · rw [List.getElem?_eq_none (by omega)]
    have := q.z2
    exact ⟨Int.le_refl _, by show (0 : Int) < _; omega⟩
theorem Rg.of_get {l : LI} (h : ∀ i, i < l.length → 0 ≤ l.getD i 0 ∧ l.getD i 0 < q.z) : Rg q l := fun x hx => by
  obtain ⟨i, hi, e⟩ := List.getElem_of_mem hx
  have := h i hi
  rw [List.getD_eq_getElem?_getD, List.getElem?_eq_getElem hi] at this
  simp only [Option.getD_some] at this
  rw [e] at this
  exact this
theorem Rg.set {l : LI} (h : Rg q l) (i : Nat) {z : Int} (hz : 0 ≤ z ∧ z < q.z) : Rg q (l.set i z) := fun x hx => by
  rcases List.mem_or_eq_of_mem_set hx with e | e
  · exact h x e
  · rw [e]; exact hz
theorem Rg.nil : Rg q [] := fun _ h => nomatch h
theorem Rg.rep (n : Nat) : Rg q (List.replicate n 0) := fun x hx => by
  rw [(List.mem_replicate.mp hx).2]
  have := q.z2
  omega
theorem Rg.append {l m : LI} (a : Rg q l) (b : Rg q m) : Rg q (l ++ m) := fun x hx => (List.mem_append.mp hx).elim (a x) (b x)
theorem toP_nil : toP q [] = 0 := Poly.ext fun i => by rw [toP_c, zero_c]; simp [cf_zero]
theorem toP_len (l : LI) : len (toP q l) ≤ l.length := len_le fun i hi => by
  rw [toP_c, List.getD_eq_getElem?_getD, List.getElem?_eq_none hi]
  exact cf_zero
theorem IsC.lead {l : LI} (h : IsC q l) (hl : l ≠ []) : (toP q l).c (l.length - 1) ≠ 0 := by
  rw [toP_c]
  intro e
  have := h.1.get (l.length - 1)
  exact h.2 hl ((cf_eq_zero this.1 this.2).mp e)
theorem IsC.len {l : LI} (h : IsC q l) : len (toP q l) = l.length := by
  by_cases e : l = []
  · rw [e, toP_nil, len_zero]; rfl
  · exact len_eq (fun i hi => by rw [toP_c, List.getD_eq_getElem?_getD, List.getElem?_eq_none hi]; exact cf_zero) (h.lead e) (List.length_pos_iff.mpr e)
theorem IsC.inj {l m : LI} (h : IsC q l) (k : IsC q m) (e : toP q l = toP q m) : l = m := by
  have hl : l.length = m.length := by rw [← h.len, ← k.len, e]
  refine List.ext_getElem hl fun i h1 h2 => ?_
  have e1 : (toP q l).c i = (toP q m).c i := by rw [e]
  rw [toP_c, toP_c] at e1
  have a := h.1.get i
  have b := k.1.get i
  have := cf_inj e1 a.1 a.2 b.1 b.2
  rw [List.getD_eq_getElem?_getD, List.getD_eq_getElem?_getD, List.getElem?_eq_getElem h1, List.getElem?_eq_getElem h2] at this
  exact this
theorem IsC.nil : IsC q [] := ⟨Rg.nil, fun h => absurd rfl h⟩
theorem IsC.zero_iff {l : LI} (h : IsC q l) : toP q l = 0 ↔ l = [] := by
  constructor
  · intro e; exact h.inj IsC.nil (e.trans toP_nil.symm)
  · rintro rfl; exact toP_nil
theorem IsC.lead_eq {l : LI} (h : IsC q l) : Mw.lead (toP q l) = cf q (lastI l) := by
  unfold Mw.lead lastI
  rw [h.len, toP_c]

/-! ### trim -/
theorem trim_getD : ∀ (l : LI) (i : Nat), (trim l).getD i 0 = l.getD i 0
  | [], i => rfl
  | a :: l, i => by
    have ih := trim_getD l
    unfold trim
    split
    · next e =>
      rw [e] at ih
      split
      · next h =>
        cases i with
        | zero => simp [h]
        | succ i => have := ih i; simp at this ⊢; exact this
      · cases i with
        | zero => simp
        | succ i => have := ih i; simp at this ⊢; exact this
    · next b r e =>
      rw [e] at ih
      cases i with
      | zero => simp
      | succ i => have := ih i; simp at this ⊢; exact this
theorem trim_le : ∀ l : LI, (trim l).length ≤ l.length
  | [] => Nat.le_refl _
  | a :: l => by
    have ih := trim_le l
    unfold trim
    split
    · split <;> simp
    · next b r e => rw [e] at ih; simp at ih ⊢; omega
theorem trim_last : ∀ l : LI, trim l ≠ [] → lastI (trim l) ≠ 0
  | [], h => absurd rfl h
  | a :: l, h => by
    have ih := trim_last l
    unfold trim at h ⊢
    cases e : trim l with
    | nil =>
      rw [e] at h
      simp only at h ⊢
      by_cases h0 : a = 0
      · rw [if_pos h0] at h; exact absurd rfl h
      · rw [if_neg h0]; simpa [lastI] using h0
    | cons b r =>
      have := ih (by rw [e]; simp)
      rw [e] at this
      simpa [lastI] using this
theorem toP_trim (l : LI) : toP q (trim l) = toP q l := Poly.ext fun i => by rw [toP_c, toP_c, trim_getD]
theorem trim_C {l : LI} (h : Rg q l) : IsC q (trim l) := ⟨Rg.of_get fun i _ => by rw [trim_getD]; exact h.get i, trim_last l⟩
theorem IsC.trim {l : LI} (h : IsC q l) : Mw.trim l = l := (trim_C h.1).inj h (toP_trim l)
theorem trim_eq_of {l m : LI} (h : IsC q m) (g : Rg q l) (e : toP q l = toP q m) : Mw.trim l = m := (trim_C g).inj h ((toP_trim l).trans e)

/-! ### sums of rows -/
theorem set_getD (l : LI) (i : Nat) (z : Int) (j : Nat) : (l.set i z).getD j 0 = if j = i ∧ i < l.length then z else l.getD j 0 := by
  rw [List.getD_eq_getElem?_getD, List.getElem?_set, List.getD_eq_getElem?_getD]
  by_cases h : i = j
  · subst h
    by_cases h2 : i < l.length
    · simp [h2]
    · simp [h2]
  · rw [if_neg h, if_neg (fun e => h e.1.symm)]
theorem foldl_range_succ {α : Type} (f : α → Nat → α) (n : Nat) (a : α) : (List.range (n + 1)).foldl f a = f ((List.range n).foldl f a) n := by
  rw [List.range_succ, List.foldl_append]; rfl
theorem addRow_zero (p : Int) (a : Nat) (h : Int) (o f : LI) : addRow p a h o 0 f = f := rfl
theorem addRow_succ (p : Int) (a : Nat) (h : Int) (o : LI) (n : Nat) (f : LI) : addRow p a h o (n + 1) f = (addRow p a h o n f).set (a + n) (((addRow p a h o n f).getD (a + n) 0 + h * o.getD n 0) % p) := foldl_range_succ _ n f
theorem subRow_zero (p : Int) (a : Nat) (h : Int) (o f : LI) : subRow p a h o 0 f = f := rfl
theorem subRow_succ (p : Int) (a : Nat) (h : Int) (o : LI) (n : Nat) (f : LI) : subRow p a h o (n + 1) f = (subRow p a h o n f).set (a + n) (((subRow p a h o n f).getD (a + n) 0 - h * o.getD n 0) % p) := foldl_range_succ _ n f
theorem addRow_len (p : Int) (a : Nat) (h : Int) (o f : LI) : ∀ n, (addRow p a h o n f).length = f.length
  | 0 => rfl
  | n + 1 => by rw [addRow_succ, List.length_set, addRow_len p a h o f n]
theorem subRow_len (p : Int) (a : Nat) (h : Int) (o f : LI) : ∀ n, (subRow p a h o n f).length = f.length
  | 0 => rfl
  | n + 1 => by rw [subRow_succ, List.length_set, subRow_len p a h o f n]
theorem addRow_rg {a : Nat} {h : Int} {o f : LI} (hf : Rg q f) : ∀ n, Rg q (addRow q.z a h o n f)
  | 0 => hf
  | n + 1 => by rw [addRow_succ]; exact (addRow_rg hf n).set _ (mod_in _)
theorem subRow_rg {a : Nat} {h : Int} {o f : LI} (hf : Rg q f) : ∀ n, Rg q (subRow q.z a h o n f)
  | 0 => hf
  | n + 1 => by rw [subRow_succ]; exact (subRow_rg hf n).set _ (mod_in _)
theorem addRow_c {a : Nat} {h : Int} {o f : LI} (j : Nat) : ∀ n, a + n ≤ f.length → cf q ((addRow q.z a h o n f).getD j 0) = cf q (f.getD j 0) + (if a ≤ j ∧ j < a + n then cf q h * cf q (o.getD (j - a) 0) else 0)
  | 0, _ => by rw [addRow_zero, if_neg (by omega)]; grind
  | n + 1, hl => by
    have ih := addRow_c (h := h) (o := o) (f := f) (a := a) j n (by omega)
    rw [addRow_succ, set_getD, addRow_len]
    by_cases e : j = a + n
    · rw [if_pos ⟨e, by omega⟩, if_pos (by omega), cf_mod, cf_add, cf_mul, ← e, ih, if_neg (by omega), show j - a = n by omega]; grind
    · rw [if_neg (fun z => e z.1), ih]
      by_cases e2 : a ≤ j ∧ j < a + n
      · rw [if_pos e2, if_pos (by omega)]
      · rw [if_neg e2, if_neg (by omega)]
theorem subRow_c {a : Nat} {h : Int} {o f : LI} (j : Nat) : ∀ n, a + n ≤ f.length → cf q ((subRow q.z a h o n f).getD j 0) = cf q (f.getD j 0) - (if a ≤ j ∧ j < a + n then cf q h * cf q (o.getD (j - a) 0) else 0)
  | 0, _ => by rw [subRow_zero, if_neg (by omega)]; grind
  | n + 1, hl => by
    have ih := subRow_c (h := h) (o := o) (f := f) (a := a) j n (by omega)
    rw [subRow_succ, set_getD, subRow_len]
    by_cases e : j = a + n
    · rw [if_pos ⟨e, by omega⟩, if_pos (by omega), cf_mod, cf_sub, cf_mul, ← e, ih, if_neg (by omega), show j - a = n by omega]; grind
    · rw [if_neg (fun z => e z.1), ih]
      by_cases e2 : a ≤ j ∧ j < a + n
      · rw [if_pos e2, if_pos (by omega)]
      · rw [if_neg e2, if_neg (by omega)]
theorem mono_toP (x : Fq q) (a : Nat) (o : LI) (j : Nat) : (Poly.mono x a * toP q o).c j = if a ≤ j ∧ j < a + o.length then x * cf q (o.getD (j - a) 0) else 0 := by
  rw [mono_mul_c]
  by_cases h : j < a
  · rw [if_pos h, if_neg (by omega)]
  · rw [if_neg h, toP_c]
    by_cases h2 : j < a + o.length
    · rw [if_pos (by omega)]
    · rw [if_neg (by omega), List.getD_eq_getElem?_getD, List.getElem?_eq_none (by omega)]
      show x * cf q 0 = 0
      rw [cf_zero]; grind
theorem toP_addRow {a : Nat} {h : Int} {o f : LI} (hl : a + o.length ≤ f.length) : toP q (addRow q.z a h o o.length f) = toP q f + Poly.mono (cf q h) a * toP q o := Poly.ext fun j => by
  rw [add_c, mono_toP, toP_c, toP_c, addRow_c j _ hl]
theorem toP_subRow {a : Nat} {h : Int} {o f : LI} (hl : a + o.length ≤ f.length) : toP q (subRow q.z a h o o.length f) = toP q f - Poly.mono (cf q h) a * toP q o := Poly.ext fun j => by
  rw [sub_c, mono_toP, toP_c, toP_c, subRow_c j _ hl]
theorem toP_take_succ (l : LI) (n : Nat) : toP q (l.take (n + 1)) = toP q (l.take n) + Poly.mono (cf q (l.getD n 0)) n := Poly.ext fun j => by
  rw [add_c, toP_c, toP_c]
  show _ = _ + one_at (cf q (l.getD n 0)) n j
  unfold one_at
  simp only [List.getD_eq_getElem?_getD, List.getElem?_take]
  by_cases h : j < n
  · rw [if_pos h, if_pos (by omega), if_neg (by omega)]; grind
  · rw [if_neg h]
    by_cases h2 : j = n
    · rw [h2, if_pos (by omega), if_pos rfl]; simp [cf_zero]
    · rw [if_neg (by omega), if_neg h2]; simp [cf_zero]
theorem mulRows_succ (p : Int) (one other : LI) (n : Nat) (f : LI) : mulRows p one other (n + 1) f = addRow p n (one.getD n 0) other other.length (mulRows p one other n f) := foldl_range_succ _ n f
theorem mulRows_len (p : Int) (one other f : LI) : ∀ n, (mulRows p one other n f).length = f.length
  | 0 => rfl
  | n + 1 => by rw [mulRows_succ, addRow_len, mulRows_len p one other f n]
theorem mulRows_rg {one other f : LI} (hf : Rg q f) : ∀ n, Rg q (mulRows q.z one other n f)
  | 0 => hf
  | n + 1 => by rw [mulRows_succ]; exact addRow_rg (mulRows_rg hf n) _
theorem toP_mulRows {one other f : LI} : ∀ n, n + other.length ≤ f.length + 1 → toP q (mulRows q.z one other n f) = toP q f + toP q (one.take n) * toP q other
  | 0, _ => by
    show toP q f = _
    rw [List.take_zero, toP_nil]; grind
  | n + 1, hl => by
    rw [mulRows_succ, toP_addRow (by rw [mulRows_len]; omega), toP_mulRows n (by omega), toP_take_succ]; grind
theorem toP_rep (n : Nat) : toP q (List.replicate n 0) = 0 := Poly.ext fun i => by
  rw [toP_c, zero_c, List.getD_eq_getElem?_getD, List.getElem?_replicate]
  split <;> simp [cf_zero]
theorem rawProduct_C (one other : LI) : IsC q (rawProduct q.z one other) := trim_C (mulRows_rg (Rg.rep _) _)
theorem toP_rawProduct (one other : LI) : toP q (rawProduct q.z one other) = toP q one * toP q other := by
  unfold rawProduct
  rw [toP_trim, toP_mulRows _ (by rw [List.length_replicate]; omega), toP_rep, List.take_length]; grind

/-! ### the inverse, monic -/
theorem invOf_cf (w : Int) : cf q (invOf q.z w) = cf q w ^ (q.n - 2) := by
  have key : ∀ n : Nat, cf q ((List.range n).foldl (fun f _ => f * w % q.z) 1) = cf q w ^ n := by
    intro n
    induction n with
    | zero => rw [Semiring.pow_zero]; exact cf_one
    | succ n ih => rw [foldl_range_succ, cf_mod, cf_mul, ih, Semiring.pow_succ]
  unfold invOf
  rw [key, show (q.z - 2).toNat = q.n - 2 by show ((q.n : Int) - 2).toNat = _; omega]
theorem inv_pow : ∀ (q : P6) (a : Fq q), a ≠ 0 → a * a ^ (q.n - 2) = 1 := by
  intro q
  cases q
  · show ∀ a : Fin 2, a ≠ 0 → a * a ^ 0 = 1; decide
  · show ∀ a : Fin 3, a ≠ 0 → a * a ^ 1 = 1; decide
  · show ∀ a : Fin 5, a ≠ 0 → a * a ^ 3 = 1; decide
  · show ∀ a : Fin 7, a ≠ 0 → a * a ^ 5 = 1; decide
  · show ∀ a : Fin 11, a ≠ 0 → a * a ^ 9 = 1; decide
  · show ∀ a : Fin 13, a ≠ 0 → a * a ^ 11 = 1; decide
theorem inv_ok {w : Int} (h : cf q w ≠ 0) : cf q w * cf q (invOf q.z w) = 1 := by rw [invOf_cf]; exact inv_pow q _ h
theorem invOf_bd (q : P6) (w : Int) : 0 ≤ invOf q.z w ∧ invOf q.z w < q.z := by
  unfold invOf
  generalize (q.z - 2).toNat = n
  cases n with
  | zero => have := q.z2; exact ⟨by show (0 : Int) ≤ 1; decide, by show (1 : Int) < _; omega⟩
  | succ n => rw [foldl_range_succ]; exact mod_in _
theorem map_getD (f : Nat → Int) (n i : Nat) : ((List.range n).map f).getD i 0 = if i < n then f i else 0 := by
  rw [List.getD_eq_getElem?_getD, List.getElem?_map]
  by_cases h : i < n
  · rw [if_pos h, List.getElem?_range h]; rfl
  · rw [if_neg h, List.getElem?_eq_none (by simpa using h)]; rfl
end
end Mw
end
section
set_option autoImplicit false
set_option linter.unusedSectionVars false
/-! Monic ones, division, common divisors, slopes, differences, roots of the prime. -/
namespace Mw
open Lean.Grind

/-! ### slopes -/
section
variable {F : Type} [CommRing F]
local instance instNCd : NatCast F := Semiring.natCast
def deriv (f : Poly F) : Poly F := ⟨fun i => (((i + 1 : Nat)) : F) * f.c (i + 1), by
  obtain ⟨n, hn⟩ := f.fin
  exact ⟨n, fun i hi => by rw [hn (i + 1) (by omega)]; grind⟩⟩
/-- i times the i-th worth -/
def theta (f : Poly F) : Poly F := ⟨fun i => ((i : Nat) : F) * f.c i, by
  obtain ⟨n, hn⟩ := f.fin
  exact ⟨n, fun i hi => by rw [hn i hi]; grind⟩⟩
theorem cast_zero' : ((0 : Nat) : F) = 0 := Semiring.natCast_zero
theorem cast_succ' (n : Nat) : ((n + 1 : Nat) : F) = ((n : Nat) : F) + 1 := Semiring.natCast_succ n
theorem theta_mul_c : ∀ (n : Nat) (f g : Nat → F), ((n : Nat) : F) * cmul f g n = cmul (fun i => ((i : Nat) : F) * f i) g n + cmul f (fun i => ((i : Nat) : F) * g i) n
  | 0, f, g => by simp only [cmul]; rw [cast_zero']; grind
  | n + 1, f, g => by
    have ih := theta_mul_c n (fun i => f (i + 1)) g
    have e : (fun i => ((i + 1 : Nat) : F) * f (i + 1)) = fun i => ((i : Nat) : F) * f (i + 1) + f (i + 1) := by
      funext i; rw [cast_succ']; grind
    have e2 := cmul_add_left g n (fun i => ((i : Nat) : F) * f (i + 1)) (fun i => f (i + 1))
    simp only [cmul]
    rw [e, e2, cast_zero', cast_succ']
    grind
theorem theta_mul (f g : Poly F) : theta (f * g) = theta f * g + f * theta g := Poly.ext fun i => theta_mul_c i f.c g.c
theorem x_deriv (f : Poly F) : Poly.mono 1 1 * deriv f = theta f := Poly.ext fun i => by
  rw [mono_mul_c]
  cases i with
  | zero =>
    show (if 0 < 1 then (0 : F) else _) = ((0 : Nat) : F) * f.c 0
    rw [if_pos (by omega), cast_zero']; grind
  | succ i =>
    rw [if_neg (by omega)]
    show 1 * (((i + 1 - 1 + 1 : Nat) : F) * f.c (i + 1 - 1 + 1)) = ((i + 1 : Nat) : F) * f.c (i + 1)
    rw [show i + 1 - 1 + 1 = i + 1 by omega]; grind
variable [Fld F]
theorem deriv_mul (f g : Poly F) : deriv (f * g) = deriv f * g + f * deriv g := by
  have hx : Poly.mono (1 : F) 1 ≠ 0 := fun e => by
    have : (Poly.mono (1 : F) 1).c 1 = (0 : Poly F).c 1 := by rw [e]
    rw [zero_c] at this
    exact Fld.one_ne (F := F) (by simpa [Poly.mono, one_at] using this)
  refine cancel hx ?_
  rw [x_deriv, theta_mul, ← x_deriv, ← x_deriv]; grind
theorem deriv_len (f : Poly F) : len (deriv f) ≤ len f - 1 := len_le fun i hi => by
  show ((i + 1 : Nat) : F) * f.c (i + 1) = 0
  rw [len_spec f (i + 1) (by omega)]; grind
theorem deriv_pow (P : Poly F) : ∀ e : Nat, Dv (P ^ e) (deriv (P ^ (e + 1)))
  | 0 => by rw [Semiring.pow_zero]; exact ⟨deriv (P ^ (0 + 1)), by grind⟩
  | e + 1 => by
    rw [Semiring.pow_succ P (e + 1), deriv_mul]
    have h := deriv_pow P e
    refine Dv.add ?_ ((Dv.refl _).mul _)
    rw [Semiring.pow_succ P e]
    exact h.both (Dv.refl P)
/-- what is left behind the common divisor with the slope has no double factors -/
theorem sqf_of {f g s : Poly F} (hf : f ≠ 0) (e : f = g * s) (hg : IsGcd g f (deriv f)) : SqF s := fun d hd => Classical.byContradiction fun no => by
  obtain ⟨P, iP, dP⟩ := irr_dv _ d (Nat.le_refl _) (by omega)
  have hPP : Dv (P * P) s := (dP.both dP).trans hd
  obtain ⟨k, h1, h2⟩ := max_pow iP.1 hf
  cases k with
  | zero =>
    refine h2 ?_
    rw [Nat.zero_add, show P ^ 1 = P by rw [Semiring.pow_succ, Semiring.pow_zero]; grind, e]
    exact ((Dv.refl P).mul P |>.trans hPP).mul' g
  | succ k =>
    have a1 : Dv (P ^ k) f := (dv_pow (by omega)).trans h1
    have a2 : Dv (P ^ k) (deriv f) := by
      obtain ⟨m, em⟩ := h1
      rw [em, deriv_mul]
      exact (((deriv_pow P k)).mul m).add ((dv_pow (by omega)).mul (deriv m))
    have a3 := hg.of_dv a1 a2
    refine h2 ?_
    have := a3.both hPP
    rw [← e] at this
    rw [show P ^ (k + 1 + 1) = P ^ k * (P * P) by rw [Semiring.pow_succ, Semiring.pow_succ]; grind]
    exact this
end

section
variable {q : P6}
/-! ### monic -/
theorem map_get (l : LI) (f : Int → Int) (h0 : cf q (f 0) = 0) (i : Nat) : cf q ((l.map f).getD i 0) = cf q (f (l.getD i 0)) := by
  rw [List.getD_eq_getElem?_getD, List.getElem?_map, List.getD_eq_getElem?_getD]
  cases l[i]? with
  | none => simp only [Option.map_none, Option.getD_none]; rw [cf_zero, h0]
  | some x => rfl
theorem toP_monic (l : LI) : toP q (monic q.z l) = Poly.C (cf q (invOf q.z (lastI l))) * toP q l := Poly.ext fun i => by
  rw [C_mul_c, toP_c, toP_c]
  unfold monic
  rw [map_get _ _ (by rw [cf_mod, cf_mul, cf_zero]; grind), cf_mod, cf_mul]; grind
theorem map_mod_rg (l : LI) (f : Int → Int) : Rg q (l.map fun w => f w % q.z) := fun x hx => by
  obtain ⟨w, _, rfl⟩ := List.mem_map.mp hx
  exact mod_in _
theorem last_of_len {l : LI} (hr : Rg q l) (h : len (toP q l) = l.length) : IsC q l := ⟨hr, fun hl e => by
  have hp : 0 < len (toP q l) := by rw [h]; exact List.length_pos_iff.mpr hl
  have := lead_ne hp
  unfold lead at this
  rw [h, toP_c] at this
  unfold lastI at e
  rw [e] at this
  exact this cf_zero⟩
theorem IsC.inv {l : LI} (h : IsC q l) (hl : l ≠ []) : Mw.lead (toP q l) * cf q (invOf q.z (lastI l)) = 1 := by
  rw [h.lead_eq]
  refine inv_ok fun e => ?_
  rw [← h.lead_eq] at e
  exact Mw.lead_ne (by rw [h.len]; exact List.length_pos_iff.mpr hl) e
theorem monic_ok {l : LI} (h : IsC q l) (hl : l ≠ []) : IsC q (monic q.z l) ∧ Mon (toP q (monic q.z l)) ∧ (monic q.z l).length = l.length := by
  have e := h.inv hl
  have hc : cf q (invOf q.z (lastI l)) ≠ 0 := fun z => by rw [z] at e; exact Fld.one_ne (F := Fq q) (by grind)
  have hl2 : (monic q.z l).length = l.length := by unfold monic; rw [List.length_map]
  have h3 : len (toP q (monic q.z l)) = (monic q.z l).length := by rw [toP_monic, len_C_mul hc, h.len, hl2]
  refine ⟨last_of_len (map_mod_rg l fun w => w * invOf q.z (lastI l)) h3, ?_, hl2⟩
  unfold Mon
  rw [toP_monic, lead_mul (by rw [len_C hc]; omega) (by rw [h.len]; exact List.length_pos_iff.mpr hl)]
  have : lead (Poly.C (cf q (invOf q.z (lastI l)))) = cf q (invOf q.z (lastI l)) := by
    unfold lead; rw [len_C hc]; rfl
  rw [this]; grind

/-! ### division -/
theorem toP_set (l : LI) (i : Nat) (z : Int) (hi : i < l.length) : toP q (l.set i z) = toP q l + Poly.mono (cf q z - cf q (l.getD i 0)) i := Poly.ext fun j => by
  rw [add_c, toP_c, toP_c, set_getD]
  show _ = _ + one_at _ i j
  unfold one_at
  by_cases h : j = i
  · rw [if_pos ⟨h, hi⟩, if_pos h, h]; grind
  · rw [if_neg (fun e => h e.1), if_neg h]; grind
theorem divTurns_succ (p inv : Int) (other : LI) (top n : Nat) (s : LI × LI) : divTurns p inv other top (n + 1) s = divTurn p inv other (top - n) (divTurns p inv other top n s) := foldl_range_succ _ n s
structure DivInv (q : P6) (one other : LI) (top N k : Nat) (s : LI × LI) : Prop where
  l1 : s.1.length = one.length
  l2 : s.2.length = N
  r1 : Rg q s.1
  r2 : Rg q s.2
  eq : toP q one = toP q s.2 * toP q other + toP q s.1
  hi : ∀ j, one.length ≤ j + k → cf q (s.1.getD j 0) = 0
  lo : ∀ j, j + k ≤ top → s.2.getD j 0 = 0
theorem div_inv {one other : LI} (ho : IsC q other) (hne : other ≠ []) (hr : Rg q one) (hl : other.length ≤ one.length) :
    ∀ k, k ≤ one.length + 1 - other.length → DivInv q one other (one.length - other.length) (one.length + 1 - other.length) k (divTurns q.z (invOf q.z (lastI other)) other (one.length - other.length) k (one, List.replicate (one.length + 1 - other.length) 0))
  | 0, _ => ⟨rfl, List.length_replicate, hr, Rg.rep _, by
      show toP q one = toP q (List.replicate _ 0) * toP q other + toP q one
      rw [toP_rep]; grind, fun j hj => by
      show cf q (one.getD j 0) = 0
      rw [List.getD_eq_getElem?_getD, List.getElem?_eq_none (by omega)]; exact cf_zero, fun j _ => by
      show (List.replicate _ (0 : Int)).getD j 0 = 0
      rw [List.getD_eq_getElem?_getD, List.getElem?_replicate]; split <;> rfl⟩
  | k + 1, hk => by
    have I := div_inv ho hne hr hl k (by omega)
    rw [divTurns_succ]
    generalize divTurns q.z (invOf q.z (lastI other)) other (one.length - other.length) k (one, List.replicate (one.length + 1 - other.length) 0) = s at I ⊢
    have hm : 0 < other.length := List.length_pos_iff.mpr hne
    have hL := I.l1
    show DivInv q one other _ _ (k + 1) (subRow q.z _ _ other other.length s.1, s.2.set _ _)
    generalize hmany : s.1.getD (one.length - other.length - k + other.length - 1) 0 * invOf q.z (lastI other) % q.z = many
    have hcm : cf q many = cf q (s.1.getD (one.length - other.length - k + other.length - 1) 0) * cf q (invOf q.z (lastI other)) := by rw [← hmany, cf_mod, cf_mul]
    refine ⟨?_, ?_, subRow_rg I.r1 _, I.r2.set _ (hmany ▸ mod_in _), ?_, fun j hj => ?_, fun j hj => ?_⟩
    · show (subRow _ _ _ _ _ _).length = _
      rw [subRow_len, hL]
    · show (s.2.set _ _).length = _
      rw [List.length_set, I.l2]
    · show toP q one = toP q (s.2.set _ many) * toP q other + toP q (subRow _ _ _ _ _ _)
      rw [toP_subRow (by rw [hL]; omega), toP_set _ _ _ (by rw [I.l2]; omega), I.lo _ (by omega), cf_zero, I.eq]
      rw [show cf q many - 0 = cf q many by grind]; grind
    · show cf q ((subRow _ _ _ _ _ _).getD j 0) = 0
      rw [subRow_c j _ (by rw [hL]; omega)]
      by_cases h1 : one.length ≤ j + k
      · rw [I.hi j h1, if_neg (by omega)]; grind
      · rw [if_pos (by omega), show j = one.length - other.length - k + other.length - 1 by omega, hcm]
        have hi := ho.inv hne
        rw [ho.lead_eq] at hi
        rw [show one.length - other.length - k + other.length - 1 - (one.length - other.length - k) = other.length - 1 by omega]
        show cf q (s.1.getD _ 0) - cf q (s.1.getD _ 0) * cf q (invOf q.z (lastI other)) * cf q (lastI other) = 0
        grind
    · show (s.2.set _ _).getD j 0 = 0
      rw [set_getD, if_neg (by omega)]
      exact I.lo j (by omega)
theorem divided_ok {one other : LI} (ho : IsC q other) (hne : other ≠ []) (hr : Rg q one) :
    IsC q (divided q.z one other).1 ∧ IsC q (divided q.z one other).2 ∧ toP q one = toP q (divided q.z one other).1 * toP q other + toP q (divided q.z one other).2 ∧ (divided q.z one other).2.length < other.length := by
  have hm : 0 < other.length := List.length_pos_iff.mpr hne
  by_cases hl : other.length ≤ one.length
  · have I := div_inv ho hne hr hl _ (Nat.le_refl _)
    unfold divided
    simp only
    generalize divTurns q.z (invOf q.z (lastI other)) other (one.length - other.length) (one.length + 1 - other.length) (one, List.replicate (one.length + 1 - other.length) 0) = s at I ⊢
    have c2 : IsC q (trim s.1) := trim_C I.r1
    refine ⟨trim_C I.r2, c2, by rw [toP_trim, toP_trim]; exact I.eq, ?_⟩
    rw [← c2.len, toP_trim]
    have : len (toP q s.1) ≤ other.length - 1 := len_le fun j hj => I.hi j (by omega)
    omega
  · have e : one.length + 1 - other.length = 0 := by omega
    unfold divided
    simp only
    rw [e]
    have c2 : IsC q (trim one) := trim_C hr
    refine ⟨trim_C (Rg.rep 0), c2, ?_, ?_⟩
    · show toP q one = toP q (trim (List.replicate 0 0)) * toP q other + toP q (trim one)
      rw [toP_trim, toP_trim, toP_rep]; grind
    · have := trim_le one
      show (trim one).length < _
      omega
/-- where it divides -/
theorem divided_dv {one other : LI} (ho : IsC q other) (hne : other ≠ []) (hr : Rg q one) {x : Poly (Fq q)} (e : toP q one = toP q other * x) :
    (divided q.z one other).2 = [] ∧ toP q (divided q.z one other).1 = x := by
  obtain ⟨a, b, c, d⟩ := divided_ok ho hne hr
  have h1 : Dv (toP q other) (toP q (divided q.z one other).2) := ⟨x - toP q (divided q.z one other).1, by grind⟩
  have h2 := h1.zero_of_len (by rw [b.len, ho.len]; exact d)
  refine ⟨b.zero_iff.mp h2, ?_⟩
  have hne' : toP q other ≠ 0 := fun z => hne (ho.zero_iff.mp z)
  refine cancel hne' ?_
  rw [← e, c, h2]; grind
theorem divided_dv' {one other : LI} (ho : IsC q other) (hne : other ≠ []) (hr : Rg q one) (e : (divided q.z one other).2 = []) : toP q one = toP q other * toP q (divided q.z one other).1 := by
  have := (divided_ok ho hne hr).2.2.1
  rw [e, toP_nil] at this
  grind

/-! ### the common divisor -/
theorem commonF_ok : ∀ (n : Nat) (one other : LI), other.length < n → IsC q one → IsC q other → (one ≠ [] ∨ other ≠ []) →
    IsC q (commonF q.z n one other) ∧ IsGcd (toP q (commonF q.z n one other)) (toP q one) (toP q other)
  | 0, _, _, h, _, _, _ => by omega
  | n + 1, one, other, h, c1, c2, hne => by
    unfold commonF
    by_cases e : other = []
    · rw [if_pos e]
      have h1 : one ≠ [] := hne.elim id fun k => absurd e k
      obtain ⟨m1, m2, m3⟩ := monic_ok c1 h1
      refine ⟨m1, m2, ?_, ?_, ?_⟩
      · rw [toP_monic]
        have e2 := c1.inv h1
        exact ⟨Poly.C (lead (toP q one)), by
          have : Poly.C (lead (toP q one)) * Poly.C (cf q (invOf q.z (lastI one))) = 1 := by rw [← C_mul, e2]; rfl
          grind⟩
      · rw [e, toP_nil]; exact Dv.zero _
      · exact ⟨Poly.C (cf q (invOf q.z (lastI one))), 0, by rw [toP_monic]; grind⟩
    · rw [if_neg e]
      obtain ⟨d1, d2, d3, d4⟩ := divided_ok c2 e c1.1
      obtain ⟨i1, m, a, b, u, v, ee⟩ := commonF_ok n other _ (by omega) c2 d2 (.inl e)
      refine ⟨i1, m, ?_, a, ⟨v, u - v * toP q (divided q.z one other).1, by grind⟩⟩
      rw [d3]
      exact (a.mul' _).add b
theorem common_ok {one other : LI} (c1 : IsC q one) (c2 : IsC q other) (hne : one ≠ [] ∨ other ≠ []) : IsC q (common q.z one other) ∧ IsGcd (toP q (common q.z one other)) (toP q one) (toP q other) :=
  commonF_ok _ _ _ (Nat.lt_succ_self _) c1 c2 hne

/-! ### differences, slopes -/
theorem map_rg (f : Nat → Int) (n : Nat) : Rg q ((List.range n).map fun i => f i % q.z) := fun x hx => by
  obtain ⟨w, _, rfl⟩ := List.mem_map.mp hx
  exact mod_in _
theorem getD_ge {l : LI} {i : Nat} (h : l.length ≤ i) : l.getD i 0 = 0 := by
  rw [List.getD_eq_getElem?_getD, List.getElem?_eq_none h]; rfl
theorem toP_minus (one other : LI) : toP q (minus q.z one other) = toP q one - toP q other ∧ IsC q (minus q.z one other) := by
  unfold minus
  refine ⟨?_, trim_C (map_rg (fun i => one.getD i 0 - other.getD i 0) _)⟩
  rw [toP_trim]
  refine Poly.ext fun i => ?_
  rw [sub_c, toP_c, toP_c, toP_c, map_getD]
  by_cases h : i < max one.length other.length
  · rw [if_pos h, cf_mod, cf_sub]
  · rw [if_neg h, getD_ge (l := one) (by omega), getD_ge (l := other) (by omega), cf_zero]; grind
local instance instNCq : NatCast (Fq q) := Semiring.natCast
theorem cf_nat (i : Nat) : cf q (i : Int) = ((i : Nat) : Fq q) := Ring.intCast_natCast i
theorem toP_slope (l : LI) : toP q (slope q.z l) = deriv (toP q l) ∧ IsC q (slope q.z l) := by
  unfold slope
  refine ⟨?_, trim_C fun x hx => map_rg (fun i => (i : Int) * l.getD i 0) _ x (List.mem_of_mem_drop hx)⟩
  rw [toP_trim]
  refine Poly.ext fun i => ?_
  rw [toP_c, List.getD_eq_getElem?_getD, List.getElem?_drop, ← List.getD_eq_getElem?_getD, map_getD]
  show _ = ((i + 1 : Nat) : Fq q) * cf q (l.getD (i + 1) 0)
  rw [Nat.add_comm 1 i]
  by_cases h : i + 1 < l.length
  · rw [if_pos h, cf_mod, cf_mul, cf_nat]
  · rw [if_neg h, getD_ge (l := l) (by omega), cf_zero]; grind

/-! ### powers of the prime -/
theorem mono_mul (a b : Fq q) (m k : Nat) : Poly.mono a m * Poly.mono b k = Poly.mono (a * b) (m + k) := Poly.ext fun i => by
  rw [mono_mul_c]
  show (if i < m then 0 else a * one_at b k (i - m)) = one_at (a * b) (m + k) i
  unfold one_at
  by_cases h : i < m
  · rw [if_pos h, if_neg (by omega)]
  · rw [if_neg h]
    by_cases h2 : i - m = k
    · rw [if_pos h2, if_pos (by omega)]
    · rw [if_neg h2, if_neg (by omega)]; grind
theorem mono_pow (a : Fq q) (m : Nat) : ∀ n : Nat, Poly.mono a m ^ n = Poly.mono (a ^ n) (m * n)
  | 0 => by
    rw [Semiring.pow_zero, Semiring.pow_zero]
    rfl
  | n + 1 => by rw [Semiring.pow_succ, mono_pow a m n, mono_mul, Semiring.pow_succ, Nat.mul_succ]
theorem zero_pow' {n : Nat} (h : 0 < n) : (0 : Poly (Fq q)) ^ n = 0 := by
  obtain ⟨m, rfl⟩ : ∃ m, n = m + 1 := ⟨n - 1, by omega⟩
  rw [Semiring.pow_succ]; grind
theorem pow_c : ∀ (n : Nat) (h : Poly (Fq q)), len h ≤ n → ∀ i, (h ^ q.n).c i = if i % q.n = 0 then h.c (i / q.n) else 0
  | 0, h, hl, i => by
    have e := eq_zero_of_len (f := h) (by omega)
    rw [e, zero_pow' (by have := q.two; omega), zero_c, zero_c]; split <;> rfl
  | n + 1, h, hl, i => by
    have hq := q.two
    have e : h = (h - Poly.mono (h.c n) n) + Poly.mono (h.c n) n := by grind
    have hl' : len (h - Poly.mono (h.c n) n) ≤ n := len_le fun j hj => by
      rw [sub_c]
      show h.c j - one_at (h.c n) n j = 0
      unfold one_at
      by_cases z : j = n
      · rw [if_pos z, z]; grind
      · rw [if_neg z, len_spec h j (by omega)]; grind
    have ih := pow_c n _ hl' i
    rw [e, (isFp q).frob, add_c, ih, mono_pow, (isFp q).fer, add_c]
    show _ + one_at (h.c n) (n * q.n) i = _
    have key : one_at (h.c n) (n * q.n) i = if i % q.n = 0 then one_at (h.c n) n (i / q.n) else 0 := by
      unfold one_at
      by_cases z : i = n * q.n
      · rw [if_pos z, z, Nat.mul_mod_left, if_pos rfl, Nat.mul_div_cancel _ (by omega), if_pos rfl]
      · rw [if_neg z]
        by_cases y : i % q.n = 0
        · rw [if_pos y, if_neg]
          intro w
          have := Nat.div_add_mod i q.n
          rw [w, y] at this
          exact z (by rw [← this, Nat.mul_comm]; omega)
        · rw [if_neg y]
    rw [key]
    split
    · rfl
    · grind
theorem everyPth_getD (l : LI) (i : Nat) : (everyPth q.z l).getD i 0 = l.getD (i * q.n) 0 := by
  have hq := q.two
  unfold everyPth
  have hz : q.z.toNat = q.n := by show ((q.n : Int)).toNat = _; omega
  rw [hz, map_getD]
  by_cases h : i < (l.length + q.n - 1) / q.n
  · rw [if_pos h]
  · rw [if_neg h, getD_ge]
    have h1 : (l.length + q.n - 1) / q.n ≤ i := by omega
    have h2 := Nat.lt_mul_div_succ (l.length + q.n - 1) (b := q.n) (by omega)
    have h3 : q.n * ((l.length + q.n - 1) / q.n + 1) ≤ q.n * (i + 1) := Nat.mul_le_mul_left _ (by omega)
    rw [Nat.mul_add, Nat.mul_one, Nat.mul_add q.n i 1, Nat.mul_one, Nat.mul_comm q.n i] at h3
    rw [Nat.mul_add, Nat.mul_one] at h2
    omega
/-- slope nought: the power of the prime of what stands at its multiples -/
theorem root_ok {l : LI} (h : deriv (toP q l) = 0) : toP q l = toP q (everyPth q.z l) ^ q.n := Poly.ext fun i => by
  have hq := q.two
  rw [pow_c _ _ (Nat.le_refl _) i]
  by_cases y : i % q.n = 0
  · rw [if_pos y, toP_c, toP_c, everyPth_getD, Nat.div_mul_cancel (Nat.dvd_of_mod_eq_zero y)]
  · rw [if_neg y]
    cases i with
    | zero => simp at y
    | succ i =>
      have e : (deriv (toP q l)).c i = (0 : Poly (Fq q)).c i := by rw [h]
      rw [zero_c] at e
      have e' : ((i + 1 : Nat) : Fq q) * (toP q l).c (i + 1) = 0 := e
      rcases no_zero_div e' with z | z
      · exfalso
        rw [← cf_nat, ← cf_zero, cf_iff] at z
        have : ((i + 1 : Nat) : Int) % (q.n : Int) = 0 := by simpa using z
        omega
      · exact z
end
end Mw
end
section
set_option autoImplicit false
set_option linter.unusedSectionVars false
/-! Reduced rows, kernels. -/
namespace Mw
open Lean.Grind

section
variable {q : P6}
abbrev Vec (q : P6) := Nat → Fq q
def vec (q : P6) (l : LI) : Vec q := fun i => cf q (l.getD i 0)
theorem vec_ge {l : LI} {i : Nat} (h : l.length ≤ i) : vec q l i = 0 := by unfold vec; rw [getD_ge h]; exact cf_zero
/-- linear sums of what G tells -/
inductive LS (G : Vec q → Prop) : Vec q → Prop
  | zero : LS G (fun _ => 0)
  | add {v w : Vec q} : LS G v → LS G w → LS G (fun i => v i + w i)
  | smul (c : Fq q) {v : Vec q} : LS G v → LS G (fun i => c * v i)
  | base {v : Vec q} : G v → LS G v
theorem LS.mono {G K : Vec q → Prop} (h : ∀ v, G v → LS K v) {v : Vec q} (x : LS G v) : LS K v := by
  induction x with
  | zero => exact .zero
  | add _ _ a b => exact .add a b
  | smul c _ a => exact .smul c a
  | base g => exact h _ g
theorem LS.cong {G : Vec q → Prop} {v w : Vec q} (x : LS G v) (e : ∀ i, w i = v i) : LS G w := by
  rw [show w = v from funext e]; exact x
theorem LS.sub {G : Vec q → Prop} {v w : Vec q} (a : LS G v) (c : Fq q) (b : LS G w) : LS G (fun i => v i - c * w i) :=
  (LS.add a (.smul (-c) b)).cong fun i => by grind
/-- the rows as they are -/
def Row (q : P6) (rows : List LI) : Vec q → Prop := fun v => ∃ r, r ∈ rows ∧ v = vec q r
def SpanR (q : P6) (rows : List LI) : Vec q → Prop := LS (Row q rows)
theorem SpanR.of {rows : List LI} {r : LI} (h : r ∈ rows) : SpanR q rows (vec q r) := .base ⟨r, h, rfl⟩
theorem SpanR.sub {A B : List LI} (h : ∀ r, r ∈ A → SpanR q B (vec q r)) {v : Vec q} (x : SpanR q A v) : SpanR q B v := x.mono fun v ⟨r, hr, e⟩ => by rw [e]; exact h r hr

theorem vec_less {o row : LI} (h : o.length = row.length) (m : Int) (i : Nat) : vec q (less q.z o m row) i = vec q o i - cf q m * vec q row i := by
  unfold vec less
  rw [map_getD]
  by_cases hi : i < min o.length row.length
  · rw [if_pos hi, cf_mod, cf_sub, cf_mul]
  · rw [if_neg hi, getD_ge (l := o) (by omega), getD_ge (l := row) (by omega), cf_zero]; grind
theorem less_len {o row : LI} (h : o.length = row.length) (m : Int) : (less q.z o m row).length = row.length := by
  unfold less; rw [List.length_map, List.length_range]; omega
theorem less_rg (o row : LI) (m : Int) : Rg q (less q.z o m row) := map_rg (fun i => o.getD i 0 - m * row.getD i 0) _
/-- a row cleared at the place -/
def clr (q : P6) (place : Nat) (row o : LI) : LI := if o.getD place 0 ≠ 0 then less q.z o (o.getD place 0) row else o
theorem cleared_eq (rows : List LI) (place : Nat) (row : LI) : cleared q.z rows place row = rows.map (clr q place row) := rfl
theorem vec_clr {o row : LI} (h : o.length = row.length) (place : Nat) (i : Nat) : vec q (clr q place row o) i = vec q o i - vec q o place * vec q row i := by
  unfold clr
  split
  · rw [vec_less h]; rfl
  · next z =>
    have : vec q o place = 0 := by unfold vec; rw [show o.getD place 0 = 0 from Classical.not_not.mp z]; exact cf_zero
    rw [this]; grind
theorem clr_len {o row : LI} (h : o.length = row.length) (place : Nat) : (clr q place row o).length = row.length := by
  unfold clr; split
  · exact less_len h _
  · exact h
theorem clr_rg {o row : LI} (ho : Rg q o) (place : Nat) : Rg q (clr q place row o) := by
  unfold clr; split
  · exact less_rg _ _ _
  · exact ho

/-- what holds behind the places below n -/
structure RedInv (q : P6) (wide : Nat) (rows : List LI) (n : Nat) (s : Red) : Prop where
  ll : ∀ r, r ∈ s.left → r.length = wide ∧ Rg q r
  lf : ∀ r, r ∈ s.found → r.length = wide ∧ Rg q r
  to : ∀ v, SpanR q rows v → SpanR q (s.left ++ s.found) v
  back : ∀ v, SpanR q (s.left ++ s.found) v → SpanR q rows v
  zero : ∀ r, r ∈ s.left → ∀ j, j < n → vec q r j = 0
  len : s.found.length = s.places.length
  lt : ∀ x, x ∈ s.places → x < n
  nd : s.places.Nodup
  dl : ∀ i k, i < s.found.length → k < s.places.length → vec q (s.found.getD i []) (s.places.getD k 0) = if i = k then 1 else 0
theorem getD_mem {α : Type} {l : List α} {i : Nat} {d : α} (h : i < l.length) : l.getD i d ∈ l := by
  rw [List.getD_eq_getElem?_getD, List.getElem?_eq_getElem h]; exact List.getElem_mem h
theorem getD_mapL {α β : Type} (f : α → β) {l : List α} {i : Nat} {d : α} {e : β} (h : i < l.length) : (l.map f).getD i e = f (l.getD i d) := by
  rw [List.getD_eq_getElem?_getD, List.getElem?_map, List.getD_eq_getElem?_getD, List.getElem?_eq_getElem h]; rfl
theorem redInv_zero {wide : Nat} {rows : List LI} (h : ∀ r, r ∈ rows → r.length = wide ∧ Rg q r) : RedInv q wide rows 0 ⟨rows, [], []⟩ :=
  ⟨h, (fun _ h => nomatch h), (fun v x => by rw [List.append_nil]; exact x), (fun v x => by rw [List.append_nil] at x; exact x), (fun _ _ j hj => by omega), rfl, (fun _ h => nomatch h), List.nodup_nil, fun i k hi _ => by simp at hi⟩
theorem redInv_succ {wide n : Nat} {rows : List LI} {s : Red} (I : RedInv q wide rows n s) (hn : n < wide) : RedInv q wide rows (n + 1) (redTurn q.z s n) := by
  unfold redTurn
  split
  · next e =>
    refine ⟨I.ll, I.lf, I.to, I.back, fun r hr j hj => ?_, I.len, fun x hx => by have := I.lt x hx; omega, I.nd, I.dl⟩
    by_cases h : j < n
    · exact I.zero r hr j h
    · obtain ⟨i, hi, ei⟩ := List.getElem_of_mem hr
      have hm : i ∉ (List.range s.left.length).filter (fun a => decide ((s.left.getD a []).getD n 0 ≠ 0)) := by rw [e]; simp
      rw [List.mem_filter] at hm
      have z : ¬ (s.left.getD i []).getD n 0 ≠ 0 := fun z => hm ⟨List.mem_range.mpr hi, decide_eq_true z⟩
      have e2 : s.left.getD i [] = r := by rw [List.getD_eq_getElem?_getD, List.getElem?_eq_getElem hi]; exact ei
      rw [e2] at z
      rw [show j = n by omega]
      unfold vec
      rw [Classical.not_not.mp z]; exact cf_zero
  · next a t e =>
    have hm : a ∈ (List.range s.left.length).filter (fun a => decide ((s.left.getD a []).getD n 0 ≠ 0)) := by rw [e]; simp
    rw [List.mem_filter] at hm
    have ha : a < s.left.length := List.mem_range.mp hm.1
    have hne := _root_.of_decide_eq_true hm.2
    simp only
    generalize hr0 : s.left.getD a [] = r0 at hne
    have hr0m : r0 ∈ s.left := by rw [← hr0]; exact getD_mem ha
    obtain ⟨lr0, gr0⟩ := I.ll r0 hr0m
    generalize hrow : r0.map (fun w => w * invOf q.z (r0.getD n 0) % q.z) = row
    have lrow : row.length = wide := by rw [← hrow, List.length_map]; exact lr0
    have grow : Rg q row := by rw [← hrow]; exact map_mod_rg r0 fun w => w * invOf q.z (r0.getD n 0)
    have hc0 : cf q (r0.getD n 0) ≠ 0 := fun z => hne ((cf_eq_zero (gr0.get n).1 (gr0.get n).2).mp z)
    have hinv := inv_ok hc0
    have vrow : ∀ i, vec q row i = cf q (invOf q.z (r0.getD n 0)) * vec q r0 i := fun i => by
      unfold vec
      rw [← hrow, map_get _ _ (by rw [cf_mod, cf_mul, cf_zero]; grind), cf_mod, cf_mul]; grind
    have vr0 : ∀ i, vec q r0 i = cf q (r0.getD n 0) * vec q row i := fun i => by rw [vrow]; grind
    have vn : vec q row n = 1 := by
      rw [vrow]
      show cf q _ * cf q (r0.getD n 0) = 1
      grind
    have vlow : ∀ j, j < n → vec q row j = 0 := fun j hj => by rw [vrow, I.zero r0 hr0m j hj]; grind
    have erm : ∀ r, r ∈ s.left.eraseIdx a → r ∈ s.left := fun r h => List.mem_of_mem_eraseIdx h
    have lall : ∀ r, r ∈ s.left.eraseIdx a → r.length = row.length := fun r h => by rw [(I.ll r (erm r h)).1, lrow]
    have fall : ∀ r, r ∈ s.found → r.length = row.length := fun r h => by rw [(I.lf r h).1, lrow]
    rw [cleared_eq, cleared_eq]
    -- every old row is r0 or stays in the erased list or found
    have old : ∀ r, r ∈ s.left → r = r0 ∨ r ∈ s.left.eraseIdx a := fun r h => by
      obtain ⟨i, hi, ei⟩ := List.getElem_of_mem h
      by_cases z : i = a
      · left
        rw [← hr0, ← ei, List.getD_eq_getElem?_getD, List.getElem?_eq_getElem ha]
        simp only [z, Option.getD_some]
      · right
        rw [← ei]
        exact List.mem_eraseIdx_iff_getElem.mpr ⟨i, hi, z, rfl⟩
    have srow : ∀ r, r ∈ (s.left.eraseIdx a).map (clr q n row) ++ (s.found.map (clr q n row) ++ [row]) → SpanR q (s.left ++ s.found) (vec q r) := fun r hr => by
      have s0 : SpanR q (s.left ++ s.found) (vec q row) := (LS.smul (cf q (invOf q.z (r0.getD n 0))) (SpanR.of (List.mem_append_left _ hr0m))).cong vrow
      simp only [List.mem_append, List.mem_map, List.mem_singleton] at hr
      rcases hr with ⟨o, ho, rfl⟩ | ⟨o, ho, rfl⟩ | rfl
      · exact (LS.sub (SpanR.of (List.mem_append_left _ (erm o ho))) (vec q o n) s0).cong (vec_clr (lall o ho) n)
      · exact (LS.sub (SpanR.of (List.mem_append_right _ ho)) (vec q o n) s0).cong (vec_clr (fall o ho) n)
      · exact s0
    have sold : ∀ r, r ∈ s.left ++ s.found → SpanR q ((s.left.eraseIdx a).map (clr q n row) ++ (s.found.map (clr q n row) ++ [row])) (vec q r) := fun r hr => by
      have s0 : SpanR q ((s.left.eraseIdx a).map (clr q n row) ++ (s.found.map (clr q n row) ++ [row])) (vec q row) := SpanR.of (by simp)
      have key : ∀ o : LI, o.length = row.length → clr q n row o ∈ (s.left.eraseIdx a).map (clr q n row) ++ (s.found.map (clr q n row) ++ [row]) → SpanR q ((s.left.eraseIdx a).map (clr q n row) ++ (s.found.map (clr q n row) ++ [row])) (vec q o) := fun o lo hm =>
        (LS.sub (SpanR.of hm) (- vec q o n) s0).cong fun i => by rw [vec_clr lo]; grind
      rcases List.mem_append.mp hr with h | h
      · rcases old r h with rfl | h
        · exact (LS.smul _ s0).cong vr0
        · exact key r (lall r h) (List.mem_append_left _ (List.mem_map.mpr ⟨r, h, rfl⟩))
      · exact key r (fall r h) (List.mem_append_right _ (List.mem_append_left _ (List.mem_map.mpr ⟨r, h, rfl⟩)))
    have lenf : (s.found.map (clr q n row) ++ [row]).length = s.found.length + 1 := by simp
    refine ⟨fun r hr => ?_, fun r hr => ?_, fun v x => SpanR.sub sold (I.to v x), fun v x => I.back v (SpanR.sub srow x), fun r hr j hj => ?_, ?_, fun x hx => ?_, ?_, fun i k hi hk => ?_⟩
    · obtain ⟨o, ho, rfl⟩ := List.mem_map.mp hr
      exact ⟨(clr_len (lall o ho) n).trans lrow, clr_rg (I.ll o (erm o ho)).2 n⟩
    · simp only [List.mem_append, List.mem_map, List.mem_singleton] at hr
      rcases hr with ⟨o, ho, rfl⟩ | rfl
      · exact ⟨(clr_len (fall o ho) n).trans lrow, clr_rg (I.lf o ho).2 n⟩
      · exact ⟨lrow, grow⟩
    · obtain ⟨o, ho, rfl⟩ := List.mem_map.mp hr
      rw [vec_clr (lall o ho)]
      by_cases h : j < n
      · rw [I.zero o (erm o ho) j h, vlow j h]; grind
      · rw [show j = n by omega, vn]; grind
    · show (s.found.map (clr q n row) ++ [row]).length = (s.places ++ [n]).length
      simp [I.len]
    · rcases List.mem_append.mp hx with h | h
      · have := I.lt x h; omega
      · rw [List.mem_singleton.mp h]; omega
    · refine List.nodup_append.mpr ⟨I.nd, by simp, fun x hx y hy e => ?_⟩
      rw [List.mem_singleton.mp hy] at e
      have := I.lt x hx
      omega
    · have e1 : i < s.found.length + 1 := by rw [← lenf]; exact hi
      have e2 : k < s.places.length + 1 := by
        have : k < (s.places ++ [n]).length := hk
        simpa using this
      have hL := I.len
      have gf : ∀ i, i < s.found.length → (s.found.map (clr q n row) ++ [row]).getD i [] = clr q n row (s.found.getD i []) := fun i hi => by
        rw [List.getD_eq_getElem?_getD, List.getElem?_append_left (by simpa using hi), ← List.getD_eq_getElem?_getD, getD_mapL (d := []) _ hi]
      have gl : (s.found.map (clr q n row) ++ [row]).getD s.found.length [] = row := by
        rw [List.getD_eq_getElem?_getD, List.getElem?_append_right (by simp)]; simp
      have pf : ∀ k, k < s.places.length → (s.places ++ [n]).getD k 0 = s.places.getD k 0 := fun k hk => by
        rw [List.getD_eq_getElem?_getD, List.getElem?_append_left hk, ← List.getD_eq_getElem?_getD]
      have pl : (s.places ++ [n]).getD s.places.length 0 = n := by
        rw [List.getD_eq_getElem?_getD, List.getElem?_append_right (by simp)]; simp
      show vec q ((s.found.map (clr q n row) ++ [row]).getD i []) ((s.places ++ [n]).getD k 0) = _
      by_cases h1 : i < s.found.length
      · rw [gf i h1]
        have fm := fall _ (getD_mem (d := []) h1)
        rw [vec_clr fm]
        by_cases h2 : k < s.places.length
        · rw [pf k h2, I.dl i k h1 h2, vlow _ (I.lt _ (getD_mem h2))]; grind
        · have : k = s.places.length := by omega
          rw [this, pl, vn, if_neg (by omega)]; grind
      · have hi' : i = s.found.length := by omega
        rw [hi', gl]
        by_cases h2 : k < s.places.length
        · rw [pf k h2, vlow _ (I.lt _ (getD_mem h2)), if_neg (by omega)]
        · have : k = s.places.length := by omega
          rw [this, pl, vn, if_pos hL]
theorem redTurns_succ (p : Int) (n : Nat) (s : Red) : redTurns p (n + 1) s = redTurn p (redTurns p n s) n := foldl_range_succ _ n s
theorem red_inv {wide : Nat} {rows : List LI} (h : ∀ r, r ∈ rows → r.length = wide ∧ Rg q r) : ∀ n, n ≤ wide → RedInv q wide rows n (redTurns q.z n ⟨rows, [], []⟩)
  | 0, _ => redInv_zero h
  | n + 1, hn => by rw [redTurns_succ]; exact redInv_succ (red_inv h n (by omega)) (by omega)
/-- what the reduced rows keep -/
structure RedOk (q : P6) (wide : Nat) (rows : List LI) (r : List LI × List Nat) : Prop where
  lf : ∀ x, x ∈ r.1 → x.length = wide ∧ Rg q x
  span : ∀ v, SpanR q rows v ↔ SpanR q r.1 v
  len : r.1.length = r.2.length
  lt : ∀ x, x ∈ r.2 → x < wide
  nd : r.2.Nodup
  dl : ∀ i k, i < r.1.length → k < r.2.length → vec q (r.1.getD i []) (r.2.getD k 0) = if i = k then 1 else 0
theorem reduced_ok {wide : Nat} {rows : List LI} (h : ∀ r, r ∈ rows → r.length = wide ∧ Rg q r) : RedOk q wide rows (reducedRows q.z wide rows) := by
  have I := red_inv h wide (Nat.le_refl _)
  unfold reducedRows
  simp only
  generalize redTurns q.z wide ⟨rows, [], []⟩ = s at I
  refine ⟨I.lf, fun v => ⟨fun x => SpanR.sub (fun r hr => ?_) (I.to v x), fun x => I.back v (SpanR.sub (fun r hr => SpanR.of (List.mem_append_right _ hr)) x)⟩, I.len, I.lt, I.nd, I.dl⟩
  rcases List.mem_append.mp hr with z | z
  · refine (LS.zero (G := Row q s.found)).cong fun i => ?_
    by_cases hi : i < wide
    · exact I.zero r z i hi
    · exact vec_ge (by rw [(I.ll r z).1]; omega)
  · exact SpanR.of z

/-! ### kernels -/
def dot (wide : Nat) (v x : Vec q) : Fq q := sumN wide fun i => v i * x i
theorem dot_add_l (wide : Nat) (v w x : Vec q) : dot wide (fun i => v i + w i) x = dot wide v x + dot wide w x := by
  unfold dot
  rw [← sumN_add]
  exact sumN_congr _ _ _ fun i _ => by grind
theorem dot_smul_l (wide : Nat) (c : Fq q) (v x : Vec q) : dot wide (fun i => c * v i) x = c * dot wide v x := by
  unfold dot
  have := sumN_mul c wide (fun i => v i * x i)
  rw [show c * sumN wide (fun i => v i * x i) = sumN wide (fun i => v i * x i) * c by grind, ← this]
  exact sumN_congr _ _ _ fun i _ => by grind
theorem dot_add_r (wide : Nat) (v x y : Vec q) : dot wide v (fun i => x i + y i) = dot wide v x + dot wide v y := by
  unfold dot
  rw [← sumN_add]
  exact sumN_congr _ _ _ fun i _ => by grind
theorem dot_smul_r (wide : Nat) (c : Fq q) (v x : Vec q) : dot wide v (fun i => c * x i) = c * dot wide v x := by
  unfold dot
  have := sumN_mul c wide (fun i => v i * x i)
  rw [show c * sumN wide (fun i => v i * x i) = sumN wide (fun i => v i * x i) * c by grind, ← this]
  exact sumN_congr _ _ _ fun i _ => by grind
theorem dot_zero_l (wide : Nat) (x : Vec q) : dot wide (fun _ => 0) x = 0 := sumN_zero _ _ fun i _ => by grind
theorem dot_zero_r (wide : Nat) (v : Vec q) : dot wide v (fun _ => 0) = 0 := sumN_zero _ _ fun i _ => by grind
theorem sumN_single {F : Type} [CommRing F] [Fld F] : ∀ (m t : Nat) (f : Nat → F), t < m → (∀ i, i < m → i ≠ t → f i = 0) → sumN m f = f t
  | m + 1, 0, f, _, h => by
    show f 0 + sumN m _ = f 0
    rw [sumN_zero m _ fun i hi => h (i + 1) (by omega) (by omega)]; grind
  | m + 1, t + 1, f, ht, h => by
    show f 0 + sumN m (fun i => f (i + 1)) = f (t + 1)
    rw [h 0 (by omega) (by omega), sumN_single m t (fun i => f (i + 1)) (by omega) fun i hi hn => h (i + 1) (by omega) (by omega)]; grind
def unit (q : P6) (j : Nat) : Vec q := fun i => if i = j then 1 else 0
theorem dot_unit {wide j : Nat} (h : j < wide) (v : Vec q) : dot wide v (unit q j) = v j := by
  unfold dot
  rw [sumN_single wide j _ h fun i _ hn => by simp only [unit, if_neg hn]; grind]
  simp only [unit, if_pos]; grind
/-- led to noughts -/
def InK (q : P6) (wide : Nat) (rows : List LI) (x : Vec q) : Prop := ∀ r, r ∈ rows → dot wide (vec q r) x = 0
theorem InK.span {wide : Nat} {rows : List LI} {x : Vec q} (h : InK q wide rows x) {v : Vec q} (s : SpanR q rows v) : dot wide v x = 0 := by
  induction s with
  | zero => exact dot_zero_l _ _
  | add _ _ a b => rw [dot_add_l, a, b]; grind
  | smul c _ a => rw [dot_smul_l, a]; grind
  | base g => obtain ⟨r, hr, rfl⟩ := g; exact h r hr
theorem InK.add {wide : Nat} {rows : List LI} {x y : Vec q} (a : InK q wide rows x) (b : InK q wide rows y) : InK q wide rows (fun i => x i + y i) := fun r hr => by rw [dot_add_r, a r hr, b r hr]; grind
theorem InK.smul {wide : Nat} {rows : List LI} {x : Vec q} (c : Fq q) (a : InK q wide rows x) : InK q wide rows (fun i => c * x i) := fun r hr => by rw [dot_smul_r, a r hr]; grind
theorem InK.ls {wide : Nat} {rows : List LI} {G : Vec q → Prop} (h : ∀ v, G v → InK q wide rows v) {v : Vec q} (s : LS G v) : InK q wide rows v := by
  induction s with
  | zero => exact fun r _ => dot_zero_r _ _
  | add _ _ a b => exact a.add b
  | smul c _ a => exact a.smul c
  | base g => exact h _ g
theorem freeCol_succ (p : Int) (wide : Nat) (rows : List LI) (places : List Nat) (free n : Nat) : freeCol p wide rows places free (n + 1) = (freeCol p wide rows places free n).set (places.getD n 0) (-((rows.getD n []).getD free 0) % p) := foldl_range_succ _ n _
theorem freeCol_len (p : Int) (wide : Nat) (rows : List LI) (places : List Nat) (free : Nat) : ∀ n, (freeCol p wide rows places free n).length = wide
  | 0 => by show (List.map _ (List.range wide)).length = wide; simp
  | n + 1 => by rw [freeCol_succ, List.length_set, freeCol_len p wide rows places free n]
theorem freeCol_rg {wide : Nat} {rows : List LI} {places : List Nat} {free : Nat} : ∀ n, Rg q (freeCol q.z wide rows places free n)
  | 0 => fun x hx => by
    obtain ⟨i, _, rfl⟩ := List.mem_map.mp hx
    have := q.z2
    split <;> omega
  | n + 1 => by rw [freeCol_succ]; exact (freeCol_rg n).set _ (mod_in _)
section
variable {wide : Nat} {rows0 : List LI} {r : List LI × List Nat}
theorem place_inj (R : RedOk q wide rows0 r) {i k : Nat} (hi : i < r.2.length) (hk : k < r.2.length) (e : r.2.getD i 0 = r.2.getD k 0) : i = k := by
  rw [List.getD_eq_getElem?_getD, List.getD_eq_getElem?_getD, List.getElem?_eq_getElem hi, List.getElem?_eq_getElem hk] at e
  exact (List.getElem_inj R.nd).mp e
/-- the column of a free place, behind n turns -/
theorem freeCol_vec (R : RedOk q wide rows0 r) {f : Nat} (hf : f < wide) (hn : f ∉ r.2) : ∀ n, n ≤ r.2.length →
    (∀ j, j ≠ f → (∀ i, i < n → r.2.getD i 0 ≠ j) → vec q (freeCol q.z wide r.1 r.2 f n) j = 0) ∧ vec q (freeCol q.z wide r.1 r.2 f n) f = 1 ∧
    ∀ i, i < r.1.length → dot wide (vec q (r.1.getD i [])) (vec q (freeCol q.z wide r.1 r.2 f n)) = if i < n then 0 else vec q (r.1.getD i []) f
  | 0, _ => by
    have e : ∀ j, vec q (freeCol q.z wide r.1 r.2 f 0) j = unit q f j := fun j => by
      show cf q (((List.range wide).map fun a => if a = f then (1 : Int) else 0).getD j 0) = _
      rw [map_getD]
      unfold unit
      by_cases h : j = f
      · rw [if_pos (by omega), if_pos h, if_pos h]; exact cf_one
      · simp only [if_neg h]
        by_cases h2 : j < wide
        · rw [if_pos h2]; exact cf_zero
        · rw [if_neg h2]; exact cf_zero
    refine ⟨fun j hj _ => by rw [e]; simp [unit, hj], by rw [e]; simp [unit], fun i hi => ?_⟩
    rw [if_neg (by omega), show vec q (freeCol q.z wide r.1 r.2 f 0) = unit q f from funext e, dot_unit hf]
  | n + 1, hle => by
    obtain ⟨a1, a2, a3⟩ := freeCol_vec R hf hn n (by omega)
    have hpn : r.2.getD n 0 < wide := R.lt _ (getD_mem (by omega))
    have hpf : r.2.getD n 0 ≠ f := fun e => hn (e ▸ getD_mem (by omega))
    have hz : vec q (freeCol q.z wide r.1 r.2 f n) (r.2.getD n 0) = 0 := a1 _ hpf fun i hi e => by
      have := place_inj R (by omega) (by omega) e
      omega
    have e : ∀ j, vec q (freeCol q.z wide r.1 r.2 f (n + 1)) j = vec q (freeCol q.z wide r.1 r.2 f n) j + (- vec q (r.1.getD n []) f) * unit q (r.2.getD n 0) j := fun j => by
      unfold vec
      rw [freeCol_succ, set_getD, freeCol_len]
      unfold unit
      by_cases h : j = r.2.getD n 0
      · rw [if_pos ⟨h, hpn⟩, if_pos h, cf_mod, cf_neg]
        have hz' : cf q ((freeCol q.z wide r.1 r.2 f n).getD j 0) = 0 := by rw [h]; exact hz
        rw [hz']; grind
      · rw [if_neg (fun z => h z.1), if_neg h]; grind
    refine ⟨fun j hj hall => ?_, ?_, fun i hi => ?_⟩
    · rw [e, a1 j hj fun i hi => hall i (by omega)]
      have := hall n (by omega)
      simp only [unit, if_neg (Ne.symm this)]; grind
    · rw [e, a2]; simp only [unit, if_neg (Ne.symm hpf)]; grind
    · rw [show vec q (freeCol q.z wide r.1 r.2 f (n + 1)) = fun j => vec q (freeCol q.z wide r.1 r.2 f n) j + (- vec q (r.1.getD n []) f) * unit q (r.2.getD n 0) j from funext e]
      rw [dot_add_r, dot_smul_r, dot_unit hpn, a3 i hi, R.dl i n hi (by omega)]
      by_cases h : i < n
      · rw [if_pos h, if_neg (show ¬ i = n by omega), if_pos (show i < n + 1 by omega)]; grind
      · rw [if_neg h]
        by_cases h2 : i = n
        · rw [if_pos h2, if_pos (show i < n + 1 by omega), h2]; grind
        · rw [if_neg h2, if_neg (show ¬ i < n + 1 by omega)]; grind
end
theorem kernel_ok {wide : Nat} {rows : List LI} (h : ∀ r, r ∈ rows → r.length = wide ∧ Rg q r) :
    (∀ x, x ∈ kernel q.z wide rows → x.length = wide ∧ Rg q x ∧ InK q wide rows (vec q x)) ∧
    ∀ v : Vec q, (∀ j, wide ≤ j → v j = 0) → InK q wide rows v → SpanR q (kernel q.z wide rows) v := by
  have R := reduced_ok h
  unfold kernel
  simp only
  generalize reducedRows q.z wide rows = r at R
  rw [show min r.1.length r.2.length = r.2.length by have := R.len; omega]
  generalize hF : (List.range wide).filter (fun f => !r.2.contains f) = frees
  have hfree : ∀ f, f ∈ frees ↔ f < wide ∧ f ∉ r.2 := fun f => by rw [← hF]; simp
  have hcols : ∀ c, c ∈ frees.map (fun f => freeCol q.z wide r.1 r.2 f r.2.length) → c.length = wide ∧ Rg q c := fun c hc => by
    obtain ⟨f, _, rfl⟩ := List.mem_map.mp hc
    exact ⟨freeCol_len _ _ _ _ _ _, freeCol_rg _⟩
  have R2 := reduced_ok hcols
  have inK : ∀ f, f ∈ frees → InK q wide rows (vec q (freeCol q.z wide r.1 r.2 f r.2.length)) := fun f hf r' hr' => by
    obtain ⟨h1, h2⟩ := (hfree f).mp hf
    have K1 : InK q wide r.1 (vec q (freeCol q.z wide r.1 r.2 f r.2.length)) := fun x hx => by
      obtain ⟨i, hi, rfl⟩ := List.getElem_of_mem hx
      have := (freeCol_vec R h1 h2 r.2.length (Nat.le_refl _)).2.2 i hi
      rw [if_pos (by rw [← R.len]; exact hi), List.getD_eq_getElem?_getD, List.getElem?_eq_getElem hi] at this
      exact this
    exact K1.span ((R.span _).mp (SpanR.of hr'))
  refine ⟨fun x hx => ⟨(R2.lf x hx).1, (R2.lf x hx).2, ?_⟩, fun v hv hK => (R2.span v).mp ?_⟩
  · have : SpanR q (frees.map (fun f => freeCol q.z wide r.1 r.2 f r.2.length)) (vec q x) := (R2.span _).mpr (SpanR.of hx)
    refine InK.ls (fun w hw => ?_) this
    obtain ⟨c, hc, rfl⟩ := hw
    obtain ⟨f, hf, rfl⟩ := List.mem_map.mp hc
    exact inK f hf
  · -- take the free places out, one by one
    have step : ∀ fs : List Nat, (∀ f, f ∈ fs → f ∈ frees) → fs.Nodup → ∃ y : Vec q, SpanR q (frees.map (fun f => freeCol q.z wide r.1 r.2 f r.2.length)) (fun i => v i - y i) ∧ InK q wide rows y ∧ (∀ f, f ∈ fs → y f = 0) ∧ ∀ j, wide ≤ j → y j = 0 := by
      intro fs
      induction fs with
      | nil => intro _ _; exact ⟨v, LS.zero.cong fun i => by grind, hK, (fun _ h => nomatch h), hv⟩
      | cons f fs ih =>
        intro hm nd
        obtain ⟨y, y1, y2, y3, y4⟩ := ih (fun f' hf' => hm f' (by simp [hf'])) (List.nodup_cons.mp nd).2
        have hff := hm f (by simp)
        obtain ⟨h1, h2⟩ := (hfree f).mp hff
        obtain ⟨c1, c2, c3⟩ := freeCol_vec R h1 h2 r.2.length (Nat.le_refl _)
        refine ⟨fun i => y i + (- y f) * vec q (freeCol q.z wide r.1 r.2 f r.2.length) i, ?_, y2.add ((inK f hff).smul _), fun f' hf' => ?_, fun j hj => ?_⟩
        · exact (LS.add y1 (LS.smul (y f) (SpanR.of (List.mem_map.mpr ⟨f, hff, rfl⟩)))).cong fun i => by grind
        · show y f' + (- y f) * vec q (freeCol q.z wide r.1 r.2 f r.2.length) f' = 0
          rcases List.mem_cons.mp hf' with rfl | hf'
          · rw [c2]; grind
          · have hne : f' ≠ f := fun e => (List.nodup_cons.mp nd).1 (e ▸ hf')
            have h3 := ((hfree f').mp (hm f' (by simp [hf']))).2
            rw [y3 f' hf', c1 f' hne fun i hi e => h3 (e ▸ getD_mem hi)]; grind
        · show y j + (- y f) * vec q (freeCol q.z wide r.1 r.2 f r.2.length) j = 0
          rw [y4 j hj, vec_ge (by rw [freeCol_len]; exact hj)]; grind
    obtain ⟨y, y1, y2, y3, y4⟩ := step frees (fun _ h => h) (by rw [← hF]; exact List.nodup_range.filter _)
    have yz : ∀ j, y j = 0 := fun j => by
      by_cases hj : j < wide
      · by_cases hp : j ∈ r.2
        · obtain ⟨i, hi, ei⟩ := List.getElem_of_mem hp
          have hi1 : i < r.1.length := by rw [R.len]; exact hi
          have ej : r.2.getD i 0 = j := by rw [List.getD_eq_getElem?_getD, List.getElem?_eq_getElem hi]; exact ei
          have d0 : dot wide (vec q (r.1.getD i [])) y = 0 := by
            have : InK q wide rows y := y2
            exact this.span ((R.span _).mpr (SpanR.of (getD_mem hi1)))
          have d1 : dot wide (vec q (r.1.getD i [])) y = vec q (r.1.getD i []) j * y j := by
            unfold dot
            refine sumN_single wide j _ hj fun k hk hn => ?_
            by_cases hp2 : k ∈ r.2
            · obtain ⟨l, hl, el⟩ := List.getElem_of_mem hp2
              have ek : r.2.getD l 0 = k := by rw [List.getD_eq_getElem?_getD, List.getElem?_eq_getElem hl]; exact el
              have := R.dl i l hi1 hl
              rw [ek, if_neg (fun e => hn (by rw [← ek, ← e, ej]))] at this
              rw [this]; grind
            · rw [y3 k ((hfree k).mpr ⟨hk, hp2⟩)]; grind
          have := R.dl i i hi1 hi
          rw [ej, if_pos rfl] at this
          rw [d0, this] at d1
          grind
        · exact y3 j ((hfree j).mpr ⟨hj, hp⟩)
      · exact y4 j (by omega)
    exact y1.cong fun i => by rw [yz]; grind
end
end Mw
end
section
set_option autoImplicit false
set_option linter.unusedSectionVars false
set_option linter.unusedVariables false
/-! The polynomials that stay; the parting of square-free ones. -/
namespace Mw
open Lean.Grind
section
variable {q : P6}

theorem sumP_c {F : Type} [CommRing F] [Fld F] (h : Nat) : ∀ (m : Nat) (f : Nat → Poly F), (sumP m f).c h = sumN m fun i => (f i).c h
  | 0, f => zero_c h
  | m + 1, f => by
    show (f 0).c h + (sumP m fun i => f (i + 1)).c h = (f 0).c h + sumN m fun i => (f (i + 1)).c h
    rw [sumP_c h m]
theorem sumP_sub {F : Type} [CommRing F] [Fld F] : ∀ (m : Nat) (f g : Nat → Poly F), sumP m f - sumP m g = sumP m fun i => f i - g i
  | 0, f, g => by show (0 : Poly F) - 0 = 0; grind
  | m + 1, f, g => by
    have ih := sumP_sub m (fun i => f (i + 1)) (fun i => g (i + 1))
    show f 0 + sumP m _ - (g 0 + sumP m _) = (f 0 - g 0) + sumP m fun i => f (i + 1) - g (i + 1)
    rw [← ih]; grind
theorem pow_sum {v : Poly (Fq q)} {n : Nat} (h : len v ≤ n) : v ^ q.n = sumP n fun a => Poly.C (v.c a) * Poly.mono 1 (q.n * a) := Poly.ext fun i => by
  have hq := q.two
  rw [pow_c _ v (Nat.le_refl _), sumP_c]
  have e : ∀ a, (Poly.C (v.c a) * Poly.mono 1 (q.n * a)).c i = v.c a * (if i = q.n * a then 1 else 0) := fun a => by rw [C_mul_c]; rfl
  by_cases h1 : i % q.n = 0
  · have hi : i = q.n * (i / q.n) := by have := Nat.div_add_mod i q.n; omega
    rw [if_pos h1]
    by_cases h2 : i / q.n < n
    · rw [sumN_single n (i / q.n) _ h2 fun a _ hn => by
        rw [e, if_neg]
        · grind
        · intro z
          exact hn (Nat.eq_of_mul_eq_mul_left (show 0 < q.n by omega) (z ▸ hi))]
      rw [e, if_pos hi]; grind
    · rw [len_spec v _ (by omega), sumN_zero _ _ fun a ha => ?_]
      rw [e, if_neg]
      · grind
      · intro z
        rw [z, Nat.mul_div_cancel_left _ (by omega)] at h2
        exact h2 ha
  · rw [if_neg h1, sumN_zero _ _ fun a ha => ?_]
    rw [e, if_neg]
    · grind
    · intro z
      exact h1 (by rw [z]; exact Nat.mul_mod_right _ _)

/-! ### the rests -/
theorem pad_getD (n : Nat) (l : LI) (i : Nat) : (pad n l).getD i 0 = l.getD i 0 := by
  unfold pad
  rw [List.getD_eq_getElem?_getD, List.getElem?_append]
  split
  · rw [List.getD_eq_getElem?_getD]
  · rw [getD_ge (l := l) (by omega), List.getElem?_replicate]
    split <;> rfl
theorem toP_pad (n : Nat) (l : LI) : toP q (pad n l) = toP q l := Poly.ext fun i => by rw [toP_c, toP_c, pad_getD]
theorem pad_len {n : Nat} {l : LI} (h : l.length ≤ n) : (pad n l).length = n := by unfold pad; rw [List.length_append, List.length_replicate]; omega
theorem Rg.pad {n : Nat} {l : LI} (h : Rg q l) : Rg q (pad n l) := h.append (Rg.rep _)
theorem restsF_len (p : Int) (poly step : LI) : ∀ n, (restsF p poly step n).length = n + 1
  | 0 => rfl
  | n + 1 => by
    show (restsF p poly step n ++ [_]).length = _
    rw [List.length_append, restsF_len p poly step n]; rfl
theorem restsF_getD (p : Int) (poly step : LI) (n a : Nat) (h : a ≤ n) : (restsF p poly step (n + 1)).getD a [] = (restsF p poly step n).getD a [] := by
  show (restsF p poly step n ++ [_]).getD a [] = _
  rw [List.getD_eq_getElem?_getD, List.getElem?_append_left (by rw [restsF_len]; omega), ← List.getD_eq_getElem?_getD]
theorem restsF_last (p : Int) (poly step : LI) (n : Nat) : (restsF p poly step (n + 1)).getD (n + 1) [] = (divided p (rawProduct p ((restsF p poly step n).getD n []) step) poly).2 := by
  show (restsF p poly step n ++ [_]).getD (n + 1) [] = _
  rw [List.getD_eq_getElem?_getD, List.getElem?_append_right (by rw [restsF_len]; omega), restsF_len]
  simp
theorem restsF_ok {poly step : LI} (h : IsC q poly) (h2 : 2 ≤ poly.length) (hs : IsC q step) : ∀ n a, a ≤ n →
    IsC q ((restsF q.z poly step n).getD a []) ∧ ((restsF q.z poly step n).getD a []).length ≤ poly.length - 1 ∧ Dv (toP q poly) (toP q step ^ a - toP q ((restsF q.z poly step n).getD a []))
  | 0, a, ha => by
    obtain rfl : a = 0 := by omega
    show IsC q [1] ∧ _
    have := q.z2
    refine ⟨⟨fun x hx => by rw [List.mem_singleton.mp hx]; omega, fun _ => by decide⟩, by show 1 ≤ _; omega, ?_⟩
    rw [Semiring.pow_zero]
    have : toP q [1] = 1 := Poly.ext fun i => by
      rw [toP_c]
      cases i with
      | zero => show cf q 1 = _; rw [cf_one]; rfl
      | succ i => show cf q 0 = _; rw [cf_zero]; rfl
    show Dv _ (1 - toP q [1])
    rw [this]
    exact ⟨0, by grind⟩
  | n + 1, a, ha => by
    by_cases e : a = n + 1
    · subst e
      obtain ⟨c, l, d⟩ := restsF_ok h h2 hs n n (Nat.le_refl _)
      rw [restsF_last]
      have hne : poly ≠ [] := fun z => by rw [z] at h2; simp at h2
      obtain ⟨d1, d2, d3, d4⟩ := divided_ok h hne (rawProduct_C ((restsF q.z poly step n).getD n []) step).1
      refine ⟨d2, by omega, ?_⟩
      rw [toP_rawProduct] at d3
      obtain ⟨y, ey⟩ := d
      rw [Semiring.pow_succ]
      exact ⟨y * toP q step + toP q (divided q.z (rawProduct q.z ((restsF q.z poly step n).getD n []) step) poly).1, by grind⟩
    · rw [restsF_getD _ _ _ _ _ (by omega)]
      exact restsF_ok h h2 hs n a (by omega)
theorem toP_xp (q : P6) : toP q (List.replicate q.n 0 ++ [1]) = Poly.mono 1 q.n := Poly.ext fun i => by
  rw [toP_c, List.getD_eq_getElem?_getD, List.getElem?_append]
  show _ = one_at 1 q.n i
  unfold one_at
  by_cases h : i < (List.replicate q.n (0 : Int)).length
  · rw [if_pos h, List.getElem?_replicate]
    rw [List.length_replicate] at h
    rw [if_pos h, if_neg (by omega)]; exact cf_zero
  · rw [if_neg h]
    rw [List.length_replicate] at h ⊢
    by_cases h2 : i = q.n
    · rw [if_pos h2, h2, Nat.sub_self]; exact cf_one
    · rw [if_neg h2, List.getElem?_eq_none (by simp; omega)]; exact cf_zero
/-- the a-th rest: of x to the power prime a, as long as the degree -/
theorem powerRests_ok {poly : LI} (h : IsC q poly) (h2 : 2 ≤ poly.length) : (powerRests q.z poly).length = poly.length - 1 ∧ ∀ a, a < poly.length - 1 →
    ((powerRests q.z poly).getD a []).length = poly.length - 1 ∧ Rg q ((powerRests q.z poly).getD a []) ∧ Dv (toP q poly) (Poly.mono 1 (q.n * a) - toP q ((powerRests q.z poly).getD a [])) := by
  have hne : poly ≠ [] := fun z => by rw [z] at h2; simp at h2
  have hz : q.z.toNat = q.n := by show ((q.n : Int)).toNat = _; omega
  have hrg : Rg q (List.replicate q.n 0 ++ [1]) := (Rg.rep _).append fun x hx => by rw [List.mem_singleton.mp hx]; have := q.z2; omega
  obtain ⟨s1, s2, s3, s4⟩ := divided_ok h hne hrg
  unfold powerRests
  simp only
  rw [hz]
  generalize hst : (divided q.z (List.replicate q.n 0 ++ [1]) poly).2 = step at s2 s3 s4
  refine ⟨by rw [List.length_map, restsF_len]; omega, fun a ha => ?_⟩
  obtain ⟨c, l, d⟩ := restsF_ok h h2 s2 (poly.length - 2) a (by omega)
  rw [getD_mapL (d := []) _ (by rw [restsF_len]; omega)]
  refine ⟨pad_len l, c.1.pad, ?_⟩
  rw [toP_pad]
  have e : Poly.mono (1 : Fq q) (q.n * a) = Poly.mono 1 q.n ^ a := by
    rw [mono_pow]
    have : (1 : Fq q) ^ a = 1 := by
      clear ha c l d
      induction a with
      | zero => rw [Semiring.pow_zero]
      | succ a ih => rw [Semiring.pow_succ, ih]; grind
    rw [this]
  rw [e]
  have d0 : Dv (toP q poly) (Poly.mono 1 q.n - toP q step) := ⟨toP q (divided q.z (List.replicate q.n 0 ++ [1]) poly).1, by rw [toP_xp] at s3; grind⟩
  have d1 := d0.trans (dv_pow_sub (Poly.mono 1 q.n) (toP q step) a)
  rw [show Poly.mono 1 q.n ^ a - toP q ((restsF q.z poly step (poly.length - 2)).getD a []) = (Poly.mono 1 q.n ^ a - toP q step ^ a) + (toP q step ^ a - toP q ((restsF q.z poly step (poly.length - 2)).getD a [])) by grind]
  exact d1.add d

/-! ### what stays -/
/-- led to noughts by the rows: stays -/
theorem still_iff {poly : LI} (h : IsC q poly) (h2 : 2 ≤ poly.length) {v : Poly (Fq q)} (hv : len v ≤ poly.length - 1) :
    InK q (poly.length - 1) (rowsOf (poly.length - 1) (stillCols q.z poly)) v.c ↔ Berl q.n (toP q poly) v := by
  obtain ⟨pl, pr⟩ := powerRests_ok h h2
  generalize hn : poly.length - 1 = n at *
  generalize hR : powerRests q.z poly = R at *
  have lf : len (toP q poly) = n + 1 := by rw [h.len]; omega
  let w := sumP n fun a => Poly.C (v.c a) * toP q (R.getD a [])
  have dw : Dv (toP q poly) (v ^ q.n - w) := by
    show Dv _ (v ^ q.n - sumP n fun a => Poly.C (v.c a) * toP q (R.getD a []))
    rw [pow_sum hv, sumP_sub]
    refine sumP_dv _ _ fun a ha => ?_
    rw [show Poly.C (v.c a) * Poly.mono 1 (q.n * a) - Poly.C (v.c a) * toP q (R.getD a []) = Poly.C (v.c a) * (Poly.mono 1 (q.n * a) - toP q (R.getD a [])) by grind]
    exact (pr a ha).2.2.mul' _
  have wc : ∀ i, w.c i = sumN n fun a => v.c a * cf q ((R.getD a []).getD i 0) := fun i => by
    show (sumP n fun a => Poly.C (v.c a) * toP q (R.getD a [])).c i = _
    rw [sumP_c]
    exact sumN_congr _ _ _ fun a _ => by rw [C_mul_c]; rfl
  have wl : ∀ i, n ≤ i → w.c i = 0 := fun i hi => by
    rw [wc]
    exact sumN_zero _ _ fun a ha => by rw [getD_ge (l := R.getD a []) (by rw [(pr a ha).1]; exact hi), cf_zero]; grind
  -- the i-th row against v
  have row : ∀ i, i < n → dot n (vec q ((stillCols q.z poly).map fun c => c.getD i 0)) v.c = w.c i - v.c i := fun i hi => by
    unfold dot
    rw [wc]
    have e1 : ∀ a, a < n → vec q ((stillCols q.z poly).map fun c => c.getD i 0) a * v.c a = v.c a * cf q ((R.getD a []).getD i 0) + (if a = i then - v.c i else 0) := fun a ha => by
      unfold vec stillCols
      simp only
      rw [hR, hn, List.map_map, map_getD, if_pos ha]
      show cf q (((List.range (R.getD a []).length).map fun h => ((R.getD a []).getD h 0 - (if a = h then 1 else 0)) % q.z).getD i 0) * v.c a = _
      rw [map_getD, if_pos (by rw [(pr a ha).1]; exact hi), cf_mod, cf_sub]
      by_cases z : a = i
      · rw [if_pos z, if_pos z, cf_one, z]; grind
      · rw [if_neg z, if_neg z, cf_zero]; grind
    rw [sumN_congr n _ _ e1, sumN_add, sumN_single n i (fun a => if a = i then - v.c i else 0) hi fun a _ hn => by rw [if_neg hn], if_pos rfl]
    grind
  have key : Berl q.n (toP q poly) v ↔ ∀ i, w.c i = v.c i := by
    constructor
    · intro b i
      have d : Dv (toP q poly) (w - v) := by
        rw [show w - v = (v ^ q.n - v) - (v ^ q.n - w) by grind]
        exact b.sub dw
      have z := d.zero_of_len (by
        rw [lf]
        have a1 := len_sub_le w v
        have a2 : len w ≤ n := len_le wl
        omega)
      have : (w - v).c i = (0 : Poly (Fq q)).c i := by rw [z]
      rw [sub_c, zero_c] at this
      grind
    · intro e
      have ew : w = v := Poly.ext e
      unfold Berl
      rw [show v ^ q.n - v = v ^ q.n - w by rw [ew]]
      exact dw
  rw [key]
  constructor
  · intro K i
    by_cases hi : i < n
    · have := K _ (List.mem_map.mpr ⟨i, List.mem_range.mpr hi, rfl⟩)
      rw [row i hi] at this
      grind
    · rw [wl i (by omega), len_spec v i (by omega)]
  · intro e r hr
    obtain ⟨i, hi, rfl⟩ := List.mem_map.mp hr
    rw [row i (List.mem_range.mp hi), e i]; grind
theorem linf_unit {F : Type} [CommRing F] [Fld F] {S : List (Poly F)} {s : Poly F} (h : s ∈ S) : ∃ a, s = linf a S := by
  induction S with
  | nil => cases h
  | cons t S ih =>
    rcases List.mem_cons.mp h with rfl | h
    · refine ⟨fun i => if i = 0 then 1 else 0, ?_⟩
      show s = Poly.C (if 0 = 0 then 1 else 0) * s + linf (fun i => if i + 1 = 0 then 1 else 0) S
      rw [if_pos rfl, linf_zero S _ fun i _ => by rw [if_neg (by omega)], C_one]; grind
    · obtain ⟨a, e⟩ := ih h
      refine ⟨fun i => match i with | 0 => 0 | i + 1 => a i, ?_⟩
      show s = Poly.C 0 * t + linf (fun i => a i) S
      rw [C_zero, ← e]; grind
theorem span_linf {rows : List LI} {v : Vec q} (h : SpanR q rows v) : ∃ a, ∀ i, v i = (linf a (rows.map (toP q))).c i := by
  induction h with
  | zero => exact ⟨fun _ => 0, fun i => by rw [linf_zero _ _ fun _ _ => rfl, zero_c]⟩
  | add _ _ a b =>
    obtain ⟨a, ea⟩ := a
    obtain ⟨b, eb⟩ := b
    exact ⟨fun i => a i + b i, fun i => by rw [linf_add, add_c, ← ea, ← eb]⟩
  | smul c _ a =>
    obtain ⟨a, ea⟩ := a
    exact ⟨fun i => c * a i, fun i => by rw [linf_smul, C_mul_c, ← ea]⟩
  | base g =>
    obtain ⟨r, hr, rfl⟩ := g
    obtain ⟨a, ea⟩ := linf_unit (List.mem_map.mpr ⟨r, hr, rfl⟩ : toP q r ∈ rows.map (toP q))
    exact ⟨a, fun i => by rw [← ea]; rfl⟩
theorem still_ok {poly : LI} (h : IsC q poly) (h2 : 2 ≤ poly.length) : (∀ s, s ∈ stillPolys q.z poly → IsC q s ∧ s.length ≤ poly.length - 1 ∧ Berl q.n (toP q poly) (toP q s)) ∧ Spans q.n (toP q poly) ((stillPolys q.z poly).map (toP q)) := by
  obtain ⟨pl, pr⟩ := powerRests_ok h h2
  have hrows : ∀ r, r ∈ rowsOf (poly.length - 1) (stillCols q.z poly) → r.length = poly.length - 1 ∧ Rg q r := fun r hr => by
    obtain ⟨i, hi, rfl⟩ := List.mem_map.mp hr
    refine ⟨by unfold stillCols; simp, Rg.of_get fun a ha => ?_⟩
    have ha' : a < poly.length - 1 := by
      rw [List.length_map] at ha
      unfold stillCols at ha
      simp at ha; omega
    unfold stillCols
    simp only
    rw [List.map_map, map_getD, if_pos ha']
    show 0 ≤ ((List.range ((powerRests q.z poly).getD a []).length).map fun h => (((powerRests q.z poly).getD a []).getD h 0 - (if a = h then 1 else 0)) % q.z).getD i 0 ∧ _
    exact (map_rg (fun h => ((powerRests q.z poly).getD a []).getD h 0 - (if a = h then 1 else 0)) _).get i
  obtain ⟨k1, k2⟩ := kernel_ok hrows
  unfold stillPolys
  refine ⟨fun s hs => ?_, fun v hl hB => ?_⟩
  · obtain ⟨x, hx, rfl⟩ := List.mem_map.mp hs
    obtain ⟨x1, x2, x3⟩ := k1 x hx
    have c := trim_C x2
    have lx := trim_le x
    refine ⟨c, by omega, ?_⟩
    rw [toP_trim]
    refine (still_iff h h2 ?_).mp x3
    have := toP_len (q := q) x
    omega
  · rw [h.len] at hl
    have hK := (still_iff h h2 (by omega)).mpr hB
    obtain ⟨a, ea⟩ := span_linf (k2 v.c (fun j hj => len_spec v j (by omega)) hK)
    refine ⟨a, Poly.ext fun i => ?_⟩
    rw [ea i, List.map_map]
    have : (toP q ∘ trim) = toP q := funext fun x => toP_trim x
    rw [this]

/-! ### parting -/
/-- monic, not a number -/
def Part (q : P6) (l : LI) : Prop := IsC q l ∧ Mon (toP q l) ∧ 2 ≤ l.length
theorem toP_const (q : P6) (w : Int) : toP q [w] = Poly.C (cf q w) := Poly.ext fun i => by
  rw [toP_c]
  cases i with
  | zero => rfl
  | succ i => exact cf_zero
theorem prod_filter {l : List LI} (h : ∀ d, d ∈ l → IsC q d ∧ Mon (toP q d)) : prodP ((l.filter fun d => decide (1 < d.length)).map (toP q)) = prodP (l.map (toP q)) := by
  induction l with
  | nil => rfl
  | cons d l ih =>
    have ih := ih fun x hx => h x (by simp [hx])
    rw [List.filter_cons]
    obtain ⟨c, m⟩ := h d (by simp)
    by_cases z : 1 < d.length
    · rw [if_pos (decide_eq_true z)]
      show toP q d * prodP _ = toP q d * prodP _
      rw [ih]
    · rw [if_neg (by simpa using z), ih]
      show _ = toP q d * prodP _
      rw [m.eq_one (by rw [c.len]; omega)]; grind
theorem splitBy_ok {one part : LI} (hp : Part q part) (ho : IsC q one) (hB : Berl q.n (toP q part) (toP q one)) :
    (∀ l, l ∈ splitBy q.z one part → Part q l ∧ Dv (toP q l) (toP q part) ∧ ∃ c, Dv (toP q l) (toP q one - Poly.C c)) ∧ prodP ((splitBy q.z one part).map (toP q)) = toP q part := by
  have hz : q.z.toNat = q.n := by show ((q.n : Int)).toNat = _; omega
  have hne : part ≠ [] := fun e => by have := hp.2.2; rw [e] at this; simp at this
  let G' : Nat → LI := fun w => common q.z part (minus q.z one (trim [(w : Int)]))
  have hG : ∀ w : Nat, w < q.n → IsC q (G' w) ∧ IsGcd (toP q (G' w)) (toP q part) (toP q one - Poly.C (cf q (w : Int))) := fun w hw => by
    have c1 : IsC q (trim [(w : Int)]) := trim_C fun x hx => by
      rw [List.mem_singleton.mp hx]
      show 0 ≤ (w : Int) ∧ (w : Int) < (q.n : Int)
      omega
    obtain ⟨m1, m2⟩ := toP_minus (q := q) one (trim [(w : Int)])
    have := common_ok hp.1 m2 (.inl hne)
    rw [m1, toP_trim, toP_const] at this
    exact this
  unfold splitBy
  rw [hz]
  constructor
  · intro l hl
    obtain ⟨hl, h1⟩ := List.mem_filter.mp hl
    obtain ⟨w, hw, rfl⟩ := List.mem_map.mp hl
    obtain ⟨c, g⟩ := hG w (List.mem_range.mp hw)
    have h1 := _root_.of_decide_eq_true h1
    exact ⟨⟨c, g.1, h1⟩, g.2.1, cf q (w : Int), g.2.2.1⟩
  · rw [prod_filter fun d hd => by
      obtain ⟨w, hw, rfl⟩ := List.mem_map.mp hd
      have := hG w (List.mem_range.mp hw)
      exact ⟨this.1, this.2.1⟩]
    rw [List.map_map]
    have e : (List.range q.n).map (toP q ∘ G') = (els q).map fun c => toP q (G' c.val) := by
      unfold els
      refine List.ext_getElem (by simp) fun i h1 h2 => ?_
      simp
    show prodP ((List.range q.n).map (toP q ∘ G')) = _
    rw [e]
    refine split_prod (isFp q) (v := toP q one) hp.2.1 hB fun c => ?_
    have := (hG c.val c.isLt).2
    rw [cf_val] at this
    exact this
structure Parts (q : P6) (f : Poly (Fq q)) (L : List LI) : Prop where
  part : ∀ l, l ∈ L → Part q l
  prod : prodP (L.map (toP q)) = f
theorem Parts.dv {f : Poly (Fq q)} {L : List LI} (h : Parts q f L) {l : LI} (hl : l ∈ L) : Dv (toP q l) f := by
  rw [← h.prod]; exact prodP_dv (List.mem_map.mpr ⟨l, hl, rfl⟩)
theorem splitAll_prod {one : LI} (ho : IsC q one) : ∀ L : List LI, (∀ l, l ∈ L → Part q l ∧ Berl q.n (toP q l) (toP q one)) → prodP ((splitAll q.z one L).map (toP q)) = prodP (L.map (toP q))
  | [], _ => rfl
  | l :: L, h => by
    have a := h l (by simp)
    show prodP ((splitBy q.z one l ++ splitAll q.z one L).map (toP q)) = toP q l * prodP (L.map (toP q))
    rw [List.map_append, prodP_append, (splitBy_ok a.1 ho a.2).2, splitAll_prod ho L fun x hx => h x (by simp [hx])]
theorem splitAll_ok {f : Poly (Fq q)} {one : LI} (ho : IsC q one) (hB : Berl q.n f (toP q one)) {L : List LI} (P : Parts q f L) :
    Parts q f (splitAll q.z one L) ∧ (∀ l, l ∈ splitAll q.z one L → ∃ c, Dv (toP q l) (toP q one - Poly.C c)) ∧ ∀ l, l ∈ splitAll q.z one L → ∃ l', l' ∈ L ∧ Dv (toP q l) (toP q l') := by
  have hb : ∀ l, l ∈ L → Part q l ∧ Berl q.n (toP q l) (toP q one) := fun l hl => ⟨P.part l hl, (P.dv hl).trans hB⟩
  have hm : ∀ l, l ∈ splitAll q.z one L → ∃ l', l' ∈ L ∧ l ∈ splitBy q.z one l' := fun l hl => by
    obtain ⟨l', h1, h2⟩ := List.mem_flatMap.mp hl
    exact ⟨l', h1, h2⟩
  refine ⟨⟨fun l hl => ?_, by rw [splitAll_prod ho L hb, P.prod]⟩, fun l hl => ?_, fun l hl => ?_⟩
  · obtain ⟨l', h1, h2⟩ := hm l hl
    exact ((splitBy_ok (hb l' h1).1 ho (hb l' h1).2).1 l h2).1
  · obtain ⟨l', h1, h2⟩ := hm l hl
    exact ((splitBy_ok (hb l' h1).1 ho (hb l' h1).2).1 l h2).2.2
  · obtain ⟨l', h1, h2⟩ := hm l hl
    exact ⟨l', h1, ((splitBy_ok (hb l' h1).1 ho (hb l' h1).2).1 l h2).2.1⟩
theorem simpleGo_ok {f : Poly (Fq q)} (hf : f ≠ 0) (sf : SqF f) {S : List LI} (hS : ∀ s, s ∈ S → IsC q s ∧ Berl q.n f (toP q s)) (sp : Spans q.n f (S.map (toP q))) :
    ∀ (todo done : List LI), (∀ s, s ∈ S → s ∈ done ∨ s ∈ todo) → (∀ s, s ∈ todo → s ∈ S) → ∀ L, Parts q f L → (∀ l, l ∈ L → ∀ s, s ∈ done → ∃ c, Dv (toP q l) (toP q s - Poly.C c)) →
      Parts q f (simpleGo q.z S.length todo L) ∧ ∀ l, l ∈ simpleGo q.z S.length todo L → Irr (toP q l)
  | [], done, h1, _, L, P, h3 => ⟨P, fun l hl => irr_of_still (isFp q) hf sf sp (P.dv hl) (by rw [(P.part l hl).1.len]; exact (P.part l hl).2.2) fun s hs => by
      obtain ⟨s', hs', rfl⟩ := List.mem_map.mp hs
      exact h3 l hl s' ((h1 s' hs').elim id fun z => nomatch z)⟩
  | one :: todo, done, h1, h2, L, P, h3 => by
    have ho := hS one (h2 one (by simp))
    obtain ⟨P', d1, d2⟩ := splitAll_ok ho.1 ho.2 P
    unfold simpleGo
    split
    · next e =>
      refine ⟨P', fun l hl => ?_⟩
      refine irr_of_count (isFp q) (l := (splitAll q.z one L).map (toP q)) (S := S.map (toP q)) (by rw [P'.prod]; exact sf) (fun x hx => ?_) (by rw [P'.prod]; exact sp) (by simpa using e) _ (List.mem_map.mpr ⟨l, hl, rfl⟩)
      obtain ⟨y, hy, rfl⟩ := List.mem_map.mp hx
      rw [(P'.part y hy).1.len]; exact (P'.part y hy).2.2
    · refine simpleGo_ok hf sf hS sp todo (one :: done) (fun s hs => ?_) (fun s hs => h2 s (by simp [hs])) _ P' fun l hl s hs => ?_
      · rcases h1 s hs with z | z
        · exact .inl (by simp [z])
        · rcases List.mem_cons.mp z with rfl | z
          · exact .inl (by simp)
          · exact .inr z
      · rcases List.mem_cons.mp hs with rfl | hs
        · exact d1 l hl
        · obtain ⟨l', hl', dl⟩ := d2 l hl
          obtain ⟨c, dc⟩ := h3 l' hl' s hs
          exact ⟨c, dl.trans dc⟩
/-- the prime factors of one without double factors -/
theorem simpleFactors_ok {poly : LI} (hp : Part q poly) (sf : SqF (toP q poly)) : Parts q (toP q poly) (simpleFactors q.z poly) ∧ ∀ l, l ∈ simpleFactors q.z poly → Irr (toP q l) := by
  obtain ⟨s1, s2⟩ := still_ok hp.1 hp.2.2
  unfold simpleFactors
  refine simpleGo_ok hp.2.1.ne sf (fun s hs => ⟨(s1 s hs).1, (s1 s hs).2.2⟩) s2 _ [] (fun s hs => .inr hs) (fun s hs => hs) [poly] ⟨fun l hl => by rw [List.mem_singleton.mp hl]; exact hp, by show toP q poly * 1 = _; grind⟩ fun l hl s hs => nomatch hs
end
end Mw
end
section
set_option autoImplicit false
set_option linter.unusedSectionVars false
set_option linter.unusedVariables false
/-! How often a factor is in; the dict of factors; the order; the one list of factors. -/
namespace Mw
open Lean.Grind
section
variable {q : P6}

theorem timesInF_ok {factor : LI} (hf : Part q factor) : ∀ (n : Nat) (poly : LI) (many : Nat), IsC q poly → poly ≠ [] → poly.length ≤ n →
    ∃ j, (timesInF q.z factor n poly many).1 = many + j ∧ toP q poly = toP q factor ^ j * toP q (timesInF q.z factor n poly many).2 ∧ IsC q (timesInF q.z factor n poly many).2 ∧
      (timesInF q.z factor n poly many).2 ≠ [] ∧ (timesInF q.z factor n poly many).2.length ≤ poly.length ∧ ¬ Dv (toP q factor) (toP q (timesInF q.z factor n poly many).2) ∧
      (Dv (toP q factor) (toP q poly) → 1 ≤ j ∧ (timesInF q.z factor n poly many).2.length < poly.length)
  | 0, poly, many, _, hne, hl => absurd (List.length_eq_zero_iff.mp (Nat.le_zero.mp hl)) hne
  | n + 1, poly, many, hc, hne, hl => by
    have fne : factor ≠ [] := fun e => by have := hf.2.2; rw [e] at this; simp at this
    obtain ⟨d1, d2, d3, d4⟩ := divided_ok hf.1 fne hc.1
    unfold timesInF
    simp only
    by_cases z : (divided q.z poly factor).2 = [] ∧ (divided q.z poly factor).1 ≠ []
    · rw [if_pos z]
      have e := divided_dv' hf.1 fne hc.1 z.1
      have ne1 : toP q (divided q.z poly factor).1 ≠ 0 := fun y => z.2 (d1.zero_iff.mp y)
      have hlen : poly.length = factor.length + (divided q.z poly factor).1.length - 1 := by
        rw [← hc.len, ← hf.1.len, ← d1.len, e, len_mul hf.2.1.pos (len_pos ne1)]
      have := hf.2.2
      obtain ⟨j, a1, a2, a3, a4, a5, a6, a7⟩ := timesInF_ok hf n (divided q.z poly factor).1 (many + 1) d1 z.2 (by omega)
      exact ⟨j + 1, by omega, by rw [e, a2, Semiring.pow_succ]; grind, a3, a4, by omega, a6, fun _ => ⟨by omega, by omega⟩⟩
    · rw [if_neg z]
      have nd : ¬ Dv (toP q factor) (toP q poly) := fun d => by
        obtain ⟨x, e⟩ := d
        obtain ⟨e1, e2⟩ := divided_dv hf.1 fne hc.1 e
        refine z ⟨e1, fun e3 => hne (hc.zero_iff.mp ?_)⟩
        rw [e, ← e2, e3, toP_nil]; grind
      exact ⟨0, rfl, by rw [Semiring.pow_zero]; grind, hc, hne, Nat.le_refl _, nd, fun d => absurd d nd⟩
theorem timesIn_ok {factor poly : LI} (hf : Part q factor) (hc : IsC q poly) (hne : poly ≠ []) :
    toP q poly = toP q factor ^ (timesIn q.z poly factor).1 * toP q (timesIn q.z poly factor).2 ∧ IsC q (timesIn q.z poly factor).2 ∧
      (timesIn q.z poly factor).2 ≠ [] ∧ (timesIn q.z poly factor).2.length ≤ poly.length ∧ ¬ Dv (toP q factor) (toP q (timesIn q.z poly factor).2) ∧
      (Dv (toP q factor) (toP q poly) → 1 ≤ (timesIn q.z poly factor).1 ∧ (timesIn q.z poly factor).2.length < poly.length) := by
  obtain ⟨j, a1, a2⟩ := timesInF_ok hf poly.length poly 0 hc hne (Nat.le_refl _)
  have e : (timesIn q.z poly factor).1 = j := by show (timesInF _ _ _ _ _).1 = j; omega
  rw [e]
  exact a2

/-! ### the dict -/
def GoodD (q : P6) (d : Dic) : Prop := (∀ x, x ∈ d → IsC q x.1 ∧ Irr (toP q x.1) ∧ Mon (toP q x.1) ∧ 1 ≤ x.2) ∧ (d.map (·.1)).Nodup
def prodD (q : P6) : Dic → Poly (Fq q)
  | [] => 1
  | x :: d => toP q x.1 ^ x.2.toNat * prodD q d
theorem prodD_append (a b : Dic) : prodD q (a ++ b) = prodD q a * prodD q b := by
  induction a with
  | nil => show prodD q b = 1 * _; grind
  | cons x a ih => show _ * prodD q (a ++ b) = _ * _ * _; rw [ih]; grind
theorem GoodD.nil : GoodD q [] := ⟨(fun _ h => nomatch h), List.nodup_nil⟩
theorem GoodD.tail {x : LI × Int} {d : Dic} (h : GoodD q (x :: d)) : GoodD q d := ⟨fun y hy => h.1 y (by simp [hy]), (List.nodup_cons.mp h.2).2⟩
theorem any_key (d : Dic) (k : LI) : (d.any fun kv => decide (kv.1 = k)) = true ↔ k ∈ d.map (·.1) := by
  simp only [List.any_eq_true, decide_eq_true_eq, List.mem_map]
theorem getDic_cons (x : LI × Int) (d : Dic) (k : LI) : getDic (x :: d) k = if x.1 = k then x.2 else getDic d k := by
  unfold getDic
  rw [List.find?_cons]
  by_cases h : x.1 = k
  · rw [if_pos h, decide_eq_true h]; rfl
  · rw [if_neg h, decide_eq_false h]
theorem getDic_none {d : Dic} {k : LI} (h : k ∉ d.map (·.1)) : getDic d k = 0 := by
  induction d with
  | nil => rfl
  | cons x d ih =>
    simp only [List.map_cons, List.mem_cons, _root_.not_or] at h
    rw [getDic_cons, if_neg (Ne.symm h.1), ih h.2]
theorem getDic_mem {d : Dic} {k : LI} {v : Int} (h : (d.map (·.1)).Nodup) (hm : (k, v) ∈ d) : getDic d k = v := by
  induction d with
  | nil => cases hm
  | cons x d ih =>
    rw [getDic_cons]
    rcases List.mem_cons.mp hm with e | e
    · rw [if_pos (by rw [← e]), ← e]
    · rw [if_neg, ih (List.nodup_cons.mp h).2 e]
      intro z
      exact (List.nodup_cons.mp h).1 (List.mem_map.mpr ⟨_, e, z.symm⟩)
theorem putDic_new {d : Dic} {k : LI} {v : Int} (h : k ∉ d.map (·.1)) : putDic d k v = d ++ [(k, v)] := by
  unfold putDic
  rw [if_neg fun z => h ((any_key d k).mp z)]
theorem map_same {d : Dic} {k : LI} {v : Int} (h : k ∉ d.map (·.1)) : d.map (fun kv => if kv.1 = k then (kv.1, v) else kv) = d := by
  induction d with
  | nil => rfl
  | cons x d ih =>
    simp only [List.map_cons, List.mem_cons, _root_.not_or] at h ⊢
    rw [if_neg (Ne.symm h.1), ih h.2]
theorem putDic_old {x : LI × Int} {d : Dic} {k : LI} {v : Int} (h : ((x :: d).map (·.1)).Nodup) (hk : k ∈ (x :: d).map (·.1)) : putDic (x :: d) k v = if x.1 = k then (x.1, v) :: d else x :: putDic d k v := by
  unfold putDic
  rw [if_pos ((any_key _ k).mpr hk), List.map_cons]
  by_cases e : x.1 = k
  · rw [if_pos e, if_pos e, map_same (by rw [← e]; exact (List.nodup_cons.mp h).1)]
  · rw [if_neg e, if_neg e, if_pos ((any_key _ k).mpr ?_)]
    simp only [List.map_cons, List.mem_cons] at hk
    exact hk.resolve_left (Ne.symm e)
theorem putDic_keys (d : Dic) (k : LI) (v : Int) : ∀ y, y ∈ (putDic d k v).map (·.1) ↔ y = k ∨ y ∈ d.map (·.1) := fun y => by
  unfold putDic
  split
  · next h =>
    have e : (d.map fun kv => if kv.1 = k then (kv.1, v) else kv).map (·.1) = d.map (·.1) := by
      rw [List.map_map]
      refine List.map_congr_left fun x _ => ?_
      show (if x.1 = k then (x.1, v) else x).1 = x.1
      split <;> rfl
    rw [e]
    constructor
    · intro z; exact .inr z
    · rintro (rfl | z)
      · exact (any_key d _).mp h
      · exact z
  · rw [List.map_append]
    simp only [List.map_cons, List.map_nil, List.mem_append, List.mem_singleton]
    constructor
    · rintro (z | z)
      · exact .inr z
      · exact .inl z
    · rintro (z | z)
      · exact .inr z
      · exact .inl z
theorem pow_toNat (P : Poly (Fq q)) {a b : Int} (ha : 0 ≤ a) (hb : 0 ≤ b) : P ^ (a + b).toNat = P ^ a.toNat * P ^ b.toNat := by
  rw [Int.toNat_add ha hb, pow_add']
/-- so many more of one key -/
theorem putDic_ok {k : LI} (hk : IsC q k ∧ Irr (toP q k) ∧ Mon (toP q k)) {m : Int} (hm : 1 ≤ m) : ∀ {d : Dic}, GoodD q d →
    GoodD q (putDic d k (getDic d k + m)) ∧ prodD q (putDic d k (getDic d k + m)) = prodD q d * toP q k ^ m.toNat
  | [], h => ⟨⟨fun x hx => by
      have : x ∈ [(k, (0 : Int) + m)] := hx
      rw [List.mem_singleton.mp this]
      exact ⟨hk.1, hk.2.1, hk.2.2, by show 1 ≤ 0 + m; omega⟩, by show ([k] : List LI).Nodup; simp⟩, by
      show toP q k ^ (0 + m).toNat * 1 = 1 * _
      rw [Int.zero_add]; grind⟩
  | x :: d, h => by
    obtain ⟨g1, g2⟩ := putDic_ok hk hm h.tail
    by_cases hin : k ∈ (x :: d).map (·.1)
    · rw [putDic_old h.2 hin, getDic_cons]
      by_cases e : x.1 = k
      · rw [if_pos e, if_pos e]
        have hx := h.1 x (by simp)
        refine ⟨⟨fun y hy => ?_, by show (x.1 :: d.map (·.1)).Nodup; exact h.2⟩, ?_⟩
        · rcases List.mem_cons.mp hy with rfl | hy
          · exact ⟨hx.1, hx.2.1, hx.2.2.1, by show 1 ≤ x.2 + m; omega⟩
          · exact h.1 y (by simp [hy])
        · show toP q x.1 ^ (x.2 + m).toNat * prodD q d = toP q x.1 ^ x.2.toNat * prodD q d * toP q k ^ m.toNat
          rw [pow_toNat _ (by omega) (by omega), e]; grind
      · rw [if_neg e, if_neg e]
        refine ⟨⟨fun y hy => ?_, ?_⟩, ?_⟩
        · rcases List.mem_cons.mp hy with rfl | hy
          · exact h.1 y (by simp)
          · exact g1.1 y hy
        · show (x.1 :: (putDic d k (getDic d k + m)).map (·.1)).Nodup
          refine List.nodup_cons.mpr ⟨fun z => ?_, g1.2⟩
          rcases (putDic_keys d k _ x.1).mp z with z | z
          · exact e z
          · exact (List.nodup_cons.mp h.2).1 z
        · show toP q x.1 ^ x.2.toNat * prodD q _ = _
          rw [g2]
          show _ = toP q x.1 ^ x.2.toNat * prodD q d * _
          grind
    · rw [putDic_new hin, getDic_none hin]
      refine ⟨⟨fun y hy => ?_, ?_⟩, ?_⟩
      · rcases List.mem_append.mp hy with hy | hy
        · exact h.1 y hy
        · rw [List.mem_singleton.mp hy]; exact ⟨hk.1, hk.2.1, hk.2.2, by show 1 ≤ 0 + m; omega⟩
      · rw [List.map_append]
        refine List.nodup_append.mpr ⟨h.2, by simp, fun a ha b hb e => ?_⟩
        simp only [List.map_cons, List.map_nil, List.mem_singleton] at hb
        exact hin (by rw [← hb, ← e]; exact ha)
      · rw [prodD_append]
        show prodD q (x :: d) * (toP q k ^ (0 + m).toNat * 1) = _
        rw [Int.zero_add]; grind

/-! ### powers -/
theorem mul_pow' (a b : Poly (Fq q)) : ∀ n : Nat, (a * b) ^ n = a ^ n * b ^ n
  | 0 => by rw [Semiring.pow_zero, Semiring.pow_zero, Semiring.pow_zero]; grind
  | n + 1 => by rw [Semiring.pow_succ, Semiring.pow_succ, Semiring.pow_succ, mul_pow' a b n]; grind
theorem pow_mul' (a : Poly (Fq q)) (m : Nat) : ∀ n : Nat, a ^ (m * n) = (a ^ m) ^ n
  | 0 => by rw [Nat.mul_zero, Semiring.pow_zero, Semiring.pow_zero]
  | n + 1 => by rw [Nat.mul_succ, pow_add', pow_mul' a m n, Semiring.pow_succ]
theorem one_pow' : ∀ n : Nat, (1 : Poly (Fq q)) ^ n = 1
  | 0 => by rw [Semiring.pow_zero]
  | n + 1 => by rw [Semiring.pow_succ, one_pow' n]; grind
theorem lead_pow {f : Poly (Fq q)} (h : f ≠ 0) : ∀ n : Nat, lead (f ^ n) = lead f ^ n
  | 0 => by
    rw [Semiring.pow_zero, Semiring.pow_zero]
    exact Mon.one
  | n + 1 => by rw [Semiring.pow_succ, lead_mul (len_pos (len_pow h n).1) (len_pos h), lead_pow h n, Semiring.pow_succ]

/-! ### the loop over the factors of one -/
theorem takeAll_ok {sc : Nat} (hsc : 1 ≤ sc) : ∀ (L : List LI) (left : LI) (found : Dic), (∀ l, l ∈ L → Part q l ∧ Irr (toP q l)) → (L.map (toP q)).Nodup → IsC q left → Mon (toP q left) → GoodD q found →
    (∀ l, l ∈ L → Dv (toP q l) (toP q left)) →
    let s := L.foldl (takeOut q.z (sc : Int)) (left, found)
    IsC q s.1 ∧ Mon (toP q s.1) ∧ GoodD q s.2 ∧ prodD q s.2 * toP q s.1 ^ sc = prodD q found * toP q left ^ sc ∧ s.1.length ≤ left.length ∧ (L ≠ [] → s.1.length < left.length)
  | [], left, found, _, _, hc, hm, hg, _ => ⟨hc, hm, hg, rfl, Nat.le_refl _, fun h => absurd rfl h⟩
  | l :: L, left, found, hL, nd, hc, hm, hg, hd => by
    obtain ⟨hp, hi⟩ := hL l (by simp)
    have hne : left ≠ [] := fun e => hm.ne (hc.zero_iff.mpr e)
    obtain ⟨a1, a2, a3, a4, a5, a6⟩ := timesIn_ok hp hc hne
    obtain ⟨b1, b2⟩ := a6 (hd l (by simp))
    generalize ht : timesIn q.z left l = t at *
    have mt : Mon (toP q t.2) := (hp.2.1.pow t.1).right (by rw [← a1]; exact hm)
    have hmul : (1 : Int) ≤ (t.1 : Int) * (sc : Int) := by
      have : 1 * 1 ≤ t.1 * sc := Nat.mul_le_mul b1 hsc
      rw [← Int.natCast_mul]; omega
    obtain ⟨g1, g2⟩ := putDic_ok ⟨hp.1, hi, hp.2.1⟩ hmul hg
    have hrest : ∀ x, x ∈ L → Dv (toP q x) (toP q t.2) := fun x hx => by
      have d := hd x (by simp [hx])
      rw [a1] at d
      obtain ⟨hxp, hxi⟩ := hL x (by simp [hx])
      have nd' : ¬ Dv (toP q x) (toP q l) := fun z => by
        have e := hxi.eq hi hxp.2.1 hp.2.1 z
        exact (List.nodup_cons.mp nd).1 (by rw [← e]; exact List.mem_map.mpr ⟨x, hx, rfl⟩)
      exact ((hxi.cop nd').pow t.1).dv d
    have ih := takeAll_ok hsc L t.2 (putDic found l (getDic found l + (t.1 : Int) * (sc : Int))) (fun x hx => hL x (by simp [hx])) (List.nodup_cons.mp nd).2 a2 mt g1 hrest
    have e0 : (l :: L).foldl (takeOut q.z (sc : Int)) (left, found) = L.foldl (takeOut q.z (sc : Int)) (t.2, putDic found l (getDic found l + (t.1 : Int) * (sc : Int))) := by
      rw [List.foldl_cons]
      unfold takeOut
      simp only
      rw [ht]
    simp only at ih ⊢
    rw [e0]
    obtain ⟨c1, c2, c3, c4, c5, c6⟩ := ih
    refine ⟨c1, c2, c3, ?_, by omega, fun _ => by omega⟩
    rw [c4, g2, a1, mul_pow', ← pow_mul']
    rw [show ((t.1 : Int) * (sc : Int)).toNat = t.1 * sc by rw [← Int.natCast_mul]; omega]; grind

/-! ### the whole -/
theorem everyPth_ok {left : LI} (hc : IsC q left) (hm : Mon (toP q left)) (hl : 1 < left.length) (hs : slope q.z left = []) :
    IsC q (everyPth q.z left) ∧ Mon (toP q (everyPth q.z left)) ∧ (everyPth q.z left).length < left.length ∧ toP q left = toP q (everyPth q.z left) ^ q.n := by
  have hq := q.two
  have hz : q.z.toNat = q.n := by show ((q.n : Int)).toNat = _; omega
  have hd : deriv (toP q left) = 0 := by rw [← (toP_slope (q := q) left).1, hs, toP_nil]
  have e := root_ok hd
  have ne : toP q (everyPth q.z left) ≠ 0 := fun z => by
    rw [z, zero_pow' (by omega)] at e
    exact hm.ne e
  have hlen := (len_pow ne q.n).2
  rw [← e, hc.len] at hlen
  have hrg : Rg q (everyPth q.z left) := Rg.of_get fun i _ => by rw [everyPth_getD]; exact hc.1.get _
  have hlp := len_pos ne
  have hL : (everyPth q.z left).length = (left.length + q.n - 1) / q.n := by
    unfold everyPth; rw [hz]; simp
  have e2 : len (toP q (everyPth q.z left)) = (everyPth q.z left).length := by
    rw [hL, hlen, show q.n * (len (toP q (everyPth q.z left)) - 1) + 1 + q.n - 1 = q.n * (len (toP q (everyPth q.z left)) - 1) + q.n by omega]
    rw [Nat.mul_add_div (by omega), Nat.div_self (by omega)]; omega
  have hc2 := last_of_len hrg e2
  have hm2 : Mon (toP q (everyPth q.z left)) := by
    have := lead_pow ne q.n
    rw [← e, (isFp q).fer] at this
    unfold Mon
    rw [← this]; exact hm
  refine ⟨hc2, hm2, ?_, e⟩
  rw [← e2]
  have : 2 * (len (toP q (everyPth q.z left)) - 1) ≤ q.n * (len (toP q (everyPth q.z left)) - 1) := Nat.mul_le_mul_right _ hq
  omega
theorem simple_ok {left : LI} (hc : IsC q left) (hm : Mon (toP q left)) (hs : slope q.z left ≠ []) :
    Part q (divided q.z left (common q.z left (slope q.z left))).1 ∧ SqF (toP q (divided q.z left (common q.z left (slope q.z left))).1) ∧
      Dv (toP q (divided q.z left (common q.z left (slope q.z left))).1) (toP q left) ∧ IsC q (common q.z left (slope q.z left)) ∧ common q.z left (slope q.z left) ≠ [] := by
  obtain ⟨s1, s2⟩ := toP_slope (q := q) left
  have hne : left ≠ [] := fun e => hm.ne (hc.zero_iff.mpr e)
  obtain ⟨c1, c2⟩ := common_ok hc s2 (.inl hne)
  generalize hg : common q.z left (slope q.z left) = g at *
  have gne : g ≠ [] := fun e => c2.1.ne (c1.zero_iff.mpr e)
  obtain ⟨x, ex⟩ := c2.2.1
  obtain ⟨d1, d2⟩ := divided_dv c1 gne hc.1 ex
  obtain ⟨p1, -, -, -⟩ := divided_ok c1 gne hc.1
  have ms : Mon (toP q (divided q.z left g).1) := by
    rw [d2]
    exact c2.1.right (by rw [← ex]; exact hm)
  have hdne : deriv (toP q left) ≠ 0 := fun z => hs (s2.zero_iff.mp (s1.trans z))
  have l1 : len (toP q g) ≤ len (toP q left) - 1 := by
    have a := (c2.2.2.1.len (by rw [s1]; exact hdne)).1
    rw [s1] at a
    exact Nat.le_trans a (deriv_len _)
  have l2 : len (toP q left) = len (toP q g) + len (toP q (divided q.z left g).1) - 1 := by
    rw [d2] at ms
    rw [ex, d2, len_mul c2.1.pos ms.pos]
  have := hm.pos
  have := c2.1.pos
  refine ⟨⟨p1, ms, by rw [← p1.len]; omega⟩, ?_, ⟨toP q g, by rw [d2, ex]; grind⟩, c1, gne⟩
  rw [d2]
  exact sqf_of hm.ne ex (by rw [← s1]; exact c2)
theorem rawF_ok : ∀ (n : Nat) (left : LI) (sc : Nat) (found : Dic), left.length ≤ n → IsC q left → Mon (toP q left) → GoodD q found → 1 ≤ sc →
    GoodD q (rawF q.z n left (sc : Int) found) ∧ prodD q (rawF q.z n left (sc : Int) found) = prodD q found * toP q left ^ sc
  | 0, left, sc, found, hl, hc, hm, _, _ => absurd (hc.zero_iff.mpr (List.length_eq_zero_iff.mp (Nat.le_zero.mp hl))) hm.ne
  | n + 1, left, sc, found, hl, hc, hm, hg, hsc => by
    unfold rawF
    by_cases h1 : 1 < left.length
    · rw [if_pos h1]
      by_cases hs : slope q.z left = []
      · rw [if_pos hs]
        obtain ⟨e1, e2, e3, e4⟩ := everyPth_ok hc hm h1 hs
        have hq := q.two
        have := rawF_ok n (everyPth q.z left) (sc * q.n) found (by omega) e1 e2 hg (Nat.le_trans hsc (Nat.le_mul_of_pos_right _ (by omega)))
        rw [Int.natCast_mul] at this
        refine ⟨this.1, this.2.trans ?_⟩
        rw [e4, ← pow_mul', Nat.mul_comm]
      · rw [if_neg hs]
        obtain ⟨p1, p2, p3, -, -⟩ := simple_ok hc hm hs
        obtain ⟨f1, f2⟩ := simpleFactors_ok p1 p2
        simp only
        generalize hL : simpleFactors q.z (divided q.z left (common q.z left (slope q.z left))).1 = L at *
        generalize hS : (divided q.z left (common q.z left (slope q.z left))).1 = simple at *
        have nd : (L.map (toP q)).Nodup := SqF.nodup (by rw [f1.prod]; exact p2) fun x hx => by
          obtain ⟨l, hl, rfl⟩ := List.mem_map.mp hx
          rw [(f1.part l hl).1.len]; exact (f1.part l hl).2.2
        have hLne : L ≠ [] := fun e => by
          have := f1.prod
          rw [e] at this
          have h3 : len (toP q simple) = 1 := by rw [← this]; exact len_one
          rw [p1.1.len] at h3
          have := p1.2.2
          omega
        obtain ⟨t1, t2, t3, t4, t5, t6⟩ := takeAll_ok hsc L left found (fun l hl => ⟨f1.part l hl, f2 l hl⟩) nd hc hm hg fun l hl => (f1.dv hl).trans p3
        have := t6 hLne
        obtain ⟨r1, r2⟩ := rawF_ok n _ sc _ (by omega) t1 t2 t3 hsc
        exact ⟨r1, r2.trans t4⟩
    · rw [if_neg h1]
      refine ⟨hg, ?_⟩
      rw [hm.eq_one (by rw [hc.len]; omega), one_pow']; grind
theorem rawDic_ok {poly : LI} (h : IsC q poly) (hne : poly ≠ []) : GoodD q (rawDic q.z poly) ∧ prodD q (rawDic q.z poly) = toP q (monic q.z poly) := by
  obtain ⟨m1, m2, m3⟩ := monic_ok h hne
  have := rawF_ok poly.length (monic q.z poly) 1 [] (by omega) m1 m2 GoodD.nil (Nat.le_refl _)
  refine ⟨this.1, this.2.trans ?_⟩
  show 1 * toP q (monic q.z poly) ^ 1 = _
  rw [Semiring.pow_succ, Semiring.pow_zero]; grind

/-! ### the order -/
theorem ltL_irrefl : ∀ l : LI, ltL l l = false
  | [] => rfl
  | a :: l => by unfold ltL; rw [if_pos rfl]; exact ltL_irrefl l
theorem ltL_trans : ∀ a b c : LI, ltL a b = true → ltL b c = true → ltL a c = true
  | [], [], _, h, _ => by simp [ltL] at h
  | [], _ :: _, [], _, h => by simp [ltL] at h
  | [], _ :: _, _ :: _, _, _ => rfl
  | _ :: _, [], _, h, _ => by simp [ltL] at h
  | _ :: _, _ :: _, [], _, h => by simp [ltL] at h
  | a :: l, b :: m, c :: n, h1, h2 => by
    unfold ltL at h1 h2 ⊢
    by_cases e1 : a = b
    · rw [if_pos e1] at h1
      by_cases e2 : b = c
      · rw [if_pos e2] at h2
        rw [if_pos (e1.trans e2)]; exact ltL_trans l m n h1 h2
      · rw [if_neg e2] at h2
        rw [if_neg (by rw [e1]; exact e2), e1]; exact h2
    · rw [if_neg e1] at h1
      have h1 := _root_.of_decide_eq_true h1
      by_cases e2 : b = c
      · rw [if_neg (by omega)]; exact decide_eq_true (by omega)
      · rw [if_neg e2] at h2
        have h2 := _root_.of_decide_eq_true h2
        rw [if_neg (by omega)]; exact decide_eq_true (by omega)
theorem ltL_total : ∀ a b : LI, a = b ∨ ltL a b = true ∨ ltL b a = true
  | [], [] => .inl rfl
  | [], _ :: _ => .inr (.inl rfl)
  | _ :: _, [] => .inr (.inr rfl)
  | a :: l, b :: m => by
    unfold ltL
    by_cases e : a = b
    · rw [if_pos e, if_pos e.symm, e]
      rcases ltL_total l m with h | h | h
      · exact .inl (by rw [h])
      · exact .inr (.inl h)
      · exact .inr (.inr h)
    · rw [if_neg e, if_neg (Ne.symm e)]
      right
      by_cases h : a < b
      · exact .inl (decide_eq_true h)
      · exact .inr (decide_eq_true (by omega))
theorem ltL_asymm {a b : LI} (h : ltL a b = true) : ltL b a = false := by
  cases e : ltL b a with
  | false => rfl
  | true =>
    have := ltL_trans a b a h e
    rw [ltL_irrefl] at this
    cases this
theorem leP_total (x y : LI × Int) : (leP x y || leP y x) = true := by
  unfold leP
  rcases ltL_total x.1 y.1 with h | h | h
  · rw [if_pos h, if_pos h.symm]
    by_cases z : x.2 ≤ y.2
    · rw [decide_eq_true z]; rfl
    · rw [decide_eq_true (show y.2 ≤ x.2 by omega), Bool.or_true]
  · have ne : ¬ x.1 = y.1 := fun e => by rw [e, ltL_irrefl] at h; cases h
    rw [if_neg ne, h]; rfl
  · have ne : ¬ y.1 = x.1 := fun e => by rw [e, ltL_irrefl] at h; cases h
    rw [if_neg ne, h, Bool.or_true]
theorem leP_trans (x y z : LI × Int) (h1 : leP x y = true) (h2 : leP y z = true) : leP x z = true := by
  unfold leP at h1 h2 ⊢
  by_cases e1 : x.1 = y.1
  · rw [if_pos e1] at h1
    by_cases e2 : y.1 = z.1
    · rw [if_pos e2] at h2
      rw [if_pos (e1.trans e2)]
      have h1 := _root_.of_decide_eq_true h1
      have h2 := _root_.of_decide_eq_true h2
      exact decide_eq_true (by omega)
    · rw [if_neg e2] at h2
      rw [if_neg (by rw [e1]; exact e2), e1]; exact h2
  · rw [if_neg e1] at h1
    by_cases e2 : y.1 = z.1
    · rw [if_neg (by rw [← e2]; exact e1), ← e2]; exact h1
    · rw [if_neg e2] at h2
      have h3 := ltL_trans _ _ _ h1 h2
      have ne : ¬ x.1 = z.1 := fun e => by rw [e, ltL_irrefl] at h3; cases h3
      rw [if_neg ne]; exact h3
/-- keys rising -/
def SrtD (d : Dic) : Prop := d.Pairwise fun x y => ltL x.1 y.1 = true
theorem sort_srt {d : Dic} (h : (d.map (·.1)).Nodup) : SrtD (d.mergeSort leP) := by
  have hs := List.pairwise_mergeSort (le := leP) leP_trans leP_total d
  have hp := List.mergeSort_perm d leP
  have nd : ((d.mergeSort leP).map (·.1)).Nodup := (hp.map (·.1)).nodup_iff.mpr h
  have nd' : (d.mergeSort leP).Pairwise fun x y => x.1 ≠ y.1 := List.pairwise_map.mp nd
  exact (hs.and nd').imp fun {x y} hxy => by
    obtain ⟨h1, h2⟩ := hxy
    unfold leP at h1
    rw [if_neg h2] at h1
    exact h1
theorem prodD_perm {a b : Dic} (h : a.Perm b) : prodD q a = prodD q b := by
  induction h with
  | nil => rfl
  | cons x _ ih => show _ * prodD q _ = _ * prodD q _; rw [ih]
  | swap x y l => show _ * (_ * prodD q l) = _ * (_ * prodD q l); grind
  | trans _ _ h1 h2 => exact h1.trans h2
theorem GoodD.perm {a b : Dic} (h : GoodD q a) (p : a.Perm b) : GoodD q b := ⟨fun x hx => h.1 x (p.mem_iff.mpr hx), (p.map (·.1)).nodup_iff.mp h.2⟩
theorem srt_uniq : ∀ {a b : Dic}, SrtD a → SrtD b → (∀ x, x ∈ a ↔ x ∈ b) → a = b
  | [], [], _, _, _ => rfl
  | [], y :: b, _, _, h => by have := (h y).mpr (by simp); cases this
  | x :: a, [], _, _, h => by have := (h x).mp (by simp); cases this
  | x :: a, y :: b, ha, hb, h => by
    obtain ⟨a1, a2⟩ := List.pairwise_cons.mp ha
    obtain ⟨b1, b2⟩ := List.pairwise_cons.mp hb
    have e : x = y := by
      rcases List.mem_cons.mp ((h x).mp (by simp)) with e | hx
      · exact e
      · rcases List.mem_cons.mp ((h y).mpr (by simp)) with e | hy
        · exact e.symm
        · have := ltL_asymm (a1 y hy)
          rw [b1 x hx] at this
          cases this
    subst e
    rw [srt_uniq a2 b2 fun z => ?_]
    constructor
    · intro hz
      rcases List.mem_cons.mp ((h z).mp (by simp [hz])) with e | e
      · have := a1 z hz
        rw [e, ltL_irrefl] at this
        cases this
      · exact e
    · intro hz
      rcases List.mem_cons.mp ((h z).mpr (by simp [hz])) with e | e
      · have := b1 z hz
        rw [e, ltL_irrefl] at this
        cases this
      · exact e
/-- a list of factors, told by its product -/
def toL (q : P6) (d : Dic) : List (Poly (Fq q) × Nat) := d.map fun x => (toP q x.1, x.2.toNat)
theorem prodL_toL : ∀ d : Dic, prodL (toL q d) = prodD q d
  | [] => rfl
  | x :: d => by
    show toP q x.1 ^ x.2.toNat * prodL (toL q d) = toP q x.1 ^ x.2.toNat * prodD q d
    rw [prodL_toL d]
theorem goodL_toL {d : Dic} (h : GoodD q d) : GoodL (toL q d) := by
  refine ⟨fun x hx => ?_, ?_⟩
  · obtain ⟨y, hy, rfl⟩ := List.mem_map.mp hx
    obtain ⟨h1, h2, h3, h4⟩ := h.1 y hy
    exact ⟨h2, h3, by show 1 ≤ y.2.toNat; omega⟩
  · unfold toL
    rw [List.map_map]
    have nd : d.Pairwise fun x y => x.1 ≠ y.1 := List.pairwise_map.mp h.2
    refine List.pairwise_map.mpr ((List.Pairwise.and_mem.mp nd).imp fun {x y} hxy => ?_)
    obtain ⟨hx, hy, hne⟩ := hxy
    intro e
    exact hne ((h.1 x hx).1.inj (h.1 y hy).1 e)
theorem mem_toL {d : Dic} (h : GoodD q d) {x : LI × Int} (hc : IsC q x.1) (h1 : 1 ≤ x.2) : (toP q x.1, x.2.toNat) ∈ toL q d ↔ x ∈ d := by
  constructor
  · intro m
    obtain ⟨y, hy, e⟩ := List.mem_map.mp m
    obtain ⟨c, _, _, y1⟩ := h.1 y hy
    have e1 : y.1 = x.1 := c.inj hc (Prod.ext_iff.mp e).1
    have e2 : y.2.toNat = x.2.toNat := (Prod.ext_iff.mp e).2
    have e3 : y.2 = x.2 := by omega
    rw [show x = y from Prod.ext e1.symm e3.symm]; exact hy
  · intro m
    exact List.mem_map.mpr ⟨x, m, rfl⟩
theorem factors_uniq {a b : Dic} (ga : GoodD q a) (gb : GoodD q b) (sa : SrtD a) (sb : SrtD b) (e : prodD q a = prodD q b) : a = b := by
  have one : ∀ {a b : Dic}, GoodD q a → GoodD q b → prodD q a = prodD q b → ∀ x, x ∈ a → x ∈ b := fun {a b} ga gb e x hx => by
    obtain ⟨c, _, _, h1⟩ := ga.1 x hx
    have m := (mem_toL ga c h1).mpr hx
    rw [mem_prodL (goodL_toL ga), prodL_toL, e, ← prodL_toL, ← mem_prodL (goodL_toL gb)] at m
    exact (mem_toL gb c h1).mp m
  exact srt_uniq sa sb fun x => ⟨one ga gb e x, one gb ga e.symm x⟩
theorem rawFactors_ok {poly : LI} (h : IsC q poly) (hne : poly ≠ []) : GoodD q (rawFactors q.z poly) ∧ SrtD (rawFactors q.z poly) ∧ prodD q (rawFactors q.z poly) = toP q (monic q.z poly) := by
  obtain ⟨g, e⟩ := rawDic_ok h hne
  have hp := List.mergeSort_perm (rawDic q.z poly) leP
  exact ⟨g.perm hp.symm, sort_srt g.2, (prodD_perm hp).trans e⟩
end
end Mw
end
section
set_option autoImplicit false
set_option linter.unusedSectionVars false
set_option linter.unusedVariables false
/-! The law's own functions over lists. -/
namespace Mw
open Lean.Grind
def lawProduct (p : Int) (one other : LI) : LI := if one = [] ∨ other = [] then [] else trim (mulRows p one other one.length (List.replicate (one.length + other.length - 1) 0))
def lawLeftF (p : Int) (m : LI) : Nat → LI → LI
  | 0, found => trim found
  | n + 1, found => if m.length ≤ found.length then lawLeftF p m n ((subRow p (found.length - m.length) (lastI found) m m.length found).dropLast) else trim found
def lawLeft (p : Int) (poly m : LI) : LI := lawLeftF p m poly.length poly
def monicsF (p : Int) : Nat → List LI
  | 0 => [[]]
  | d + 1 => (monicsF p d).flatMap fun s => (List.range p.toNat).map fun (w : Nat) => s ++ [(w : Int)]
def lawMonics (p : Int) (d : Nat) : List LI := (monicsF p d).map fun s => s ++ [1]
def leL (a b : LI) : Bool := if a = b then true else ltL a b
def addDic (d : Dic) (x : LI × Int) : Dic := putDic d x.1 (getDic d x.1 + x.2)
def together (a b : Dic) : Dic :=
  let d := (a ++ b).foldl addDic []
  ((d.map (·.1)).mergeSort leL).map fun k => (k, getDic d k)
section
variable {q : P6}
theorem lawProduct_ok {one other : LI} (h1 : IsC q one) (h2 : IsC q other) : IsC q (lawProduct q.z one other) ∧ toP q (lawProduct q.z one other) = toP q one * toP q other := by
  unfold lawProduct
  by_cases z : one = [] ∨ other = []
  · rw [if_pos z]
    refine ⟨IsC.nil, ?_⟩
    rcases z with z | z <;> rw [z, toP_nil] <;> grind
  · rw [if_neg z]
    have hl : 0 < other.length := List.length_pos_iff.mpr fun e => z (.inr e)
    refine ⟨trim_C (mulRows_rg (Rg.rep _) _), ?_⟩
    rw [toP_trim, toP_mulRows _ (by rw [List.length_replicate]; omega), toP_rep, List.take_length]; grind
theorem product_eq {one other : LI} (h1 : IsC q one) (h2 : IsC q other) : rawProduct q.z one other = lawProduct q.z one other :=
  (rawProduct_C one other).inj (lawProduct_ok h1 h2).1 ((toP_rawProduct one other).trans (lawProduct_ok h1 h2).2.symm)
theorem product_comm {one other : LI} : rawProduct q.z one other = rawProduct q.z other one :=
  (rawProduct_C one other).inj (rawProduct_C other one) (by rw [toP_rawProduct, toP_rawProduct]; grind)
theorem isC_one (q : P6) : IsC q [1] := ⟨fun x hx => by rw [List.mem_singleton.mp hx]; have := q.z2; omega, fun _ => by decide⟩
theorem product_one {one : LI} (h : IsC q one) : rawProduct q.z one [1] = one :=
  (rawProduct_C one [1]).inj h (by rw [toP_rawProduct, toP_const, cf_one, C_one]; grind)
theorem product_nil (one : LI) : rawProduct q.z [] one = [] :=
  (rawProduct_C [] one).inj IsC.nil (by rw [toP_rawProduct, toP_nil]; grind)
theorem product_ne {one other : LI} (h1 : IsC q one) (h2 : IsC q other) : rawProduct q.z one other ≠ [] ↔ one ≠ [] ∧ other ≠ [] := by
  constructor
  · intro h
    constructor
    · intro e; rw [e, product_nil] at h; exact h rfl
    · intro e; rw [e, product_comm, product_nil] at h; exact h rfl
  · rintro ⟨a, b⟩ e
    have := (rawProduct_C one other).zero_iff.mpr e
    rw [toP_rawProduct] at this
    rcases mul_zero_of this with z | z
    · exact a (h1.zero_iff.mp z)
    · exact b (h2.zero_iff.mp z)

/-! ### the rest by a monic one -/
theorem dropLast_getD (l : LI) (i : Nat) : l.dropLast.getD i 0 = if i < l.length - 1 then l.getD i 0 else 0 := by
  rw [List.getD_eq_getElem?_getD, List.getElem?_dropLast]
  split
  · rw [List.getD_eq_getElem?_getD]
  · rfl
theorem lawLeftF_ok {m : LI} (hm : Rg q m) (hl : 0 < m.length) (h1 : lastI m = 1) : ∀ (n : Nat) (found : LI), Rg q found → found.length ≤ n →
    IsC q (lawLeftF q.z m n found) ∧ Dv (toP q m) (toP q found - toP q (lawLeftF q.z m n found))
  | 0, found, hf, h => ⟨trim_C hf, by show Dv _ (_ - toP q (trim found)); rw [toP_trim]; exact ⟨0, by grind⟩⟩
  | n + 1, found, hf, h => by
    unfold lawLeftF
    by_cases z : m.length ≤ found.length
    · rw [if_pos z]
      generalize hs : subRow q.z (found.length - m.length) (lastI found) m m.length found = s
      have es : toP q s = toP q found - Poly.mono (cf q (lastI found)) (found.length - m.length) * toP q m := by rw [← hs]; exact toP_subRow (by omega)
      have rs : Rg q s := by rw [← hs]; exact subRow_rg hf _
      have ls : s.length = found.length := by rw [← hs]; exact subRow_len _ _ _ _ _ _
      have top : cf q (s.getD (found.length - 1) 0) = 0 := by
        rw [← hs, subRow_c _ _ (by omega), if_pos (by omega), show found.length - 1 - (found.length - m.length) = m.length - 1 by omega]
        show cf q (lastI found) - cf q (lastI found) * cf q (lastI m) = 0
        rw [h1, cf_one]; grind
      have ed : toP q s.dropLast = toP q s := Poly.ext fun i => by
        rw [toP_c, toP_c, dropLast_getD]
        split
        · rfl
        · by_cases e : i = found.length - 1
          · rw [e, top, cf_zero]
          · rw [getD_ge (l := s) (by omega)]
      have rd : Rg q s.dropLast := fun x hx => rs x (List.dropLast_subset s hx)
      obtain ⟨a, b⟩ := lawLeftF_ok hm hl h1 n s.dropLast rd (by rw [List.length_dropLast]; omega)
      refine ⟨a, ?_⟩
      rw [ed, es] at b
      rw [show toP q found - toP q (lawLeftF q.z m n s.dropLast) = (toP q found - Poly.mono (cf q (lastI found)) (found.length - m.length) * toP q m - toP q (lawLeftF q.z m n s.dropLast)) + Poly.mono (cf q (lastI found)) (found.length - m.length) * toP q m by grind]
      exact b.add ((Dv.refl _).mul' _)
    · rw [if_neg z]
      exact ⟨trim_C hf, by rw [toP_trim]; exact ⟨0, by grind⟩⟩
theorem monicsF_ok : ∀ (d : Nat) (s : LI), s ∈ monicsF q.z d → s.length = d ∧ Rg q s
  | 0, s, h => by
    have : s ∈ [([] : LI)] := h
    rw [List.mem_singleton.mp this]
    exact ⟨rfl, Rg.nil⟩
  | d + 1, s, h => by
    obtain ⟨t, ht, h⟩ := List.mem_flatMap.mp h
    obtain ⟨w, hw, rfl⟩ := List.mem_map.mp h
    obtain ⟨a, b⟩ := monicsF_ok d t ht
    have hw := List.mem_range.mp hw
    refine ⟨by rw [List.length_append, a]; rfl, b.append fun x hx => ?_⟩
    rw [List.mem_singleton.mp hx]
    have hz : q.z.toNat = q.n := by show ((q.n : Int)).toNat = _; omega
    rw [hz] at hw
    show 0 ≤ (w : Int) ∧ (w : Int) < (q.n : Int)
    omega
theorem monics_ok {d : Nat} {m : LI} (h : m ∈ lawMonics q.z d) : m.length = d + 1 ∧ Rg q m ∧ lastI m = 1 := by
  obtain ⟨s, hs, rfl⟩ := List.mem_map.mp h
  obtain ⟨a, b⟩ := monicsF_ok d s hs
  refine ⟨by rw [List.length_append, a]; rfl, b.append (isC_one q).1, ?_⟩
  unfold lastI
  rw [List.length_append, List.getD_eq_getElem?_getD, List.getElem?_append_right (by simp)]
  simp
/-- no monic divisor of degree from 1 to half its own -/
theorem prime_left {l : LI} (hc : IsC q l) (hi : Irr (toP q l)) {d : Nat} (h1 : 1 ≤ d) (h2 : d ≤ (l.length - 1) / 2) {m : LI} (hm : m ∈ lawMonics q.z d) : lawLeft q.z l m ≠ [] := fun e => by
  obtain ⟨a, b, c⟩ := monics_ok hm
  obtain ⟨x, y⟩ := lawLeftF_ok b (by omega) c l.length l hc.1 (Nat.le_refl _)
  have e' : lawLeftF q.z m l.length l = [] := e
  rw [e', toP_nil] at y
  obtain ⟨t, et⟩ := y
  have et : toP q l = toP q m * t := by rw [← et]; grind
  have cm : IsC q m := ⟨b, fun _ => by rw [c]; decide⟩
  have hll := hi.1
  rw [hc.len] at hll
  have lm := cm.len
  have tne : t ≠ 0 := fun z => hi.ne (by rw [et, z]; grind)
  have hlen : len (toP q l) = len (toP q m) + len t - 1 := by rw [et, len_mul (by rw [lm]; omega) (len_pos tne)]
  rw [hc.len, lm, a] at hlen
  rcases hi.2 _ _ et with z | z
  · rw [lm] at z; omega
  · omega

/-! ### together -/
theorem foldl_addDic_ok : ∀ (b d : Dic), GoodD q b → GoodD q d → GoodD q (b.foldl addDic d) ∧ prodD q (b.foldl addDic d) = prodD q d * prodD q b
  | [], d, _, hd => ⟨hd, by show prodD q d = _ * 1; grind⟩
  | x :: b, d, hb, hd => by
    obtain ⟨x1, x2, x3, x4⟩ := hb.1 x (by simp)
    obtain ⟨g1, g2⟩ := putDic_ok ⟨x1, x2, x3⟩ x4 hd
    obtain ⟨r1, r2⟩ := foldl_addDic_ok b (putDic d x.1 (getDic d x.1 + x.2)) hb.tail g1
    refine ⟨r1, r2.trans ?_⟩
    rw [g2]
    show _ = prodD q d * (toP q x.1 ^ x.2.toNat * prodD q b)
    grind
theorem map_getDic {d : Dic} (h : (d.map (·.1)).Nodup) : (d.map (·.1)).map (fun k => (k, getDic d k)) = d := by
  rw [List.map_map]
  have : ∀ x, x ∈ d → ((fun k => (k, getDic d k)) ∘ fun x : LI × Int => x.1) x = x := fun x hx => by
    show (x.1, getDic d x.1) = x
    rw [getDic_mem h (show (x.1, x.2) ∈ d from hx)]
  calc _ = d.map id := List.map_congr_left this
    _ = d := List.map_id d
theorem leL_total (a b : LI) : (leL a b || leL b a) = true := by
  unfold leL
  rcases ltL_total a b with h | h | h
  · rw [if_pos h]; rfl
  · by_cases e : a = b
    · rw [if_pos e]; rfl
    · rw [if_neg e, h]; rfl
  · by_cases e : b = a
    · rw [if_pos e, Bool.or_true]
    · rw [if_neg e, h, Bool.or_true]
theorem leL_trans (a b c : LI) (h1 : leL a b = true) (h2 : leL b c = true) : leL a c = true := by
  unfold leL at h1 h2 ⊢
  by_cases e1 : a = b
  · rw [e1]; exact h2
  · rw [if_neg e1] at h1
    by_cases e2 : b = c
    · rw [← e2, if_neg e1]; exact h1
    · rw [if_neg e2] at h2
      have := ltL_trans _ _ _ h1 h2
      split
      · rfl
      · exact this
theorem together_ok {a b : Dic} (ga : GoodD q a) (gb : GoodD q b) : GoodD q (together a b) ∧ SrtD (together a b) ∧ prodD q (together a b) = prodD q a * prodD q b := by
  unfold together
  simp only
  have hfold : GoodD q ((a ++ b).foldl addDic []) ∧ prodD q ((a ++ b).foldl addDic []) = prodD q a * prodD q b := by
    rw [List.foldl_append]
    obtain ⟨r1, r2⟩ := foldl_addDic_ok a [] ga GoodD.nil
    obtain ⟨s1, s2⟩ := foldl_addDic_ok b _ gb r1
    refine ⟨s1, s2.trans ?_⟩
    rw [r2]
    show 1 * _ * _ = _
    grind
  generalize (a ++ b).foldl addDic [] = d at hfold
  obtain ⟨gd, ed⟩ := hfold
  have hp := (List.mergeSort_perm (d.map (·.1)) leL).map fun k => (k, getDic d k)
  rw [map_getDic gd.2] at hp
  refine ⟨gd.perm hp.symm, ?_, (prodD_perm hp).trans ed⟩
  have hs := List.pairwise_mergeSort (le := leL) leL_trans leL_total (d.map (·.1))
  have nd : ((d.map (·.1)).mergeSort leL).Nodup := (List.mergeSort_perm (d.map (·.1)) leL).nodup_iff.mpr gd.2
  refine List.pairwise_map.mpr ((hs.and nd).imp fun {x y} hxy => ?_)
  obtain ⟨h1, h2⟩ := hxy
  unfold leL at h1
  rw [if_neg h2] at h1
  exact h1
theorem mon_same {a b : Fq q} {f : Poly (Fq q)} (h1 : Mon (Poly.C a * f)) (h2 : Mon (Poly.C b * f)) : Poly.C a * f = Poly.C b * f := by
  have hf : f ≠ 0 := fun e => h1.ne (by rw [e]; grind)
  have ha : a ≠ 0 := fun e => h1.ne (by rw [e, C_zero]; grind)
  have hb : b ≠ 0 := fun e => h2.ne (by rw [e, C_zero]; grind)
  have lC : ∀ c : Fq q, c ≠ 0 → lead (Poly.C c) = c := fun c hc => by unfold lead; rw [len_C hc]; rfl
  unfold Mon at h1 h2
  rw [lead_mul (by rw [len_C ha]; omega) (len_pos hf), lC a ha] at h1
  rw [lead_mul (by rw [len_C hb]; omega) (len_pos hf), lC b hb] at h2
  obtain ⟨c, hc⟩ := Fld.inv _ (lead_ne (len_pos hf))
  have : a = b := by
    have e1 : a = a * (lead f * c) := by rw [hc]; grind
    have e2 : b = b * (lead f * c) := by rw [hc]; grind
    grind
  rw [this]
theorem factors_product {f g h : LI} (hf : IsC q f) (hg : IsC q g) (hh : IsC q h) (nf : f ≠ []) (ng : g ≠ []) (nh : h ≠ []) (e : toP q h = toP q f * toP q g) :
    rawFactors q.z h = together (rawFactors q.z f) (rawFactors q.z g) := by
  obtain ⟨f1, f2, f3⟩ := rawFactors_ok hf nf
  obtain ⟨g1, g2, g3⟩ := rawFactors_ok hg ng
  obtain ⟨h1, h2, h3⟩ := rawFactors_ok hh nh
  obtain ⟨t1, t2, t3⟩ := together_ok f1 g1
  refine factors_uniq h1 t1 h2 t2 ?_
  rw [h3, t3, f3, g3]
  have m1 := (monic_ok hh nh).2.1
  have m2 := (monic_ok hf nf).2.1.mul (monic_ok hg ng).2.1
  rw [toP_monic] at m1 ⊢
  rw [toP_monic, toP_monic] at m2 ⊢
  rw [show Poly.C (cf q (invOf q.z (lastI f))) * toP q f * (Poly.C (cf q (invOf q.z (lastI g))) * toP q g) = Poly.C (cf q (invOf q.z (lastI f)) * cf q (invOf q.z (lastI g))) * toP q h by rw [C_mul, e]; grind] at m2 ⊢
  exact mon_same m1 m2
theorem factors_scaled {f h : LI} (hf : IsC q f) (hh : IsC q h) (nf : f ≠ []) (nh : h ≠ []) {c : Fq q} (e : toP q h = toP q f * Poly.C c) : rawFactors q.z h = rawFactors q.z f := by
  obtain ⟨f1, f2, f3⟩ := rawFactors_ok hf nf
  obtain ⟨h1, h2, h3⟩ := rawFactors_ok hh nh
  refine factors_uniq h1 f1 h2 f2 ?_
  rw [h3, f3]
  have m1 := (monic_ok hh nh).2.1
  have m2 := (monic_ok hf nf).2.1
  rw [toP_monic] at m1 m2 ⊢
  rw [toP_monic]
  rw [show Poly.C (cf q (invOf q.z (lastI h))) * toP q h = Poly.C (cf q (invOf q.z (lastI h)) * c) * toP q f by rw [C_mul, e]; grind] at m1 ⊢
  exact mon_same m1 m2
/-- the product of what is told, times the last worth -/
theorem told_product {f : LI} (hf : IsC q f) (nf : f ≠ []) : Poly.C (cf q (lastI f)) * prodD q (rawFactors q.z f) = toP q f := by
  rw [(rawFactors_ok hf nf).2.2, toP_monic]
  have e := hf.inv nf
  rw [hf.lead_eq] at e
  rw [show Poly.C (cf q (lastI f)) * (Poly.C (cf q (invOf q.z (lastI f))) * toP q f) = Poly.C (cf q (lastI f)) * Poly.C (cf q (invOf q.z (lastI f))) * toP q f by grind, ← C_mul, e, C_one]; grind
end
end Mw
end
section
set_option Elab.async false
set_option linter.all false
set_option maxRecDepth 100000
set_option maxHeartbeats 2000000
/-! A layer over the hand layer: values told as data made of ints, bools and tuples; lists of such that a def owns. -/
namespace Wk
open PySem L2 Evl

abbrev PD := PyData
mutual
/-- a value that is data: ints, bools, None, tuples of such (which never change) -/
inductive Tp (H : Hp) : V → PD → Prop
  | int (i : Int) : Tp H (.int i) (.int i)
  | bl (b : Bool) : Tp H (.bl b) (.bool b)
  | non : Tp H .non .none
  | tup {a : Addr} {xs : List V} {ds : List PD} : H a = some (.tup xs) → TpL H xs ds → Tp H (.ref a) (.tuple ds)
inductive TpL (H : Hp) : List V → List PD → Prop
  | nil : TpL H [] []
  | cons {v : V} {vs : List V} {d : PD} {ds : List PD} : Tp H v d → TpL H vs ds → TpL H (v :: vs) (d :: ds)
end
/-- tuples stay -/
def TE' (H H' : Hp) : Prop := ∀ b xs, H b = some (.tup xs) → H' b = some (.tup xs)
theorem TE'.refl (H : Hp) : TE' H H := fun _ _ h => h
theorem TE'.trans {H H1 H2 : Hp} (a : TE' H H1) (b : TE' H1 H2) : TE' H H2 := fun x xs h => b x xs (a x xs h)
theorem te_ex {H H' : Hp} (e : Ex H H') : TE' H H' := fun b xs h => e b _ h
theorem te_lst {H : Hp} {a : Addr} {xs : List V} {o : HO} (h : H a = some (.lst xs)) : TE' H (upd H a o) := fun b ys hb => by
  by_cases e : b = a
  · rw [e, h] at hb; cases hb
  · rw [upd_ne e]; exact hb
section
variable {H H' : Hp}
mutual
theorem Tp.mono (e : TE' H H') : ∀ (d : PD) (v : V), Tp H v d → Tp H' v d
  | .none, _, h => by cases h; exact .non
  | .bool b, _, h => by cases h; exact .bl b
  | .int i, _, h => by cases h; exact .int i
  | .str x, _, h => by cases h
  | .list ds, _, h => by cases h
  | .tuple ds, _, h => by
    cases h with
    | tup h1 h2 => exact .tup (e _ _ h1) (TpL.mono e ds _ h2)
  | .dict _, _, h => by cases h
theorem TpL.mono (e : TE' H H') : ∀ (ds : List PD) (vs : List V), TpL H vs ds → TpL H' vs ds
  | [], _, h => by cases h; exact .nil
  | d :: ds, _, h => by
    cases h with
    | cons h1 h2 => exact .cons (Tp.mono e d _ h1) (TpL.mono e ds _ h2)
end
mutual
theorem Tp.dp (K : PySem.W.Frag) : ∀ (d : PD) (v : V), Tp H v d → Dp K H v d
  | .none, _, h => by cases h; exact .non
  | .bool b, _, h => by cases h; exact .bl b
  | .int i, _, h => by cases h; exact .int i
  | .str x, _, h => by cases h
  | .list ds, _, h => by cases h
  | .tuple ds, _, h => by
    cases h with
    | tup h1 h2 => exact .tup (.inl (.inl h1)) (TpL.dp K ds _ h2)
  | .dict _, _, h => by cases h
theorem TpL.dp (K : PySem.W.Frag) : ∀ (ds : List PD) (vs : List V), TpL H vs ds → DpAll K H vs ds
  | [], _, h => by cases h; exact .nil
  | d :: ds, _, h => by
    cases h with
    | cons h1 h2 => exact .cons (Tp.dp K d _ h1) (TpL.dp K ds _ h2)
end
theorem Tp.m {d : PD} {v : V} (h : Tp H v d) (e : TE' H H') : Tp H' v d := Tp.mono e d v h
theorem TpL.m {ds : List PD} {vs : List V} (h : TpL H vs ds) (e : TE' H H') : TpL H' vs ds := TpL.mono e ds vs h
theorem TpL.length : ∀ {vs : List V} {ds : List PD}, TpL H vs ds → vs.length = ds.length
  | _, _, .nil => rfl
  | _, _, .cons _ t => by rw [List.length_cons, List.length_cons, TpL.length t]
theorem TpL.get : ∀ {vs : List V} {ds : List PD} {i : Nat} {d : PD}, TpL H vs ds → ds[i]? = some d → ∃ v, vs[i]? = some v ∧ Tp H v d
  | _, _, _, _, .nil, e => by simp at e
  | _, _, 0, _, .cons r _, e => by simp at e; subst e; exact ⟨_, rfl, r⟩
  | _, _, i + 1, _, .cons _ t, e => by
    obtain ⟨v, h1, h2⟩ := TpL.get (i := i) t (by simpa using e)
    exact ⟨v, by simpa using h1, h2⟩
theorem TpL.get' : ∀ {vs : List V} {ds : List PD} {i : Nat} {v : V}, TpL H vs ds → vs[i]? = some v → ∃ d, ds[i]? = some d ∧ Tp H v d
  | _, _, _, _, .nil, e => by simp at e
  | _, _, 0, _, .cons r _, e => by simp at e; subst e; exact ⟨_, rfl, r⟩
  | _, _, i + 1, _, .cons _ t, e => by
    obtain ⟨d, h1, h2⟩ := TpL.get' (i := i) t (by simpa using e)
    exact ⟨d, by simpa using h1, h2⟩
theorem TpL.append : ∀ {vs ws : List V} {ds es : List PD}, TpL H vs ds → TpL H ws es → TpL H (vs ++ ws) (ds ++ es)
  | _, _, _, _, .nil, s => s
  | _, _, _, _, .cons r t, s => .cons r (TpL.append t s)
theorem TpL.take : ∀ {vs : List V} {ds : List PD} (n : Nat), TpL H vs ds → TpL H (vs.take n) (ds.take n)
  | _, _, 0, _ => .nil
  | _, _, _ + 1, .nil => .nil
  | _, _, n + 1, .cons r t => .cons r (TpL.take n t)
theorem TpL.drop : ∀ {vs : List V} {ds : List PD} (n : Nat), TpL H vs ds → TpL H (vs.drop n) (ds.drop n)
  | _, _, 0, r => r
  | _, _, _ + 1, .nil => .nil
  | _, _, n + 1, .cons _ t => TpL.drop n t
theorem TpL.set {v : V} {d : PD} (r : Tp H v d) : ∀ {vs : List V} {ds : List PD} (i : Nat), TpL H vs ds → TpL H (vs.set i v) (ds.set i d)
  | _, _, _, .nil => .nil
  | _, _, 0, .cons _ t => .cons r t
  | _, _, i + 1, .cons q t => .cons q (TpL.set r i t)
theorem TpL.erase : ∀ {vs : List V} {ds : List PD} (i : Nat), TpL H vs ds → TpL H (vs.eraseIdx i) (ds.eraseIdx i)
  | _, _, _, .nil => .nil
  | _, _, 0, .cons _ t => t
  | _, _, i + 1, .cons q t => .cons q (TpL.erase i t)
theorem TpL.dropLast {vs : List V} {ds : List PD} (h : TpL H vs ds) : TpL H vs.dropLast ds.dropLast := by
  rw [List.dropLast_eq_take, List.dropLast_eq_take, h.length]; exact h.take _
theorem TpL.ints : ∀ {vs : List V} {l : List Int}, TpL H vs (l.map .int) ↔ vs = l.map .int
  | [], [] => ⟨fun _ => rfl, fun _ => .nil⟩
  | [], i :: l => ⟨(fun h => nomatch h), (fun h => nomatch h)⟩
  | v :: vs, [] => ⟨(fun h => nomatch h), (fun h => nomatch h)⟩
  | v :: vs, i :: l => by
    constructor
    · intro h
      have h : TpL H (v :: vs) (.int i :: l.map .int) := h
      cases h with
      | cons h1 h2 =>
        cases h1
        rw [TpL.ints.mp h2]; rfl
    · intro h
      have h : v :: vs = V.int i :: l.map V.int := h
      injection h with h1 h2
      subst h1
      show TpL H _ (.int i :: l.map .int)
      exact .cons (.int i) (TpL.ints.mpr h2)
theorem TpL.bools : ∀ {vs : List V} {l : List Bool}, TpL H vs (l.map .bool) → vs = l.map .bl
  | [], [], _ => rfl
  | [], i :: l, h => by cases h
  | v :: vs, [], h => by cases h
  | v :: vs, i :: l, h => by
    have h : TpL H (v :: vs) (.bool i :: l.map .bool) := h
    cases h with
    | cons h1 h2 =>
      cases h1
      rw [TpL.bools h2]; rfl
theorem TpL.rep {v : V} {d : PD} (h : Tp H v d) : ∀ n, TpL H (List.replicate n v) (List.replicate n d)
  | 0 => .nil
  | n + 1 => .cons h (TpL.rep h n)
end
/-- a tuple of ints -/
abbrev dI (l : List Int) : PD := .tuple (l.map .int)

/-! ### what is known of a name -/
inductive Sl
  /-- nothing -/
  | u
  /-- data -/
  | d (x : PD)
  /-- this very object -/
  | r (a : Addr)
  /-- a list that stood at the entry, with these items -/
  | g (ds : List PD)
def Sl.ok (H0 H : Hp) : Sl → Option V → Prop
  | .u, _ => True
  | .d x, o => ∃ v, o = some v ∧ Tp H v x
  | .r a, o => o = some (.ref a)
  | .g ds, o => ∃ p xs, o = some (.ref p) ∧ H0 p = some (.lst xs) ∧ TpL H0 xs ds
theorem Sl.mono {H0 H H' : Hp} (e : TE' H H') : ∀ {s : Sl} {o : Option V}, s.ok H0 H o → s.ok H0 H' o
  | .u, _, _ => trivial
  | .d _, _, ⟨v, h1, h2⟩ => ⟨v, h1, h2.m e⟩
  | .r _, _, h => h
  | .g _, _, h => h
def SD (H0 H : Hp) : St → List Sl → Prop
  | [], [] => True
  | o :: σ, s :: sl => s.ok H0 H o ∧ SD H0 H σ sl
  | _, _ => False
theorem SD.mono {H0 H H' : Hp} (e : TE' H H') : ∀ {σ : St} {sl : List Sl}, SD H0 H σ sl → SD H0 H' σ sl
  | [], [], _ => trivial
  | _ :: _, _ :: _, ⟨a, b⟩ => ⟨Sl.mono e a, SD.mono e b⟩
theorem SD.get {H0 H : Hp} : ∀ {σ : St} {sl : List Sl} {i : Nat} {s : Sl}, SD H0 H σ sl → sl[i]? = some s → ∃ o, σ[i]? = some o ∧ s.ok H0 H o
  | [], [], _, _, _, e => by simp at e
  | o :: σ, t :: sl, 0, s, ⟨a, _⟩, e => by simp at e; subst e; exact ⟨o, rfl, a⟩
  | o :: σ, t :: sl, i + 1, s, ⟨_, b⟩, e => by
    obtain ⟨o', h1, h2⟩ := SD.get (i := i) b (by simpa using e)
    exact ⟨o', by simpa using h1, h2⟩
theorem SD.set {H0 H : Hp} {s : Sl} {o : Option V} (h : s.ok H0 H o) : ∀ {σ : St} {sl : List Sl} (i : Nat), SD H0 H σ sl → SD H0 H (σ.set i o) (sl.set i s)
  | [], [], _, _ => trivial
  | _ :: _, _ :: _, 0, ⟨_, b⟩ => ⟨h, b⟩
  | _ :: _, _ :: _, i + 1, ⟨a, b⟩ => ⟨a, SD.set h i b⟩
def wipeS (sl : List Sl) : List Nat → List Sl
  | [] => sl
  | v :: vs => (wipeS sl vs).set v .u
theorem SD.wipe {H0 H : Hp} {σ : St} {sl : List Sl} (h : SD H0 H σ sl) : ∀ vs, SD H0 H (L2.wipe σ vs) (wipeS sl vs)
  | [] => h
  | v :: vs => SD.set (s := .u) trivial v (SD.wipe h vs)
theorem SD.length {H0 H : Hp} : ∀ {σ : St} {sl : List Sl}, SD H0 H σ sl → σ.length = sl.length
  | [], [], _ => rfl
  | _ :: _, _ :: _, ⟨_, b⟩ => by rw [List.length_cons, List.length_cons, SD.length b]

/-- what stands at an address that the def owns -/
inductive Ob
  | lst (ds : List PD)
  | raw (o : HO)
def Ob.ok (H : Hp) (a : Addr) : Ob → Prop
  | .lst ds => ∃ xs, H a = some (.lst xs) ∧ TpL H xs ds
  | .raw o => H a = some o
/-- the state of a def's run: H0 the heap at its entry, Hb an elder heap whose tuples stand -/
structure SI (H0 Hb H : Hp) (σ : St) (sl : List Sl) (ob : List (Addr × Ob)) : Prop where
  ex : Ex H0 H
  tb : TE' Hb H
  sd : SD H0 H σ sl
  fr : ∀ p, p ∈ ob → H0 p.1 = none
  ok : ∀ p, p ∈ ob → p.2.ok H p.1
  nd : (ob.map (·.1)).Nodup
theorem Ob.ext {H H' : Hp} (e : Ex H H') {a : Addr} : ∀ {o : Ob}, o.ok H a → o.ok H' a
  | .lst _, ⟨xs, h1, h2⟩ => ⟨xs, e _ _ h1, h2.m (te_ex e)⟩
  | .raw _, h => e _ _ h
section
variable {H0 Hb H H' : Hp} {σ : St} {sl : List Sl} {ob : List (Addr × Ob)}
theorem SI.ext (I : SI H0 Hb H σ sl ob) (e : Ex H H') : SI H0 Hb H' σ sl ob :=
  ⟨I.ex.trans e, I.tb.trans (te_ex e), I.sd.mono (te_ex e), I.fr, fun p hp => Ob.ext e (I.ok p hp), I.nd⟩
theorem SI.base (I : SI H0 Hb H σ sl ob) : SI H0 H H σ sl ob := ⟨I.ex, TE'.refl H, I.sd, I.fr, I.ok, I.nd⟩
theorem SI.set (I : SI H0 Hb H σ sl ob) (i : Nat) {s : Sl} {v : V} (h : s.ok H0 H (some v)) : SI H0 Hb H (σ.set i (some v)) (sl.set i s) ob :=
  ⟨I.ex, I.tb, I.sd.set h i, I.fr, I.ok, I.nd⟩
theorem SI.setD (I : SI H0 Hb H σ sl ob) (i : Nat) {d : PD} {v : V} (h : Tp H v d) : SI H0 Hb H (σ.set i (some v)) (sl.set i (.d d)) ob := I.set i ⟨v, rfl, h⟩
theorem SI.setR (I : SI H0 Hb H σ sl ob) (i : Nat) (a : Addr) : SI H0 Hb H (σ.set i (some (.ref a))) (sl.set i (.r a)) ob := I.set i rfl
theorem SI.wipe (I : SI H0 Hb H σ sl ob) (vs : List Nat) : SI H0 Hb H (L2.wipe σ vs) (wipeS sl vs) ob := ⟨I.ex, I.tb, I.sd.wipe vs, I.fr, I.ok, I.nd⟩
/-- an object more -/
theorem SI.own (I : SI H0 Hb H σ sl ob) {a : Addr} {o : Ob} (h0 : H0 a = none) (hn : a ∉ ob.map (·.1)) (h : o.ok H a) : SI H0 Hb H σ sl ((a, o) :: ob) :=
  ⟨I.ex, I.tb, I.sd, fun p hp => (List.mem_cons.mp hp).elim (fun e => by rw [e]; exact h0) (I.fr p), fun p hp => (List.mem_cons.mp hp).elim (fun e => by rw [e]; exact h) (I.ok p), List.nodup_cons.mpr ⟨hn, I.nd⟩⟩
theorem SI.new (I : SI H0 Hb H σ sl ob) {a : Addr} (h : H a = none) : H0 a = none ∧ a ∉ ob.map (·.1) := by
  refine ⟨fresh_back I.ex h, fun hm => ?_⟩
  obtain ⟨p, hp, e⟩ := List.mem_map.mp hm
  have := I.ok p hp
  rw [e] at this
  cases ho : p.2 with
  | lst ds => rw [ho] at this; obtain ⟨xs, h1, _⟩ := this; rw [h] at h1; cases h1
  | raw o => rw [ho] at this; have h1 : H a = some o := this; rw [h] at h1; cases h1
/-- forget what is owned -/
theorem SI.sub (I : SI H0 Hb H σ sl ob) {ob' : List (Addr × Ob)} (h : ob'.Sublist ob) : SI H0 Hb H σ sl ob' :=
  ⟨I.ex, I.tb, I.sd, fun p hp => I.fr p (h.subset hp), fun p hp => I.ok p (h.subset hp), I.nd.sublist (h.map _)⟩
theorem SI.at (I : SI H0 Hb H σ sl ob) {j : Nat} {a : Addr} {o : Ob} (h : ob[j]? = some (a, o)) : o.ok H a := I.ok (a, o) (List.mem_of_getElem? h)
/-- an owned object is changed -/
theorem SI.put (I : SI H0 Hb H σ sl ob) {j : Nat} {a : Addr} {o o' : Ob} {h' : HO} (h : ob[j]? = some (a, o)) (hm : ∀ xs, H a ≠ some (.tup xs)) (hn : o'.ok (upd H a h') a) : SI H0 Hb (upd H a h') σ sl (ob.set j (a, o')) := by
  have hmem := List.mem_of_getElem? h
  have h0 := I.fr _ hmem
  have te : TE' H (upd H a h') := fun b xs hb => by
    by_cases e : b = a
    · rw [e] at hb; exact absurd hb (hm xs)
    · rw [upd_ne e]; exact hb
  have hj : j < ob.length := (List.getElem?_eq_some_iff.mp h).1
  have hje : ob[j] = (a, o) := (List.getElem?_eq_some_iff.mp h).2
  have hmap : (ob.set j (a, o')).map (·.1) = ob.map (·.1) := by
    rw [List.map_set]
    refine List.ext_getElem (by simp) fun i h1 h2 => ?_
    rw [List.getElem_set]
    by_cases e : j = i
    · subst e; rw [if_pos rfl, List.getElem_map, hje]
    · rw [if_neg e]
  refine ⟨Ex.mut I.ex h0, I.tb.trans te, I.sd.mono te, fun p hp => ?_, fun p hp => ?_, by rw [hmap]; exact I.nd⟩
  · have : p.1 ∈ (ob.set j (a, o')).map (·.1) := List.mem_map.mpr ⟨p, hp, rfl⟩
    rw [hmap] at this
    obtain ⟨q, hq, e⟩ := List.mem_map.mp this
    rw [← e]; exact I.fr q hq
  · obtain ⟨i, hi, e⟩ := List.getElem_of_mem hp
    rw [List.getElem_set] at e
    by_cases z : j = i
    · rw [if_pos z] at e
      rw [← e]; exact hn
    · rw [if_neg z] at e
      rw [List.length_set] at hi
      have hne : p.1 ≠ a := fun q => by
        have nd := I.nd
        have e1 : (ob.map (·.1))[i]'(by simpa using hi) = a := by rw [List.getElem_map, e]; exact q
        have e2 : (ob.map (·.1))[j]'(by simpa using hj) = a := by rw [List.getElem_map, hje]
        exact z ((List.getElem_inj nd).mp (e2.trans e1.symm))
      have hpo := I.ok p (by rw [← e]; exact List.getElem_mem hi)
      cases ho : p.2 with
      | lst ds =>
        rw [ho] at hpo
        obtain ⟨xs, h1, h2⟩ := hpo
        exact ⟨xs, by rw [upd_ne hne]; exact h1, h2.m te⟩
      | raw u =>
        rw [ho] at hpo
        show (upd H a h') p.1 = some u
        rw [upd_ne hne]; exact hpo
end
end Wk
end
section
set_option Elab.async false
set_option linter.all false
set_option maxRecDepth 100000
set_option maxHeartbeats 2000000
/-! What expressions give and statements do, over the state layer. -/
namespace Wk
open PySem L2 Evl

theorem Sl.okx {H H' : Hp} (e : Ex H H') : ∀ {s : Sl} {o : Option V}, s.ok H H o → s.ok H' H' o
  | .u, _, _ => trivial
  | .d _, _, ⟨v, h1, h2⟩ => ⟨v, h1, h2.m (te_ex e)⟩
  | .r _, _, h => h
  | .g _, _, ⟨p, xs, h1, h2, h3⟩ => ⟨p, xs, h1, e _ _ h2, h3.m (te_ex e)⟩
/-- the expression gives what s tells -/
def EvX (te : TE) (σ : St) (H : Hp) (s : Sl) : Prop := ∀ H1, Ex H H1 → ∀ Q : VK, (∀ v H2, Ex H1 H2 → s.ok H2 H2 (some v) → Q v H2) → te σ H1 Q
/-- a new list of these items -/
def EvN (te : TE) (σ : St) (H : Hp) (ds : List PD) : Prop := ∀ H1, Ex H H1 → ∀ Q : VK, (∀ p xs H2, H1 p = none → Ex H1 H2 → H2 p = some (.lst xs) → TpL H2 xs ds → Q (.ref p) H2) → te σ H1 Q
def EvAs (ta : TA) (σ : St) (H : Hp) (ss : List Sl) : Prop := ∀ H1, Ex H H1 → ∀ Q : List V → Hp → Prop, (∀ vs H2, Ex H1 H2 → SD H2 H2 (vs.map some) ss → Q vs H2) → ta σ H1 Q
theorem SD.okx {H H' : Hp} (e : Ex H H') : ∀ {σ : St} {ss : List Sl}, SD H H σ ss → SD H' H' σ ss
  | [], [], _ => trivial
  | _ :: _, _ :: _, ⟨a, b⟩ => ⟨Sl.okx e a, SD.okx e b⟩

section
variable {K : PySem.W.Frag} {H0 Hb H H' : Hp} {σ : St} {sl : List Sl} {ob : List (Addr × Ob)} {ta tb te tx : TE} {t u : TT} {s : Sl} {d e : PD} {ds es : List PD}
theorem EvX.ext (x : Ex H H') (h : EvX te σ H s) : EvX te σ H' s := fun H1 a Q q => h H1 (x.trans a) Q q
theorem EvN.x (h : EvN te σ H ds) : EvX te σ H (.g ds) := fun H1 a Q q => h H1 a Q fun p xs H2 _ e1 h1 h2 => q _ H2 e1 ⟨p, xs, rfl, h1, h2⟩
theorem EvX.is {s' : Sl} (h : EvX te σ H s) (e : s = s') : EvX te σ H s' := e ▸ h
theorem EvN.is (h : EvN te σ H ds) (e : ds = es) : EvN te σ H es := e ▸ h
/-! ### names, constants -/
theorem x_var {i : Nat} {x : PD} (I : SI H0 Hb H σ sl ob) (h : sl[i]? = some (.d x)) : EvX (tVar i) σ H (.d x) := fun H1 a Q q => by
  obtain ⟨o, h1, v, rfl, h2⟩ := I.sd.get h
  exact ⟨v, h1, q v H1 (Ex.refl H1) ⟨v, rfl, h2.m (te_ex a)⟩⟩
theorem x_ref {i : Nat} {p : Addr} (I : SI H0 Hb H σ sl ob) (h : sl[i]? = some (.r p)) : EvX (tVar i) σ H (.r p) := fun H1 a Q q => by
  obtain ⟨o, h1, h2⟩ := I.sd.get h
  have h2 : o = some (.ref p) := h2
  subst h2
  exact ⟨_, h1, q _ H1 (Ex.refl H1) rfl⟩
theorem x_giv {i : Nat} (I : SI H0 Hb H σ sl ob) (h : sl[i]? = some (.g ds)) : EvX (tVar i) σ H (.g ds) := fun H1 a Q q => by
  obtain ⟨o, h1, p, xs, rfl, h2, h3⟩ := I.sd.get h
  exact ⟨_, h1, q _ H1 (Ex.refl H1) ⟨p, xs, rfl, a _ _ (I.ex _ _ h2), (h3.m (te_ex I.ex)).m (te_ex a)⟩⟩
/-- an owned list, by its items -/
theorem x_own {j : Nat} {p : Addr} (I : SI H0 Hb H σ sl ob) (ho : ob[j]? = some (p, .lst ds)) (h : EvX te σ H (.r p)) : EvX te σ H (.g ds) := fun H1 a Q q =>
  h H1 a Q fun v H2 e2 hv => by
    have hv : some v = some (V.ref p) := hv
    obtain ⟨xs, h1, h2⟩ := I.at ho
    exact q v H2 e2 ⟨p, xs, hv, e2 _ _ (a _ _ h1), (h2.m (te_ex a)).m (te_ex e2)⟩
theorem x_int {n : Int} : EvX (tC (.int n)) σ H (.d (.int n)) := fun H1 _ _ q => q _ H1 (Ex.refl H1) ⟨_, rfl, .int n⟩
theorem x_bl {b : Bool} : EvX (tC (.bl b)) σ H (.d (.bool b)) := fun H1 _ _ q => q _ H1 (Ex.refl H1) ⟨_, rfl, .bl b⟩
theorem x_c {v : V} (h : ∀ H, s.ok H H (some v)) : EvX (tC v) σ H s := fun H1 _ _ q => q _ H1 (Ex.refl H1) (h H1)
/-! ### ints -/
theorem EvX.int {n : Int} (h : EvX te σ H (.d (.int n))) : Ev te σ H (.int n) := fun H1 a Q q => h H1 a Q fun v H2 e2 ⟨w, e3, h3⟩ => by
  cases e3
  cases h3
  exact q H2 e2
theorem EvX.bl {b : Bool} (h : EvX te σ H (.d (.bool b))) : Ev te σ H (.bl b) := fun H1 a Q q => h H1 a Q fun v H2 e2 ⟨w, e3, h3⟩ => by
  cases e3
  cases h3
  exact q H2 e2
theorem Ev.x {v : V} (h : Ev te σ H v) (hs : ∀ H, s.ok H H (some v)) : EvX te σ H s := fun H1 a Q q => h H1 a Q fun H2 e2 => q v H2 e2 (hs H2)
theorem Ev.xi {n : Int} (h : Ev te σ H (.int n)) : EvX te σ H (.d (.int n)) := Ev.x h fun _ => ⟨_, rfl, .int n⟩
theorem Ev.xb {b : Bool} (h : Ev te σ H (.bl b)) : EvX te σ H (.d (.bool b)) := Ev.x h fun _ => ⟨_, rfl, .bl b⟩
theorem x_add {i j : Int} (ha : EvX ta σ H (.d (.int i))) (hb : EvX tb σ H (.d (.int j))) : EvX (tOp (rI0 fun i j => .int (i + j)) ta tb) σ H (.d (.int (i + j))) := Ev.xi (ev_op ha.int hb.int rv_I0)
theorem x_sub {i j : Int} (ha : EvX ta σ H (.d (.int i))) (hb : EvX tb σ H (.d (.int j))) : EvX (tOp (rI0 fun i j => .int (i - j)) ta tb) σ H (.d (.int (i - j))) := Ev.xi (ev_op ha.int hb.int rv_I0)
theorem x_mul {i j : Int} (ha : EvX ta σ H (.d (.int i))) (hb : EvX tb σ H (.d (.int j))) (hc : CMul i j) : EvX (tOp (rI CMul fun i j => .int (i * j)) ta tb) σ H (.d (.int (i * j))) := Ev.xi (ev_op ha.int hb.int (rv_I hc))
theorem x_mod {i j : Int} (ha : EvX ta σ H (.d (.int i))) (hb : EvX tb σ H (.d (.int j))) (hc : 0 < j) : EvX (tOp (rI (fun _ j => 0 < j) fun i j => .int (i % j)) ta tb) σ H (.d (.int (i % j))) := Ev.xi (ev_op ha.int hb.int (rv_I hc))
theorem x_fdiv {i j : Int} (ha : EvX ta σ H (.d (.int i))) (hb : EvX tb σ H (.d (.int j))) (hc : CDiv i j) : EvX (tOp (rI CDiv fun i j => .int (i / j)) ta tb) σ H (.d (.int (i / j))) := Ev.xi (ev_op ha.int hb.int (rv_I hc))
theorem x_pow {i j : Int} (ha : EvX ta σ H (.d (.int i))) (hb : EvX tb σ H (.d (.int j))) (hc : CPow i j) : EvX (tOp (rI CPow fun i j => .int (i ^ j.toNat)) ta tb) σ H (.d (.int (i ^ j.toNat))) := Ev.xi (ev_op ha.int hb.int (rv_I hc))
theorem x_neg {i : Int} (ha : EvX ta σ H (.d (.int i))) : EvX (tUn (rU fun i => .int (-i)) ta) σ H (.d (.int (-i))) := Ev.xi (ev_un ha.int ru_neg)
theorem x_lt {i j : Int} (ha : EvX ta σ H (.d (.int i))) (hb : EvX tb σ H (.d (.int j))) : EvX (tOp (rI0 fun i j => .bl (decide (i < j))) ta tb) σ H (.d (.bool (decide (i < j)))) := Ev.xb (ev_op ha.int hb.int rv_I0)
theorem x_le {i j : Int} (ha : EvX ta σ H (.d (.int i))) (hb : EvX tb σ H (.d (.int j))) : EvX (tOp (rI0 fun i j => .bl (decide (i ≤ j))) ta tb) σ H (.d (.bool (decide (i ≤ j)))) := Ev.xb (ev_op ha.int hb.int rv_I0)
theorem x_gt {i j : Int} (ha : EvX ta σ H (.d (.int i))) (hb : EvX tb σ H (.d (.int j))) : EvX (tOp (rI0 fun i j => .bl (decide (j < i))) ta tb) σ H (.d (.bool (decide (j < i)))) := Ev.xb (ev_op ha.int hb.int rv_I0)
theorem x_ge {i j : Int} (ha : EvX ta σ H (.d (.int i))) (hb : EvX tb σ H (.d (.int j))) : EvX (tOp (rI0 fun i j => .bl (decide (j ≤ i))) ta tb) σ H (.d (.bool (decide (j ≤ i)))) := Ev.xb (ev_op ha.int hb.int rv_I0)
theorem x_eqI {i j : Int} (ha : EvX ta σ H (.d (.int i))) (hb : EvX tb σ H (.d (.int j))) : EvX (tOp rEq ta tb) σ H (.d (.bool (decide (i = j)))) := Ev.xb (by
  have h := ev_op (r := rEq) ha.int hb.int (rv_eq rfl)
  have e : decide (V.int i = V.int j) = decide (i = j) := by simp
  rw [e] at h; exact h)
theorem x_neI {i j : Int} (ha : EvX ta σ H (.d (.int i))) (hb : EvX tb σ H (.d (.int j))) : EvX (tOp rNe ta tb) σ H (.d (.bool (!decide (i = j)))) := Ev.xb (by
  have h := ev_op (r := rNe) ha.int hb.int (rv_ne rfl)
  have e : decide (V.int i = V.int j) = decide (i = j) := by simp
  rw [e] at h; exact h)
theorem Sl.dp {H : Hp} {v : V} {s : Sl} {x : PD} (h : s.ok H H (some v)) (z : s = .d x ∨ ∃ xs, s = .g xs ∧ x = .list xs) : Dp K H v x := by
  rcases z with z | ⟨l, z, z2⟩
  · subst z
    obtain ⟨w, e, h2⟩ := h
    cases e
    exact Tp.dp K x v h2
  · subst z z2
    obtain ⟨p, xs, e, h2, h3⟩ := h
    cases e
    exact .lst (.inl (.inl h2)) (TpL.dp K l xs h3)
/-- == of data, of lists too -/
theorem x_eqS {s s' : Sl} {a b : PD} (ha : EvX ta σ H s) (hb : EvX tb σ H s') (h1 : s = .d a ∨ ∃ ds, s = .g ds ∧ a = .list ds) (h2 : s' = .d b ∨ ∃ ds, s' = .g ds ∧ b = .list ds)
    (sa : SeqAt.shaped a = true) (sb : SeqAt.shaped b = true) : EvX (tOp (rEqD K) ta tb) σ H (.d (.bool (PyData.eqv a b))) := fun H1 e1 Q q =>
  ha H1 e1 _ fun x H2 e2 hx => hb H2 (e1.trans e2) _ fun y H3 e3 hy => ⟨a, b, Sl.dp (Sl.okx e3 hx) h1, Sl.dp hy h2, sa, sb, q _ H3 (e2.trans e3) ⟨_, rfl, .bl _⟩⟩
theorem x_neS {s s' : Sl} {a b : PD} (ha : EvX ta σ H s) (hb : EvX tb σ H s') (h1 : s = .d a ∨ ∃ ds, s = .g ds ∧ a = .list ds) (h2 : s' = .d b ∨ ∃ ds, s' = .g ds ∧ b = .list ds)
    (sa : SeqAt.shaped a = true) (sb : SeqAt.shaped b = true) : EvX (tOp (rNeD K) ta tb) σ H (.d (.bool (!PyData.eqv a b))) := fun H1 e1 Q q =>
  ha H1 e1 _ fun x H2 e2 hx => hb H2 (e1.trans e2) _ fun y H3 e3 hy => ⟨a, b, Sl.dp (Sl.okx e3 hx) h1, Sl.dp hy h2, sa, sb, q _ H3 (e2.trans e3) ⟨_, rfl, .bl _⟩⟩
theorem x_eqD (ha : EvX ta σ H (.d d)) (hb : EvX tb σ H (.d e)) (sa : SeqAt.shaped d = true) (sb : SeqAt.shaped e = true) : EvX (tOp (rEqD K) ta tb) σ H (.d (.bool (PyData.eqv d e))) := x_eqS ha hb (.inl rfl) (.inl rfl) sa sb
theorem x_neD (ha : EvX ta σ H (.d d)) (hb : EvX tb σ H (.d e)) (sa : SeqAt.shaped d = true) (sb : SeqAt.shaped e = true) : EvX (tOp (rNeD K) ta tb) σ H (.d (.bool (!PyData.eqv d e))) := x_neS ha hb (.inl rfl) (.inl rfl) sa sb
/-! ### items, lengths, tuples, lists -/
theorem atI_get {xs : List V} {i : Int} {d : PD} (h : TpL H xs ds) (e : atI ds i = some d) : ∃ v, atI xs i = some v ∧ Tp H v d := by
  unfold atI at e ⊢
  rw [h.length]
  cases hj : ixN ds.length i with
  | none => rw [hj] at e; cases e
  | some j =>
    rw [hj] at e
    exact h.get e
theorem x_ixT {i : Int} (ha : EvX ta σ H (.d (.tuple ds))) (hb : EvX tb σ H (.d (.int i))) (h : atI ds i = some d) : EvX (tOp (rIxT K) ta tb) σ H (.d d) := fun H1 e1 Q q =>
  ha H1 e1 _ fun x H2 e2 ⟨w, ew, hw⟩ => hb.int H2 (e1.trans e2) _ fun H3 e3 => by
    cases ew
    cases hw with
    | tup h1 h2 =>
      obtain ⟨v, h3, h4⟩ := atI_get (h2.m (te_ex e3)) h
      exact ⟨_, _, i, v, rfl, rfl, .inl (.inl (e3 _ _ h1)), h3, q v H3 (e2.trans e3) ⟨v, rfl, h4⟩⟩
theorem x_ixL {i : Int} (ha : EvX ta σ H (.g ds)) (hb : EvX tb σ H (.d (.int i))) (h : atI ds i = some d) : EvX (tOp (rIxL K) ta tb) σ H (.d d) := fun H1 e1 Q q =>
  ha H1 e1 _ fun x H2 e2 ⟨p, xs, ew, h1, h2⟩ => hb.int H2 (e1.trans e2) _ fun H3 e3 => by
    cases ew
    obtain ⟨v, h3, h4⟩ := atI_get (h2.m (te_ex e3)) h
    exact ⟨_, _, i, v, rfl, rfl, .inl (.inl (e3 _ _ h1)), h3, q v H3 (e2.trans e3) ⟨v, rfl, h4⟩⟩
theorem x_lenT (ha : EvX ta σ H (.d (.tuple ds))) : EvX (tCB (rLenS K) (tCons ta tNil)) σ H (.d (.int (ds.length : Int))) := fun H1 e1 Q q =>
  ha H1 e1 _ fun x H2 e2 ⟨w, ew, hw⟩ => by
    cases ew
    cases hw with
    | tup h1 h2 => exact ⟨_, _, rfl, .inr (.inl (.inl h1)), q _ H2 e2 ⟨_, rfl, by rw [h2.length]; exact .int _⟩⟩
theorem x_lenL (ha : EvX ta σ H (.g ds)) : EvX (tCB (rLenS K) (tCons ta tNil)) σ H (.d (.int (ds.length : Int))) := fun H1 e1 Q q =>
  ha H1 e1 _ fun x H2 e2 ⟨p, xs, ew, h1, h2⟩ => by
    cases ew
    exact ⟨_, _, rfl, .inl (.inl (.inl h1)), q _ H2 e2 ⟨_, rfl, by rw [h2.length]; exact .int _⟩⟩
theorem a_nil : EvAs tNil σ H [] := fun H1 _ _ q => q [] H1 (Ex.refl H1) trivial
theorem a_cons {tr : TA} {ss : List Sl} (h : EvX ta σ H s) (hr : EvAs tr σ H ss) : EvAs (tCons ta tr) σ H (s :: ss) := fun H1 e1 Q q =>
  h H1 e1 _ fun v H2 e2 hv => hr H2 (e1.trans e2) _ fun vs H3 e3 hvs => q _ H3 (e2.trans e3) ⟨Sl.okx e3 hv, hvs⟩
theorem SD.tpl {H : Hp} : ∀ {vs : List V} {ds : List PD}, SD H H (vs.map some) (ds.map .d) → TpL H vs ds
  | [], [], _ => .nil
  | v :: vs, d :: ds, ⟨⟨w, e, h⟩, b⟩ => by
    cases e
    exact .cons h (SD.tpl b)
theorem x_tup {ta : TA} (h : EvAs ta σ H (ds.map .d)) (hz : ds.length ≤ 100000) : EvX (tTup ta) σ H (.d (.tuple ds)) := fun H1 e1 Q q =>
  h H1 e1 _ fun vs H2 e2 hvs => by
    have ht := hvs.tpl
    refine ⟨sz_of (by rw [ht.length]; exact hz), fun p hp => q _ _ (e2.trans (Ex.new hp)) ⟨_, rfl, .tup upd_same (ht.m (te_ex (Ex.new hp)))⟩⟩
theorem n_lst {ta : TA} (h : EvAs ta σ H (ds.map .d)) (hz : ds.length ≤ 100000) : EvN (tLst ta) σ H ds := fun H1 e1 Q q =>
  h H1 e1 _ fun vs H2 e2 hvs => by
    have ht := hvs.tpl
    refine ⟨sz_of (by rw [ht.length]; exact hz), fun p hp => q p vs _ (fresh_back e2 hp) (e2.trans (Ex.new hp)) upd_same (ht.m (te_ex (Ex.new hp)))⟩
/-- tuple(..) -/
def rTupS (K : PySem.W.Frag) : List V → Hp → VK → Prop := fun xs H Q => ∃ p ys, xs = [.ref p] ∧ ((SqL K H p ys ∧ ∀ l, H l = none → Q (.ref l) (upd H l (.tup ys))) ∨ (SqT K H p ys ∧ Q (.ref p) H))
theorem x_tupL (ha : EvX ta σ H (.g ds)) : EvX (tCB (rTupS K) (tCons ta tNil)) σ H (.d (.tuple ds)) := fun H1 e1 Q q =>
  ha H1 e1 _ fun x H2 e2 ⟨p, xs, ew, h1, h2⟩ => by
    cases ew
    exact ⟨_, _, rfl, .inl ⟨.inl (.inl h1), fun l hl => q _ _ (e2.trans (Ex.new hl)) ⟨_, rfl, .tup upd_same (h2.m (te_ex (Ex.new hl)))⟩⟩⟩
theorem x_tupT (ha : EvX ta σ H (.d (.tuple ds))) : EvX (tCB (rTupS K) (tCons ta tNil)) σ H (.d (.tuple ds)) := fun H1 e1 Q q =>
  ha H1 e1 _ fun x H2 e2 ⟨w, ew, hw⟩ => by
    cases ew
    cases hw with
    | tup h1 h2 => exact ⟨_, _, rfl, .inr ⟨.inl (.inl h1), q _ H2 e2 ⟨_, rfl, .tup h1 h2⟩⟩⟩
theorem n_listT (ha : EvX ta σ H (.d (.tuple ds))) : EvN (tCB (rListS K) (tCons ta tNil)) σ H ds := fun H1 e1 Q q =>
  ha H1 e1 _ fun x H2 e2 ⟨w, ew, hw⟩ => by
    cases ew
    cases hw with
    | tup h1 h2 => exact ⟨_, _, rfl, .inr (.inl (.inl h1)), fun l hl => q l _ _ (fresh_back e2 hl) (e2.trans (Ex.new hl)) upd_same (h2.m (te_ex (Ex.new hl)))⟩
theorem n_listL (ha : EvX ta σ H (.g ds)) : EvN (tCB (rListS K) (tCons ta tNil)) σ H ds := fun H1 e1 Q q =>
  ha H1 e1 _ fun x H2 e2 ⟨p, xs, ew, h1, h2⟩ => by
    cases ew
    exact ⟨_, _, rfl, .inl (.inl (.inl h1)), fun l hl => q l _ _ (fresh_back e2 hl) (e2.trans (Ex.new hl)) upd_same (h2.m (te_ex (Ex.new hl)))⟩
theorem x_catT (ha : EvX ta σ H (.d (.tuple ds))) (hb : EvX tb σ H (.d (.tuple es))) (hz : ds.length + es.length ≤ 100000) : EvX (tOp (rCatA K) ta tb) σ H (.d (.tuple (ds ++ es))) := fun H1 e1 Q q =>
  ha H1 e1 _ fun x H2 e2 ⟨w, ew, hw⟩ => hb H2 (e1.trans e2) _ fun y H3 e3 ⟨w', ew', hw'⟩ => by
    cases ew
    cases ew'
    cases hw with
    | tup h1 h2 =>
      cases hw' with
      | tup h3 h4 =>
        have h2' := h2.m (te_ex e3)
        refine ⟨_, _, _, _, rfl, rfl, .inl (.inl (e3 _ _ h1)), .inl (.inl h3), sz_of (by rw [h2.length, h4.length]; exact hz), fun z => ?_, fun _ z => ?_, fun _ _ p hp => ?_⟩
        · refine q _ H3 (e2.trans e3) ⟨_, rfl, .tup h3 ?_⟩
          subst z
          cases h2'
          exact h4
        · refine q _ H3 (e2.trans e3) ⟨_, rfl, .tup (e3 _ _ h1) ?_⟩
          subst z
          cases h4
          rw [List.append_nil]; exact h2'
        · exact q _ _ ((e2.trans e3).trans (Ex.new hp)) ⟨_, rfl, .tup upd_same ((h2'.append h4).m (te_ex (Ex.new hp)))⟩
theorem n_cat (ha : EvX ta σ H (.g ds)) (hb : EvX tb σ H (.g es)) (hz : ds.length + es.length ≤ 100000) : EvN (tOp rCat ta tb) σ H (ds ++ es) := fun H1 e1 Q q =>
  ha H1 e1 _ fun x H2 e2 ⟨p, xs, ew, h1, h2⟩ => hb H2 (e1.trans e2) _ fun y H3 e3 ⟨p', ys, ew', h3, h4⟩ => by
    cases ew
    cases ew'
    exact ⟨_, _, _, _, rfl, rfl, e3 _ _ h1, h3, sz_of (by rw [h2.length, h4.length]; exact hz), fun l hl => q l _ _ (fresh_back (e2.trans e3) hl) ((e2.trans e3).trans (Ex.new hl)) upd_same (((h2.m (te_ex e3)).append h4).m (te_ex (Ex.new hl)))⟩
theorem flat_rep {α : Type} (x : α) : ∀ n, (List.replicate n [x]).flatten = List.replicate n x
  | 0 => rfl
  | n + 1 => by rw [List.replicate_succ, List.flatten_cons, flat_rep x n]; rfl
/-- [x] * n -/
theorem n_rep {n : Int} (ha : EvX ta σ H (.g [d])) (hb : EvX tb σ H (.d (.int n))) (h0 : -100000 ≤ n) (hz : n ≤ 100000) : EvN (tOp rRep ta tb) σ H (List.replicate n.toNat d) := fun H1 e1 Q q =>
  ha H1 e1 _ fun x H2 e2 ⟨p, xs, ew, h1, h2⟩ => hb.int H2 (e1.trans e2) _ fun H3 e3 => by
    cases ew
    have hl := h2.length
    match xs, h2, hl with
    | [v], .cons hv _, _ =>
      refine ⟨_, _, _, rfl, rfl, e3 _ _ h1, by omega, by omega, sz_of (by simp; omega), fun l hl => q l _ _ (fresh_back (e2.trans e3) hl) ((e2.trans e3).trans (Ex.new hl)) upd_same ?_⟩
      rw [flat_rep]
      exact (TpL.rep (hv.m (te_ex e3)) _).m (te_ex (Ex.new hl))
/-! ### slices -/
def cutD (ds : List PD) (lo hi : Option Int) : List PD := (ds.drop (HT.sIx ds.length 0 lo)).take (HT.sIx ds.length ds.length hi - HT.sIx ds.length 0 lo)
def EvP (tl : TO) (σ : St) (H : Hp) (o : Option Int) : Prop := EvO tl σ H o
theorem p_none : EvP tNoPart σ H none := eo_none
theorem p_some {i : Int} (h : EvX te σ H (.d (.int i))) : EvP (tPart te) σ H (some i) := eo_some h.int
theorem n_slL {tl th : TO} {lo hi : Option Int} (ha : EvX te σ H (.g ds)) (h1 : EvP tl σ H lo) (h2 : EvP th σ H hi) : EvN (tSl (rSlL K) te tl th) σ H (cutD ds lo hi) := fun H1 e1 Q q =>
  ha H1 e1 _ fun x H2 e2 ⟨p, xs, ew, hp, hx⟩ => h1 H2 (e1.trans e2) _ fun H3 e3 => h2 H3 ((e1.trans e2).trans e3) _ fun H4 e4 => by
    cases ew
    refine ⟨_, _, rfl, .inl (.inl (e4 _ _ (e3 _ _ hp))), fun l hl => q l _ _ (fresh_back ((e2.trans e3).trans e4) hl) (((e2.trans e3).trans e4).trans (Ex.new hl)) upd_same ?_⟩
    unfold cutV cutD
    rw [hx.length]
    exact ((((hx.m (te_ex e3)).m (te_ex e4)).m (te_ex (Ex.new hl))).drop _).take _
theorem x_slT {tl th : TO} {lo hi : Option Int} (ha : EvX te σ H (.d (.tuple ds))) (h1 : EvP tl σ H lo) (h2 : EvP th σ H hi) : EvX (tSl (rSlA K) te tl th) σ H (.d (.tuple (cutD ds lo hi))) := fun H1 e1 Q q =>
  ha H1 e1 _ fun x H2 e2 ⟨w, ew, hw⟩ => h1 H2 (e1.trans e2) _ fun H3 e3 => h2 H3 ((e1.trans e2).trans e3) _ fun H4 e4 => by
    cases ew
    cases hw with
    | tup hp hx =>
      have hx' := (hx.m (te_ex e3)).m (te_ex e4)
      refine ⟨_, _, rfl, .inl (.inl (e4 _ _ (e3 _ _ hp))), fun z => ?_, fun _ l hl => ?_⟩
      · refine q _ H4 ((e2.trans e3).trans e4) ⟨_, rfl, .tup (e4 _ _ (e3 _ _ hp)) ?_⟩
        unfold cutD
        rw [hx.length] at z
        rw [z.1, z.2, List.drop_zero, Nat.sub_zero, List.take_length]; exact hx'
      · refine q _ _ (((e2.trans e3).trans e4).trans (Ex.new hl)) ⟨_, rfl, .tup upd_same ?_⟩
        unfold cutV cutD
        rw [hx.length]
        exact ((hx'.m (te_ex (Ex.new hl))).drop _).take _
/-! ### built-ins -/
def rInt1 : List V → Hp → VK → Prop := fun xs H Q => (∃ i, xs = [.int i] ∧ Q (.int i) H) ∨ ∃ k, xs = [.bl k] ∧ Q (.int (if k then 1 else 0)) H
theorem x_intI {i : Int} (ha : EvX ta σ H (.d (.int i))) : EvX (tCB rInt1 (tCons ta tNil)) σ H (.d (.int i)) := Ev.xi fun H1 e1 Q q => ha.int H1 e1 _ fun H2 e2 => .inl ⟨i, rfl, q H2 e2⟩
theorem x_intB {b : Bool} (ha : EvX ta σ H (.d (.bool b))) : EvX (tCB rInt1 (tCons ta tNil)) σ H (.d (.int (if b then 1 else 0))) := Ev.xi fun H1 e1 Q q => ha.bl H1 e1 _ fun H2 e2 => .inr ⟨b, rfl, q H2 e2⟩
def rAbs1 : List V → Hp → VK → Prop := fun xs H Q => ∃ i, xs = [.int i] ∧ Q (.int (if i < 0 then -i else i)) H
theorem x_abs {i : Int} (ha : EvX ta σ H (.d (.int i))) : EvX (tCB rAbs1 (tCons ta tNil)) σ H (.d (.int (if i < 0 then -i else i))) := Ev.xi fun H1 e1 Q q => ha.int H1 e1 _ fun H2 e2 => ⟨i, rfl, q H2 e2⟩
theorem x_max2 {i j : Int} (ha : EvX ta σ H (.d (.int i))) (hb : EvX tb σ H (.d (.int j))) : EvX (tCB rMax2 (tCons ta (tCons tb tNil))) σ H (.d (.int (if j > i then j else i))) := Ev.xi (ev_max2 ha.int hb.int)
theorem x_all {bs : List Bool} (ha : EvX ta σ H (.g (bs.map .bool))) : EvX (tCB (rAll K) (tCons ta tNil)) σ H (.d (.bool (bs.all id))) := fun H1 e1 Q q =>
  ha H1 e1 _ fun x H2 e2 ⟨p, xs, ew, hp, hx⟩ => by
    cases ew
    rw [hx.bools] at hp
    exact ⟨p, bs, rfl, .inl (.inl hp), q _ H2 e2 ⟨_, rfl, .bl _⟩⟩
theorem x_any {bs : List Bool} (ha : EvX ta σ H (.g (bs.map .bool))) : EvX (tCB (rAny K) (tCons ta tNil)) σ H (.d (.bool (bs.any id))) := fun H1 e1 Q q =>
  ha H1 e1 _ fun x H2 e2 ⟨p, xs, ew, hp, hx⟩ => by
    cases ew
    rw [hx.bools] at hp
    exact ⟨p, bs, rfl, .inl (.inl hp), q _ H2 e2 ⟨_, rfl, .bl _⟩⟩
/-- isinstance -/
theorem isi_int {n : Int} {T : String} {b : Bool} (ha : EvX ta σ H (.d (.int n))) (hk : kitB "int" T = some b) : EvX (tCB (rIsi K) (tCons ta (tCons (tC (.ty T)) tNil))) σ H (.d (.bool b)) := Ev.xb fun H1 e1 Q q =>
  ha.int H1 e1 _ fun H2 e2 => ⟨.int n, .ty T, .type "int", .type T, b, rfl, .ty T, .base (.int n), kit_ty hk, q H2 e2⟩
theorem isi_bl {c : Bool} {T : String} {b : Bool} (ha : EvX ta σ H (.d (.bool c))) (hk : kitB "bool" T = some b) : EvX (tCB (rIsi K) (tCons ta (tCons (tC (.ty T)) tNil))) σ H (.d (.bool b)) := Ev.xb fun H1 e1 Q q =>
  ha.bl H1 e1 _ fun H2 e2 => ⟨.bl c, .ty T, .type "bool", .type T, b, rfl, .ty T, .base (.bl c), kit_ty hk, q H2 e2⟩
theorem isi_tup {T : String} {b : Bool} (ha : EvX ta σ H (.d (.tuple ds))) (hk : kitB "tuple" T = some b) : EvX (tCB (rIsi K) (tCons ta (tCons (tC (.ty T)) tNil))) σ H (.d (.bool b)) := fun H1 e1 Q q =>
  ha H1 e1 _ fun x H2 e2 ⟨w, ew, hw⟩ => by
    cases ew
    cases hw with
    | tup h1 h2 => exact ⟨_, .ty T, .type "tuple", .type T, b, rfl, .ty T, .base (.tup h1), kit_ty hk, q _ H2 e2 ⟨_, rfl, .bl _⟩⟩
/-! ### tests, and, or, if -/
theorem t_test {b : Bool} (h : EvX te σ H (.d (.bool b))) : EvT (tTest te) σ H b := et_test h.bl
theorem t_B {b : Bool} (h : EvX te σ H (.d (.bool b))) : EvT (tB te) σ H b := et_B h.bl
theorem x_andV {a b : Bool} (h1 : EvX ta σ H (.d (.bool a))) (h2 : a = true → EvX tb σ H (.d (.bool b))) : EvX (tAndV ta tb) σ H (.d (.bool (a && b))) := Ev.xb (ev_andV h1.bl fun z => (h2 z).bl)
theorem x_orV {a b : Bool} (h1 : EvX ta σ H (.d (.bool a))) (h2 : a = false → EvX tb σ H (.d (.bool b))) : EvX (tOrV ta tb) σ H (.d (.bool (a || b))) := Ev.xb (ev_orV h1.bl fun z => (h2 z).bl)
theorem x_notV {a : Bool} (h1 : EvX ta σ H (.d (.bool a))) : EvX (tNotV ta) σ H (.d (.bool (!a))) := Ev.xb (ev_notV h1.bl)
theorem x_if {b : Bool} (h : EvT t σ H b) (h1 : b = true → EvX ta σ H s) (h2 : b = false → EvX tb σ H s) : EvX (tIf t ta tb) σ H s := fun H1 e1 Q q => h H1 e1 _ fun H2 e2 => by
  cases b with
  | true => show ta σ H2 Q; exact h1 rfl H2 (e1.trans e2) Q fun v H3 e3 => q v H3 (e2.trans e3)
  | false => show tb σ H2 Q; exact h2 rfl H2 (e1.trans e2) Q fun v H3 e3 => q v H3 (e2.trans e3)
theorem t_and {a b : Bool} (h1 : EvT t σ H a) (h2 : a = true → EvT u σ H b) : EvT (tAnd t u) σ H (a && b) := et_and h1 h2
theorem t_or {a b : Bool} (h1 : EvT t σ H a) (h2 : a = false → EvT u σ H b) : EvT (tOr t u) σ H (a || b) := et_or h1 h2
theorem t_not {a : Bool} (h1 : EvT t σ H a) : EvT (tNot t) σ H (!a) := et_not h1
theorem t_yes : EvT tYes σ H true := fun H1 _ _ q => q H1 (Ex.refl H1)
theorem EvT.is {a b : Bool} (h : EvT t σ H a) (e : a = b) : EvT t σ H b := e ▸ h
/-- least <= x <= most -/
theorem x_chain {i j k : Int} {p p' : Int → Int → Bool} {tc : TE} (ha : EvX ta σ H (.d (.int i))) (hb : EvX tb σ H (.d (.int j))) (hc : EvX tc σ H (.d (.int k))) :
    EvX (tChain (rI0 fun i j => .bl (p i j)) (rI0 fun i j => .bl (p' i j)) ta tb tc) σ H (.d (.bool (p i j && p' j k))) := Ev.xb fun H1 e1 Q q =>
  ha.int H1 e1 _ fun H2 e2 => hb.int H2 (e1.trans e2) _ fun H3 e3 => ⟨i, j, rfl, rfl, p i j, rfl, by
    cases z : p i j with
    | true =>
      rw [z] at q
      show tc σ H3 _
      exact hc.int H3 ((e1.trans e2).trans e3) _ fun H4 e4 => ⟨j, k, rfl, rfl, q H4 ((e2.trans e3).trans e4)⟩
    | false =>
      rw [z] at q
      show Q (.bl false) H3
      exact q H3 (e2.trans e3)⟩
/-! ### calls -/
/-- the promise of a def that gives data -/
def spP (R : List Sl → PD → Prop) : Sp := fun vs H Q _ => ∃ ss d, SD H H (vs.map some) ss ∧ R ss d ∧ ∀ v H', Ex H H' → Tp H' v d → Q v H'
/-- .. a new list -/
def spN (R : List Sl → List PD → Prop) : Sp := fun vs H Q _ => ∃ ss ds, SD H H (vs.map some) ss ∧ R ss ds ∧ ∀ p xs H', H p = none → Ex H H' → H' p = some (.lst xs) → TpL H' xs ds → Q (.ref p) H'
theorem x_call {R : List Sl → PD → Prop} {E : XK} {ta : TA} {ss : List Sl} (h : EvAs ta σ H ss) (r : R ss d) : EvX (tCall (spP R) [] E ta) σ H (.d d) := fun H1 e1 Q q =>
  h H1 e1 _ fun vs H2 e2 hvs => by
    rw [List.append_nil]
    exact ⟨ss, d, hvs, r, fun v H3 e3 hv => q v H3 (e2.trans e3) ⟨v, rfl, hv⟩⟩
theorem n_call {R : List Sl → List PD → Prop} {E : XK} {ta : TA} {ss : List Sl} (h : EvAs ta σ H ss) (r : R ss ds) : EvN (tCall (spN R) [] E ta) σ H ds := fun H1 e1 Q q =>
  h H1 e1 _ fun vs H2 e2 hvs => by
    rw [List.append_nil]
    exact ⟨ss, ds, hvs, r, fun p xs H3 hp e3 h3 h4 => q p xs H3 (fresh_back e2 hp) (e2.trans e3) h3 h4⟩
theorem start_ok {N : List Str} {vs : List V} {ss : List Sl} (h : SD H H (vs.map some) ss) : SI H H H (L2.start N vs) (ss ++ List.replicate (N.length - ss.length) .u) [] := by
  refine ⟨Ex.refl H, TE'.refl H, ?_, (fun _ h => nomatch h), (fun _ h => nomatch h), List.nodup_nil⟩
  have hl : vs.length = ss.length := by have := h.length; simpa using this
  unfold L2.start
  rw [hl]
  have rep : ∀ n, SD H H (List.replicate n none) (List.replicate n .u) := by
    intro n
    induction n with
    | zero => trivial
    | succ n ih => exact ⟨trivial, ih⟩
  have app : ∀ (σ : St) (sl : List Sl) (n : Nat), SD H H σ sl → SD H H (σ ++ List.replicate n none) (sl ++ List.replicate n .u) := by
    intro σ
    induction σ with
    | nil =>
      intro sl n h
      cases sl with
      | nil => exact rep n
      | cons _ _ => exact False.elim h
    | cons o σ ih =>
      intro sl n h
      cases sl with
      | nil => exact False.elim h
      | cons s sl => exact ⟨h.1, ih sl n h.2⟩
  exact app _ _ _ h
end

/-! ### statements -/
section
variable {K : PySem.W.Frag} {H0 Hb H H' : Hp} {σ : St} {sl : List Sl} {ob : List (Addr × Ob)} {ta tb te tx ti : TE} {t u : TT} {s : Sl} {d e : PD} {ds es : List PD} {D : Ends} {tu tw tz : TS} {g : TG}
theorem s_set {i : Nat} (I : SI H0 Hb H σ sl ob) (h : EvX te σ H (.d d)) (k : ∀ σ' H', SI H0 Hb H' σ' (sl.set i (.d d)) ob → D.nx σ' H') : tAsg te (gName i) D σ H :=
  h H (Ex.refl H) _ fun v H1 e1 hv => k _ H1 ((I.ext e1).set i hv)
theorem s_setR {i : Nat} {a : Addr} (I : SI H0 Hb H σ sl ob) (h : EvX te σ H (.r a)) (k : ∀ σ' H', SI H0 Hb H' σ' (sl.set i (.r a)) ob → D.nx σ' H') : tAsg te (gName i) D σ H :=
  h H (Ex.refl H) _ fun v H1 e1 hv => k _ H1 ((I.ext e1).set i hv)
theorem s_setN {i : Nat} (I : SI H0 Hb H σ sl ob) (h : EvN te σ H ds) (k : ∀ a σ' H', SI H0 Hb H' σ' (sl.set i (.r a)) ((a, .lst ds) :: ob) → D.nx σ' H') : tAsg te (gName i) D σ H :=
  h H (Ex.refl H) _ fun p xs H1 hp e1 h1 h2 => k p _ H1 ((((I.ext e1).own (o := .lst ds) (I.new hp).1 (I.new hp).2 ⟨xs, h1, h2⟩)).setR i p)
theorem s_if {b : Bool} (I : SI H0 Hb H σ sl ob) (h : EvT t σ H b) (h1 : b = true → ∀ H1, SI H0 Hb H1 σ sl ob → tu D σ H1) (h2 : b = false → ∀ H1, SI H0 Hb H1 σ sl ob → tw D σ H1) : tIfS t tu tw D σ H := h H (Ex.refl H) _ fun H1 e => by
  cases b with
  | true => show tu D σ H1; exact h1 rfl H1 (I.ext e)
  | false => show tw D σ H1; exact h2 rfl H1 (I.ext e)
theorem s_when {b : Bool} (I : SI H0 Hb H σ sl ob) (h : EvT t σ H b) (h1 : b = true → ∀ H1, SI H0 Hb H1 σ sl ob → tu D σ H1) (h2 : b = false → ∀ H1, SI H0 Hb H1 σ sl ob → D.nx σ H1) : tIfS t tu tNext D σ H := s_if I h h1 h2
theorem s_ret (I : SI H0 Hb H σ sl ob) (h : EvX te σ H (.d d)) (k : ∀ v H', Ex H0 H' → Tp H' v d → D.rt v H') : tRet te D σ H :=
  h H (Ex.refl H) _ fun v H1 e1 ⟨w, e2, hw⟩ => by cases e2; exact k v H1 (I.ex.trans e1) hw
theorem s_retN (I : SI H0 Hb H σ sl ob) (h : EvN te σ H ds) (k : ∀ p xs H', H0 p = none → Ex H0 H' → H' p = some (.lst xs) → TpL H' xs ds → D.rt (.ref p) H') : tRet te D σ H :=
  h H (Ex.refl H) _ fun p xs H1 hp e1 h1 h2 => k p xs H1 (fresh_back I.ex hp) (I.ex.trans e1) h1 h2
theorem s_retO {j : Nat} {a : Addr} (I : SI H0 Hb H σ sl ob) (h : EvX te σ H (.r a)) (ho : ob[j]? = some (a, .lst ds)) (k : ∀ p xs H', H0 p = none → Ex H0 H' → H' p = some (.lst xs) → TpL H' xs ds → D.rt (.ref p) H') : tRet te D σ H :=
  h H (Ex.refl H) _ fun v H1 e1 hv => by
    have hv : some v = some (V.ref a) := hv
    cases hv
    have I1 := I.ext e1
    obtain ⟨xs, h1, h2⟩ := I1.at ho
    exact k a xs H1 (I.fr _ (List.mem_of_getElem? ho)) I1.ex h1 h2
theorem not_tup {a : Addr} {xs : List V} (h : H a = some (.lst xs)) : ∀ ys, H a ≠ some (.tup ys) := fun ys e => by rw [h] at e; cases e
/-- xs.append(e) -/
theorem s_app {j : Nat} {a : Addr} (I : SI H0 Hb H σ sl ob) (ho : EvX ta σ H (.r a)) (hj : ob[j]? = some (a, .lst ds)) (h : EvX te σ H (.d d)) (hz : ds.length < 100000) (k : ∀ H', SI H0 Hb H' σ sl (ob.set j (a, .lst (ds ++ [d]))) → D.nx σ H') :
    tDrop (tBM K "list" rAppend ta (tCons te tNil)) D σ H := ho H (Ex.refl H) _ fun v H1 e1 hv => by
  have hv : some v = some (V.ref a) := hv
  cases hv
  have I1 := I.ext e1
  obtain ⟨xs, h1, h2⟩ := I1.at hj
  refine ⟨.inl ⟨rfl, xs, .inl (.inl h1)⟩, h H1 e1 _ fun w H2 e2 ⟨w', e3, hw⟩ => ?_⟩
  cases e3
  have I2 := I1.ext e2
  refine ⟨a, xs, w, rfl, rfl, e2 _ _ h1, sz_lt (by rw [h2.length]; exact hz), ?_⟩
  have te := te_lst (H := H2) (o := .lst (xs ++ [w])) (e2 _ _ h1)
  exact k _ (I2.put hj (not_tup (e2 _ _ h1)) ⟨_, upd_same, ((h2.m (te_ex e2)).append (.cons hw .nil)).m te⟩)
/-- xs.append(e), e another list's .. never needed -/
theorem s_ext {j : Nat} {a : Addr} (I : SI H0 Hb H σ sl ob) (ho : EvX ta σ H (.r a)) (hj : ob[j]? = some (a, .lst ds)) (h : EvN te σ H es) (hz : ds.length + es.length ≤ 100000) (k : ∀ H', SI H0 Hb H' σ sl (ob.set j (a, .lst (ds ++ es))) → D.nx σ H') :
    tDrop (tBM K "list" rExtend ta (tCons te tNil)) D σ H := ho H (Ex.refl H) _ fun v H1 e1 hv => by
  have hv : some v = some (V.ref a) := hv
  cases hv
  have I1 := I.ext e1
  obtain ⟨xs, h1, h2⟩ := I1.at hj
  refine ⟨.inl ⟨rfl, xs, .inl (.inl h1)⟩, h H1 e1 _ fun p ys H2 hp e2 h3 h4 => ?_⟩
  have I2 := I1.ext e2
  refine ⟨a, p, xs, ys, rfl, rfl, e2 _ _ h1, h3, sz_of (by rw [h2.length, h4.length]; exact hz), ?_⟩
  have te := te_lst (H := H2) (o := .lst (xs ++ ys)) (e2 _ _ h1)
  exact k _ (I2.put hj (not_tup (e2 _ _ h1)) ⟨_, upd_same, ((h2.m (te_ex e2)).append h4).m te⟩)
/-- xs.pop() -/
theorem s_pop {j : Nat} {a : Addr} (I : SI H0 Hb H σ sl ob) (ho : EvX ta σ H (.r a)) (hj : ob[j]? = some (a, .lst ds)) (hn : ds ≠ []) (k : ∀ H', SI H0 Hb H' σ sl (ob.set j (a, .lst ds.dropLast)) → D.nx σ H') :
    tDrop (tBM0 K "list" rPop ta) D σ H := ho H (Ex.refl H) _ fun v H1 e1 hv => by
  have hv : some v = some (V.ref a) := hv
  cases hv
  have I1 := I.ext e1
  obtain ⟨xs, h1, h2⟩ := I1.at hj
  have hl := h2.length
  have hp : 0 < ds.length := List.length_pos_iff.mpr hn
  have te := te_lst (H := H1) (o := .lst xs.dropLast) h1
  exact ⟨.inl ⟨rfl, xs, .inl (.inl h1)⟩, a, xs, xs[xs.length - 1]'(by omega), rfl, rfl, h1, List.getElem?_eq_getElem (by omega), k _ (I1.put hj (not_tup h1) ⟨_, upd_same, h2.dropLast.m te⟩)⟩
/-- name = xs.pop(i) -/
theorem s_popAt {i j : Nat} {a : Addr} {n : Nat} (I : SI H0 Hb H σ sl ob) (ho : EvX ta σ H (.r a)) (hj : ob[j]? = some (a, .lst ds)) (hi : EvX ti σ H (.d (.int (n : Int)))) (hz : ds.length ≤ 100000) (hd : ds[n]? = some d)
    (k : ∀ σ' H', SI H0 Hb H' σ' (sl.set i (.d d)) (ob.set j (a, .lst (ds.eraseIdx n))) → D.nx σ' H') : tAsg (tBM K "list" rPopAt ta (tCons ti tNil)) (gName i) D σ H := ho H (Ex.refl H) _ fun v H1 e1 hv => by
  have hv : some v = some (V.ref a) := hv
  cases hv
  have I1 := I.ext e1
  obtain ⟨xs, h1, h2⟩ := I1.at hj
  refine ⟨.inl ⟨rfl, xs, .inl (.inl h1)⟩, hi.int H1 e1 _ fun H2 e2 => ?_⟩
  have I2 := I1.ext e2
  have hlt : n < ds.length := (List.getElem?_eq_some_iff.mp hd).1
  have hl := h2.length
  obtain ⟨y, hy1, hy2⟩ := h2.get hd
  have te := te_lst (H := H2) (o := .lst (xs.eraseIdx n)) (e2 _ _ h1)
  refine ⟨a, xs, (n : Int), n, y, rfl, rfl, e2 _ _ h1, by omega, by omega, (ixN_seq (ixN_nat (by omega))).1, hy1, ?_⟩
  exact k _ _ ((I2.put (o' := .lst (ds.eraseIdx n)) hj (not_tup (e2 _ _ h1)) ⟨_, upd_same, ((h2.m (te_ex e2)).m te).erase n⟩).setD i ((hy2.m (te_ex e2)).m te))
/-- xs[i] = e -/
theorem s_put {j : Nat} {a : Addr} {n : Nat} {i : Int} (I : SI H0 Hb H σ sl ob) (h : EvX te σ H (.d d)) (ho : EvX ta σ H (.r a)) (hj : ob[j]? = some (a, .lst ds)) (hi : EvX ti σ H (.d (.int i))) (hn : i = (n : Int)) (hl : n < ds.length)
    (k : ∀ H', SI H0 Hb H' σ sl (ob.set j (a, .lst (ds.set n d))) → D.nx σ H') : tAsg te (gSub ta ti rSetL) D σ H := h H (Ex.refl H) _ fun w H1 e1 ⟨w', e3, hw⟩ => by
  cases e3
  refine ho H1 e1 _ fun v H2 e2 hv => hi.int H2 (e1.trans e2) _ fun H3 e4 => ?_
  have hv : some v = some (V.ref a) := hv
  cases hv
  have I3 := ((I.ext e1).ext e2).ext e4
  obtain ⟨xs, h1, h2⟩ := I3.at hj
  have hll := h2.length
  have te := te_lst (H := H3) (o := .lst (xs.set n w)) h1
  refine ⟨a, xs, i, n, rfl, rfl, h1, by rw [hn]; exact ixN_nat (by omega), ?_⟩
  exact k _ (I3.put hj (not_tup h1) ⟨_, upd_same, TpL.set (((hw.m (te_ex e2)).m (te_ex e4)).m te) n (h2.m te)⟩)
/-- a, b = e, e a pair of data -/
theorem s_pair {i j : Nat} (I : SI H0 Hb H σ sl ob) (h : EvX te σ H (.d (.tuple [d, e]))) (k : ∀ σ' H', SI H0 Hb H' σ' ((sl.set i (.d d)).set j (.d e)) ob → D.nx σ' H') :
    tAsg te (gTup K 2 (gCons (gName i) (gCons (gName j) gNil))) D σ H := h H (Ex.refl H) _ fun v H1 e1 ⟨w, e3, hw⟩ => by
  cases e3
  cases hw with
  | tup h1 h2 =>
    have I1 := I.ext e1
    have hl := h2.length
    cases h2 with
    | cons hx h3 =>
      cases h3 with
      | cons hy h4 =>
        cases h4
        exact ⟨_, _, rfl, .inl (.inl h1), rfl, _, _, rfl, _, [], rfl, rfl, k _ _ ((I1.setD i hx).setD j hy)⟩
/-- a, b = x, y -/
theorem s_par {i j : Nat} {ta : TA} (I : SI H0 Hb H σ sl ob) (h : EvAs ta σ H [.d d, .d e]) (k : ∀ σ' H', SI H0 Hb H' σ' ((sl.set i (.d d)).set j (.d e)) ob → D.nx σ' H') : tPar i j ta D σ H :=
  h H (Ex.refl H) _ fun vs H1 e1 hv => by
    have ht : TpL H1 vs [d, e] := SD.tpl (ds := [d, e]) hv
    match vs, ht with
    | [x, y], .cons hx (.cons hy _) => exact ⟨x, y, rfl, k _ _ (((I.ext e1).setD i hx).setD j hy)⟩
theorem s_drop (I : SI H0 Hb H σ sl ob) (h : EvX te σ H s) (k : ∀ H', SI H0 Hb H' σ sl ob → D.nx σ H') : tDrop te D σ H := h H (Ex.refl H) _ fun v H1 e1 _ => k H1 (I.ext e1)
/-- while, by a word that falls -/
theorem s_while (W : Nat → St → Hp → Prop) (m0 : Nat) (h0 : W m0 σ H)
    (hs : ∀ m σ' H', W m σ' H' → ∃ b, EvT t σ' H' b ∧ (b = true → ∀ H1, Ex H' H1 → ∃ N : St → Hp → Prop, (∀ σ2 H2, N σ2 H2 → ∃ m', m' < m ∧ W m' σ2 H2) ∧ tu { D with nx := N, ct := N, bk := D.nx } σ' H1) ∧ (b = false → ∀ H1, Ex H' H1 → D.nx σ' H1)) : tWhile t tu D σ H := Evl.s_while W m0 h0 hs
/-! ### loops -/
theorem s_for_r1 {ta : TA} {j : Nat} {n : Int} (h : EvAs ta σ H [.d (.int n)]) (hn : -100000 ≤ n ∧ n ≤ 100000) (Pv : Nat → St → Hp → Prop) (h0 : ∀ H1, Ex H H1 → Pv 0 σ H1)
    (hs : ∀ (i : Nat) σ' H', i < n.toNat → Pv i σ' H' → tu { D with nx := Pv (i + 1), ct := Pv (i + 1), bk := D.nx } (σ'.set j (some (.int (i : Int)))) H') (hd : ∀ σ' H', Pv n.toNat σ' H' → D.nx σ' H') : tFor (iRng1 ta) (gName j) tu D σ H :=
  h H (Ex.refl H) _ fun vs H1 e hv => by
    have ht : TpL H1 vs [.int n] := SD.tpl (ds := [.int n]) hv
    match vs, ht with
    | [_], .cons (.int _) _ =>
      refine ⟨n, rfl, by omega, by omega, for_range (lo := 0) (n := n.toNat) Pv (h0 H1 e) (fun i σ' H' hi p => ?_) hd⟩
      have e0 : (0 : Int) + (i : Int) = (i : Int) := Int.zero_add _
      show tu { D with nx := Pv (i + 1), ct := Pv (i + 1), bk := D.nx } (σ'.set j (some (.int ((0 : Int) + (i : Int))))) H'
      rw [e0]
      exact hs i σ' H' hi p
theorem s_for_r2 {ta : TA} {j : Nat} {lo n : Int} (h : EvAs ta σ H [.d (.int lo), .d (.int n)]) (hn : -100000 ≤ lo ∧ lo ≤ 100000 ∧ -100000 ≤ n ∧ n ≤ 100000) (Pv : Nat → St → Hp → Prop) (h0 : ∀ H1, Ex H H1 → Pv 0 σ H1)
    (hs : ∀ (i : Nat) σ' H', i < (n - lo).toNat → Pv i σ' H' → tu { D with nx := Pv (i + 1), ct := Pv (i + 1), bk := D.nx } (σ'.set j (some (.int (lo + (i : Int))))) H') (hd : ∀ σ' H', Pv (n - lo).toNat σ' H' → D.nx σ' H') : tFor (iRng2 ta) (gName j) tu D σ H :=
  h H (Ex.refl H) _ fun vs H1 e hv => by
    have ht : TpL H1 vs [.int lo, .int n] := SD.tpl (ds := [.int lo, .int n]) hv
    match vs, ht with
    | [_, _], .cons (.int _) (.cons (.int _) _) => exact ⟨lo, n, rfl, ⟨by omega, by omega, by omega, by omega⟩, for_range (lo := lo) (n := (n - lo).toNat) Pv (h0 H1 e) hs hd⟩
/-- range(a, b, -1) -/
theorem s_for_dn {ta : TA} {j : Nat} {lo n : Int} (h : EvAs ta σ H [.d (.int lo), .d (.int n), .d (.int (-1))]) (hn : -100000 ≤ lo ∧ lo ≤ 100000 ∧ -100000 ≤ n ∧ n ≤ 100000) (Pv : Nat → St → Hp → Prop) (h0 : ∀ H1, Ex H H1 → Pv 0 σ H1)
    (hs : ∀ (i : Nat) σ' H', i < (lo - n).toNat → Pv i σ' H' → tu { D with nx := Pv (i + 1), ct := Pv (i + 1), bk := D.nx } (σ'.set j (some (.int (lo - (i : Int))))) H') (hd : ∀ σ' H', Pv (lo - n).toNat σ' H' → D.nx σ' H') : tFor (iRng3 ta) (gName j) tu D σ H :=
  h H (Ex.refl H) _ fun vs H1 e hv => by
    have ht : TpL H1 vs [.int lo, .int n, .int (-1)] := SD.tpl (ds := [.int lo, .int n, .int (-1)]) hv
    match vs, ht with
    | [_, _, _], .cons (.int _) (.cons (.int _) (.cons (.int _) _)) =>
      refine ⟨lo, n, -1, _, rfl, RgC.neg (by omega) (by omega) (by omega) (by omega), for_it (walk_rangeC (lo := lo) (c := -1) (n := (lo - n).toNat)) Pv (h0 H1 e) (fun _ _ _ _ _ => trivial) (fun i x σ' H2 H3 hi p y => ?_) hd⟩
      obtain ⟨rfl, rfl⟩ := y
      have e0 : lo + (i : Nat) * (-1 : Int) = lo - (i : Int) := by omega
      show tu { D with nx := Pv (i + 1), ct := Pv (i + 1), bk := D.nx } (σ'.set j (some (.int (lo + (i : Nat) * (-1 : Int))))) H3
      rw [e0]
      exact hs i σ' H3 hi p
theorem s_for_tup (I : SI H0 Hb H σ sl ob) (h : EvX te σ H (.d (.tuple ds))) (Pv : Hp → Nat → St → Hp → Prop) (h0 : ∀ H1, TE' Hb H1 → SI H0 H1 H1 σ sl ob → Pv H1 0 σ H1) (hP : ∀ B i σ H, Pv B i σ H → TE' B H)
    (hs : ∀ B i d v σ H, ds[i]? = some d → Pv B i σ H → Tp H v d → g v σ H fun σ2 H2 => tu { D with nx := Pv B (i + 1), ct := Pv B (i + 1), bk := D.nx } σ2 H2) (hd : ∀ B σ H, Pv B ds.length σ H → D.nx σ H) : tFor (iTup K te) g tu D σ H :=
  h H (Ex.refl H) _ fun v H1 e1 ⟨w, e2, hw⟩ => by
    cases e2
    cases hw with
    | @tup a xs _ h1 h2 =>
      have hl := h2.length
      refine ⟨a, rfl, ⟨xs, .inl (.inl h1)⟩, for_it (walk_tup (K := K) (a := a) (xs := xs)) (Pv H1) (h0 H1 (I.ext e1).tb (I.ext e1).base) (fun i σ H _ p => .inl (.inl (hP _ _ _ _ p _ _ h1))) (fun i x σ H2 H3 hi p y => ?_) (by rw [hl]; exact hd H1)⟩
      obtain ⟨rfl, y⟩ := y
      obtain ⟨d, hd1, hd2⟩ := h2.get' y
      exact hs H1 i d x σ _ hd1 p (hd2.m (hP _ _ _ _ p))
/-- over a list that is owned -/
theorem walk_own {a : Addr} : Walk (Itl K a) ds.length (fun H => ∃ xs, H a = some (.lst xs) ∧ TpL H xs ds) (fun i H x H' => H' = H ∧ ∃ d, ds[i]? = some d ∧ Tp H x d) := by
  refine ⟨fun i H hi ⟨xs, h1, h2⟩ => ?_, fun H ⟨xs, h1, h2⟩ => ⟨xs, .inl (.inl h1), by rw [h2.length]; exact Nat.le_refl _⟩, fun i H x H' hi ⟨xs, h1, h2⟩ y => ⟨y.1, h2.get' (y.2 xs (.inl (.inl h1)))⟩⟩
  have hl := h2.length
  exact ⟨xs, xs[i]'(by omega), .inl (.inl h1), List.getElem?_eq_getElem (by omega)⟩
theorem s_for_own {a : Addr} (h : EvX te σ H (.r a)) (Pv : Nat → St → Hp → Prop) (h0 : ∀ H1, Ex H H1 → Pv 0 σ H1) (hP : ∀ i σ H, Pv i σ H → ∃ xs, H a = some (.lst xs) ∧ TpL H xs ds)
    (hs : ∀ i d v σ H, ds[i]? = some d → Pv i σ H → Tp H v d → g v σ H fun σ2 H2 => tu { D with nx := Pv (i + 1), ct := Pv (i + 1), bk := D.nx } σ2 H2) (hd : ∀ σ H, Pv ds.length σ H → D.nx σ H) : tFor (iList K te) g tu D σ H :=
  h H (Ex.refl H) _ fun v H1 e1 hv => by
    have hv : some v = some (V.ref a) := hv
    cases hv
    obtain ⟨xs, h1, h2⟩ := hP _ _ _ (h0 H1 e1)
    refine ⟨a, rfl, ⟨xs, .inl (.inl h1)⟩, for_it (walk_own (K := K) (ds := ds) (a := a)) Pv (h0 H1 e1) (fun i σ H _ p => hP _ _ _ p) (fun i x σ H2 H3 hi p y => ?_) hd⟩
    obtain ⟨rfl, d, hd1, hd2⟩ := y
    exact hs i d x σ _ hd1 p hd2
/-- over a list that is made for it -/
theorem s_for_new (I : SI H0 Hb H σ sl ob) (h : EvN te σ H ds) (Pv : Addr → Nat → St → Hp → Prop) (h0 : ∀ p H1, SI H0 Hb H1 σ sl ((p, .lst ds) :: ob) → Pv p 0 σ H1) (hP : ∀ p i σ H, Pv p i σ H → ∃ xs, H p = some (.lst xs) ∧ TpL H xs ds)
    (hs : ∀ p i d v σ H, ds[i]? = some d → Pv p i σ H → Tp H v d → g v σ H fun σ2 H2 => tu { D with nx := Pv p (i + 1), ct := Pv p (i + 1), bk := D.nx } σ2 H2) (hd : ∀ p σ H, Pv p ds.length σ H → D.nx σ H) : tFor (iList K te) g tu D σ H :=
  h H (Ex.refl H) _ fun p xs H1 hp e1 h1 h2 => by
    have I1 := (I.ext e1).own (I.new hp).1 (I.new hp).2 (o := .lst ds) ⟨xs, h1, h2⟩
    refine ⟨p, rfl, ⟨xs, .inl (.inl h1)⟩, for_it (walk_own (K := K) (ds := ds) (a := p)) (Pv p) (h0 p H1 I1) (fun i σ H _ p => hP _ _ _ _ p) (fun i x σ H2 H3 hi q y => ?_) (hd p)⟩
    obtain ⟨rfl, d, hd1, hd2⟩ := y
    exact hs p i d x σ _ hd1 q hd2
/-! ### comprehensions -/
/-- what is walked: n turns, the i-th gives a value of which It i tells -/
def Src (wi : TI) (σ : St) (H : Hp) (n : Nat) (It : Nat → V → Hp → Prop) : Prop := ∀ H1, Ex H H1 → ∀ R : L2.It → Hp → Prop,
  (∀ J H2 (G : Hp → Prop) (Y : Nat → Hp → V → Hp → Prop), Ex H1 H2 → Walk J n G Y → (∀ H3, Ex H2 H3 → G H3) → (∀ i H3 x H4, i < n → Ex H2 H3 → Y i H3 x H4 → Ex H3 H4 ∧ It i x H4) → R J H2) → wi σ H1 R
def ItD (ds : List PD) : Nat → V → Hp → Prop := fun i x H => ∃ d, ds[i]? = some d ∧ Tp H x d
def ItP (ds es : Nat → Option PD) : Nat → V → Hp → Prop := fun i x H => ∃ T a b d e, x = .ref T ∧ H T = some (.tup [a, b]) ∧ ds i = some d ∧ es i = some e ∧ Tp H a d ∧ Tp H b e
theorem src_tup (h : EvX te σ H (.d (.tuple ds))) : Src (iTup K te) σ H ds.length (ItD ds) := fun H1 e1 R r => h H1 e1 _ fun v H2 e2 ⟨w, ew, hw⟩ => by
  cases ew
  cases hw with
  | @tup a xs _ h1 h2 =>
    refine ⟨a, rfl, ⟨xs, .inl (.inl h1)⟩, r _ H2 (fun H => SqT K H a xs) _ e2 (by rw [← h2.length]; exact walk_tup) (fun H3 e3 => .inl (.inl (e3 _ _ h1))) fun i H3 x H4 hi e3 y => ?_⟩
    obtain ⟨rfl, y⟩ := y
    obtain ⟨d, hd1, hd2⟩ := h2.get' y
    exact ⟨Ex.refl _, d, hd1, hd2.m (te_ex e3)⟩
theorem src_lst (h : EvX te σ H (.g ds)) : Src (iList K te) σ H ds.length (ItD ds) := fun H1 e1 R r => h H1 e1 _ fun v H2 e2 ⟨a, xs, ew, h1, h2⟩ => by
  cases ew
  refine ⟨a, rfl, ⟨xs, .inl (.inl h1)⟩, r _ H2 (fun H => SqL K H a xs) _ e2 (by rw [← h2.length]; exact walk_list) (fun H3 e3 => .inl (.inl (e3 _ _ h1))) fun i H3 x H4 hi e3 y => ?_⟩
  obtain ⟨rfl, y⟩ := y
  obtain ⟨d, hd1, hd2⟩ := h2.get' y
  exact ⟨Ex.refl _, d, hd1, hd2.m (te_ex e3)⟩
theorem src_r1 {ta : TA} {n : Int} (h : EvAs ta σ H [.d (.int n)]) (hn : -100000 ≤ n ∧ n ≤ 100000) : Src (iRng1 ta) σ H n.toNat (fun i x _ => x = .int (i : Int)) := fun H1 e1 R r => h H1 e1 _ fun vs H2 e2 hv => by
  have ht : TpL H2 vs [.int n] := SD.tpl (ds := [.int n]) hv
  match vs, ht with
  | [_], .cons (.int _) _ =>
    refine ⟨n, rfl, by omega, by omega, r _ H2 _ _ e2 walk_range (fun _ _ => trivial) fun i H3 x H4 hi e3 y => ?_⟩
    obtain ⟨rfl, rfl⟩ := y
    exact ⟨Ex.refl _, by show V.int _ = V.int _; rw [Int.zero_add]⟩
theorem src_r2 {ta : TA} {lo n : Int} (h : EvAs ta σ H [.d (.int lo), .d (.int n)]) (hn : -100000 ≤ lo ∧ lo ≤ 100000 ∧ -100000 ≤ n ∧ n ≤ 100000) : Src (iRng2 ta) σ H (n - lo).toNat (fun i x _ => x = .int (lo + (i : Int))) := fun H1 e1 R r => h H1 e1 _ fun vs H2 e2 hv => by
  have ht : TpL H2 vs [.int lo, .int n] := SD.tpl (ds := [.int lo, .int n]) hv
  match vs, ht with
  | [_, _], .cons (.int _) (.cons (.int _) _) =>
    refine ⟨lo, n, rfl, ⟨by omega, by omega, by omega, by omega⟩, r _ H2 _ _ e2 walk_range (fun _ _ => trivial) fun i H3 x H4 hi e3 y => ?_⟩
    obtain ⟨rfl, rfl⟩ := y
    exact ⟨Ex.refl _, rfl⟩
theorem wipe1 {j : Nat} (σ : St) (o : Option V) : wipe ((wipe σ [j]).set j o) [j] = wipe σ [j] := by
  show (((σ.set j none).set j o).set j none) = σ.set j none
  rw [List.set_set, List.set_set]
theorem wipe2 {j k : Nat} (σ : St) (o p : Option V) : wipe (((wipe σ [j, k]).set j o).set k p) [j, k] = wipe σ [j, k] := by
  show ((((((σ.set k none).set j none).set j o).set k p).set k none).set j none) = (σ.set k none).set j none
  rw [List.set_set, List.set_set]
  by_cases h : j = k
  · subst h
    rw [List.set_set, List.set_set, List.set_set]
  · rw [List.set_comm none none (Ne.symm h), List.set_set, List.set_comm none none h, List.set_set]
theorem filt_yes (b : Nat → Bool) (f : Nat → PD) {i : Nat} (h : b i = true) : ((List.range (i + 1)).filter b).map f = ((List.range i).filter b).map f ++ [f i] := by
  rw [List.range_succ, List.filter_append, List.map_append, List.filter_cons, if_pos h]; rfl
theorem filt_no (b : Nat → Bool) (f : Nat → PD) {i : Nat} (h : b i = false) : ((List.range (i + 1)).filter b).map f = ((List.range i).filter b).map f := by
  rw [List.range_succ, List.filter_append, List.map_append, List.filter_cons, if_neg (by rw [h]; decide)]
  simp
theorem n_lc {wi : TI} {n : Nat} {It : Nat → V → Hp → Prop} {vs : List Nat} (src : Src wi σ H n It) (hn : n ≤ 90000) (b : Nat → Bool) (f : Nat → PD)
    (hg : ∀ i x H3, i < n → It i x H3 → Ex H H3 → ∀ Q : St → Hp → Prop, (∀ σ2, wipe σ2 vs = wipe σ vs → EvT t σ2 H3 (b i) → (b i = true → EvX te σ2 H3 (.d (f i))) → Q σ2 H3) → g x (wipe σ vs) H3 Q) :
    EvN (tLc wi g t te vs) σ H (((List.range n).filter b).map f) := fun H0 e0 Q q => src H0 e0 _ fun J H1 G Y e1 w hG hY Dl hD => by
  have hlen : ∀ i, (((List.range i).filter b).map f).length ≤ i := fun i => by
    rw [List.length_map]
    have := List.length_filter_le b (List.range i)
    rw [List.length_range] at this
    exact this
  refine lc_it w (fun i H' => i ≤ n ∧ Ex H1 H' ∧ ∃ xs, H' Dl = some (.lst xs) ∧ TpL H' xs (((List.range i).filter b).map f)) ⟨Nat.zero_le _, Ex.new hD, [], upd_same, .nil⟩ (fun i H' _ p => hG H' p.2.1) (fun i x H2 H3 hi p y => ?_) fun H' p => ?_
  · obtain ⟨_, e2, xs, h1, h2⟩ := p
    obtain ⟨e3, hit⟩ := hY i H2 x H3 hi e2 y
    refine hg i x H3 hi hit (((e0.trans e1).trans e2).trans e3) _ fun σ2 hw ht he => ⟨hw, ht H3 (Ex.refl H3) _ fun H4 e4 => ?_⟩
    have h1' := e4 _ _ (e3 _ _ h1)
    have h2' := (h2.m (te_ex e3)).m (te_ex e4)
    cases hb : b i with
    | true =>
      show te σ2 H4 _
      refine he hb H4 e4 _ fun v H5 e5 ⟨v', ev, hv⟩ => ?_
      cases ev
      have h1'' := e5 _ _ h1'
      refine ⟨xs, h1'', sz_lt (by rw [h2'.length]; have := hlen i; omega), hi, Ex.mut (((e2.trans e3).trans e4).trans e5) hD, xs ++ [v], upd_same, ?_⟩
      rw [filt_yes b f hb]
      exact ((h2'.m (te_ex e5)).append (.cons hv .nil)).m (te_lst h1'')
    | false =>
      show _ ∧ _
      refine ⟨hi, (e2.trans e3).trans e4, xs, h1', ?_⟩
      rw [filt_no b f hb]
      exact h2'
  · obtain ⟨_, e2, xs, h1, h2⟩ := p
    exact q Dl xs H' (fresh_back e1 hD) (e1.trans e2) h1 h2
/-- one name, a test -/
theorem n_lcF {wi : TI} {n : Nat} {It : Nat → V → Hp → Prop} {j : Nat} (I : SI H0 Hb H σ sl ob) (src : Src wi σ H n It) (hn : n ≤ 90000) (dd : Nat → PD) (hIt : ∀ i x H', i < n → It i x H' → Tp H' x (dd i)) (b : Nat → Bool) (f : Nat → PD)
    (ht : ∀ i σ2 H2, i < n → SI H0 Hb H2 σ2 ((wipeS sl [j]).set j (.d (dd i))) ob → EvT t σ2 H2 (b i)) (he : ∀ i σ2 H2, i < n → b i = true → SI H0 Hb H2 σ2 ((wipeS sl [j]).set j (.d (dd i))) ob → EvX te σ2 H2 (.d (f i))) :
    EvN (tLc wi (gName j) t te [j]) σ H (((List.range n).filter b).map f) := n_lc src hn b f fun i x H3 hi hit e3 Q q => by
  have I3 := ((I.ext e3).wipe [j]).setD j (hIt i x H3 hi hit)
  exact q _ (wipe1 σ _) (ht i _ H3 hi I3) fun hb => he i _ H3 hi hb I3
theorem filt_all (n : Nat) (f : Nat → PD) : ((List.range n).filter fun _ => true).map f = (List.range n).map f := by rw [List.filter_eq_self.mpr fun _ _ => rfl]
theorem n_lc1 {wi : TI} {n : Nat} {It : Nat → V → Hp → Prop} {j : Nat} (I : SI H0 Hb H σ sl ob) (src : Src wi σ H n It) (hn : n ≤ 90000) (dd : Nat → PD) (hIt : ∀ i x H', i < n → It i x H' → Tp H' x (dd i)) (f : Nat → PD)
    (he : ∀ i σ2 H2, i < n → SI H0 Hb H2 σ2 ((wipeS sl [j]).set j (.d (dd i))) ob → EvX te σ2 H2 (.d (f i))) : EvN (tLc wi (gName j) tYes te [j]) σ H ((List.range n).map f) := by
  have h := n_lcF (te := te) (t := tYes) (j := j) I src hn dd hIt (fun _ => true) f (fun i σ2 H2 _ _ => t_yes) fun i σ2 H2 hi _ J => he i σ2 H2 hi J
  rw [filt_all] at h
  exact h
theorem n_lc2 {wi : TI} {n : Nat} {j k : Nat} {ds es : Nat → Option PD} (I : SI H0 Hb H σ sl ob) (src : Src wi σ H n (ItP ds es)) (hn : n ≤ 90000) (f : Nat → PD)
    (he : ∀ i d e σ2 H2, i < n → ds i = some d → es i = some e → SI H0 Hb H2 σ2 (((wipeS sl [j, k]).set j (.d d)).set k (.d e)) ob → EvX te σ2 H2 (.d (f i))) :
    EvN (tLc wi (gTup K 2 (gCons (gName j) (gCons (gName k) gNil))) tYes te [j, k]) σ H ((List.range n).map f) := by
  have h := n_lc (g := gTup K 2 (gCons (gName j) (gCons (gName k) gNil))) (te := te) (t := tYes) (vs := [j, k]) src hn (fun _ => true) f fun i x H3 hi hit e3 Q q => by
    obtain ⟨T, a, b, d, e, rfl, h1, h2, h3, h4, h5⟩ := hit
    have I3 := (((I.ext e3).wipe [j, k]).setD j h4).setD k h5
    exact ⟨T, [a, b], rfl, .inl (.inl h1), rfl, a, [b], rfl, b, [], rfl, rfl, q _ (wipe2 σ _ _) t_yes fun _ => he i d e _ H3 hi h2 h3 I3⟩
  rw [filt_all] at h
  exact h
theorem itd_at {ds : List PD} (dd : Nat → PD) (h : ∀ i d, ds[i]? = some d → dd i = d) : ∀ i x H', i < ds.length → ItD ds i x H' → Tp H' x (dd i) := fun i x H' _ ⟨d, h1, h2⟩ => by rw [h i d h1]; exact h2
end
end Wk
end
section
set_option Elab.async false
set_option linter.all false
set_option maxRecDepth 100000
set_option maxHeartbeats 4000000
/-! enumerate over a tuple. -/
namespace Wk
open PySem PySem.Spec PyProof.Rows L2 Evl
open AutoSeq1 (wpAny_loadPart')

/-- the tuple at t as it stands, each item in a new pair -/
def IteT (K : PySem.W.Frag) (t : Addr) : L2.It :=
  ⟨fun i H => ∃ (xs : List V) (x : V), SqT K H t xs ∧ xs[i]? = some x,
   fun i H v H' => ∃ T x, v = .ref T ∧ H T = none ∧ H' = upd H T (.tup [.int (i : Nat), x]) ∧ ∀ xs, SqT K H t xs → xs[i]? = some x,
   fun i H => ∃ xs : List V, SqT K H t xs ∧ xs.length ≤ i⟩
theorem turn_enumT {P : Program} {w : World} {K : PySem.W.Frag} {elts : List Expr} {kk : Nat} {tpos : Pos} (t e it : Addr) :
    Turn P w K (.Tuple elts kk tpos) (IteT K t) [e, it] e (fun i h => (∃ old, IsEnum h e it ((i : Nat) : Int) old) ∧ h.IsTupleIter it t i ∧ e ≠ it) where
  mem := by simp
  obj := fun i h st b hb => by
    obtain ⟨⟨old, h1⟩, ⟨o, h2, h3, h4⟩, _⟩ := st
    rcases (by simpa using hb : b = e ∨ b = it) with z | z
    · subst z; exact ⟨_, h1, fun v q => nomatch q⟩
    · subst z; exact ⟨o, h2, fun v q => by rw [h4] at q; cases q⟩
  keep := fun i h h' st k => ⟨⟨st.1.choose, k e (by simp) _ st.1.choose_spec⟩, st.2.1.at fun o q => k it (by simp) o q, st.2.2⟩
  item := by
    intro X hP hw hK hc i pins s σ H E I hf st hg
    subst hP hw hK
    obtain ⟨⟨old, h1⟩, h2, hne⟩ := st
    obtain ⟨xs, x, hq, hx⟩ := hg
    obtain ⟨its, rv, p, -⟩ := I.tuple hq
    obtain ⟨u, hu, ru⟩ := rv.get hx
    have l1 : e < s.heap.objs.size := Heap.lt_size h1
    have l2 : it < s.heap.objs.size := let ⟨_, q, _⟩ := h2; Heap.lt_size q
    obtain ⟨po, hpo, hpc, -⟩ := id p
    have nit : t ≠ it := fun z => by
      obtain ⟨o, ho, hoc, -⟩ := id h2
      rw [z, ho] at hpo
      cases hpo
      rw [hoc] at hpc
      injection hpc with q
      exact absurd q (by decide)
    have net : e ≠ t := fun z => by
      have q1 : s.heap.get? e = some _ := h1
      rw [z, hpo] at q1
      cases q1
      injection hpc with q
      exact absurd q (by decide)
    have ilt : i < its.toArray.size := by
      have := (List.getElem?_eq_some_iff.mp hu).1
      simpa using this
    refine wpAny_pyNext_enum_itemC (Draws.tuple (A := X.A.in1) (show X.A.in1.handled = none from I.ok.hd hc) it t nit its.toArray) h1 ⟨h2, p⟩ ilt hne (by simp [hne, net]) fun y h' tk hy ho st' hT _ hk => ?_
    have ey : y = u := by
      have hy : its.toArray[i]? = some y := hy
      rw [List.getElem?_toArray, hu] at hy
      exact (Option.some.inj hy).symm
    subst ey
    refine ⟨_, rfl, wpAny_letOwnedTupleGo_enum (s := { s with heap := h', toks := tk + 1 }) ho fun h'' he' sb => ?_⟩
    have hT2 := (sb.2 _ (Nat.ne_of_gt l1)).trans hT
    have mk : ObjOk X.prog X.w (upd H s.heap.objs.size (.tup [.int (i : Nat), x])) h'' s.heap.objs.size (.tup [.int (i : Nat), x]) :=
      ⟨by show 2 ≤ sizeLine; decide, [.int i tk, y], .cons ⟨tk, rfl⟩ (.cons ru .nil), ⟨_, hT2, rfl, _, rfl⟩⟩
    have J := I.turnedNew (t' := tk + 1) (ch := [e, it]) (fun b ob hb q => (sb.2 b fun z => hb (by simp [z])).trans (hk b ob (fun z => hb (by simp [z])) (fun z => hb (by simp [z])) q)) hf (Nat.le_refl _) mk
    refine ⟨.ref s.heap.objs.size, _, J, rfl, ⟨_, x, rfl, I.hok.fresh (Nat.le_refl _), rfl, fun ys hys => by rw [I.tuple_inj hys hq]; exact hx⟩, ⟨⟨y, ?_⟩, st'.1.at fun o q => (sb.2 it (Ne.symm hne)).trans q, hne⟩, fun b hb => ?_⟩
    · rw [show ((i + 1 : Nat) : Int) = (i : Int) + 1 by omega]
      exact he'
    · have lb : b < s.heap.objs.size := by
        rcases (by simpa using hb : b = e ∨ b = it) with z | z <;> rw [z] <;> assumption
      rw [upd_ne (Nat.ne_of_lt lb)]
      exact (hf b hb).1
  done := by
    intro X hP hw hK hc i pins s σ H E I hf st hg
    subst hP hw hK
    obtain ⟨⟨old, h1⟩, h2, hne⟩ := st
    obtain ⟨xs, hq, hx⟩ := hg
    obtain ⟨its, rv, p, -⟩ := I.tuple hq
    obtain ⟨f0, f1, f2, f3, f4, f5⟩ := hf it (by simp)
    have hl := rv.length
    obtain ⟨po, hpo, hpc, -⟩ := id p
    have nit : t ≠ it := fun z => by
      obtain ⟨o, ho, hoc, -⟩ := id h2
      rw [z, ho] at hpo
      cases hpo
      rw [hoc] at hpc
      injection hpc with q
      exact absurd q (by decide)
    have nx : its.toArray[i]? = none := by simp; omega
    have Dn : Draws X.prog X.w X.A.in1 it [it, t] 0 (fun _ _ => False) (fun _ h => h.IsTupleIter it t i ∧ h.IsTuple t its.toArray) :=
      { live := fun _ _ st => let ⟨o, ho, _⟩ := st.1; ⟨o, ho⟩
        frame := fun _ _ _ st hk => ⟨st.1.at fun o q => hk it (by simp) o q, st.2.at fun o q => hk t (by simp) o q⟩
        item := fun _ _ _ _ h0 => absurd h0 (Nat.not_lt_zero _)
        done := fun _ _ _ st hE => RZ.nextOf_tuple_end (show X.A.in1.handled = none from I.ok.hd hc) st.1 st.2 nx hE }
    exact wpAny_pyNext_enum_endD Dn h1 ⟨h2, p⟩ fun h' eb => ⟨rfl, I.turned (t' := s.toks) (fun b o hb q => eb b o hb q) f0 f1 f3 f4 f5⟩
  self := fun A i s Q E st h => wpAny_pyIter_enum st.1.choose_spec h

theorem meets_enumT (l : Addr) (items : Array Value) (n : Nat) (dct : Option Addr) (sl : Array (Option Value)) :
    Meets (Builtin.«enumerate.__new__» ⟨[.type "enumerate", .ref l], []⟩) (fun _ R s => s.heap.get? l = some { cls := .type "tuple", dict := dct, data := .seq items n, slots := sl } ∧
      R (.ok (.ret (.ref (s.heap.push { cls := .type "tuple_iterator", data := .fields #[.ref l, .int 0 0] }).objs.size)))
        { s with heap := (s.heap.push { cls := .type "tuple_iterator", data := .fields #[.ref l, .int 0 0] }).push { cls := .type "enumerate", data := .fields #[.none, .bool false, .ref s.heap.objs.size, rawInt 0, .none, .none] } }) :=
  .of_wp fun prog w A R s hx => by
    obtain ⟨hp, g, d, tk, os⟩ := s; obtain ⟨hl, h⟩ := hx
    have hsub := sub_enumerate
    have hT : Heap.IsTuple (Shared.heap ⟨hp, g, d, tk, os⟩) l items := ⟨_, hl, rfl, n, rfl⟩
    wp_walk using wpAny_loadPart' hl
    refine wpAny_stack_any fun st => wpAny_pure ?_
    split
    · rename_i c _ _ _ _ _
      cases (c == Value.type "enumerate")
      all_goals
        wp_walk using wpAny_loadPart' hl, wpAny_pyIter_tuple hT
        exact ⟨_, rfl, h⟩
    · wp_walk using wpAny_loadPart' hl, wpAny_pyIter_tuple hT
      exact ⟨_, rfl, h⟩
theorem call_enumT {prog : Program} {w : World} {A : Around} {E : Value → Shared → Prop} {s : Shared} {l : Addr} {items : Array Value} {Q : Value → Shared → Prop} (hL : s.heap.IsTuple l items)
    (h : ∀ h', IsEnum h' (s.heap.objs.size + 1) s.heap.objs.size 0 .none → h'.IsTupleIter s.heap.objs.size l 0 → (∀ b o, s.heap.get? b = some o → h'.get? b = some o) → Q (.ref (s.heap.objs.size + 1)) { s with heap := h' }) :
    wpAny (model prog w) A (call (.type "enumerate") [.ref l]) Q E s := by
  obtain ⟨⟨c, dct, dt, sl⟩, hl, hc, n, hd⟩ := hL
  have hc : c = .type "tuple" := hc
  have hd : dt = .seq items n := hd
  subst hc hd
  refine callType_new F.called_enumerate (by decide) (F.typeCall_enumerate_1 _) (F.newCall_enumerate_1 _) (fun obj => F.args_object_init_2 obj _) F.entry_enumerate_new (meets_enumT l items n dct sl) ⟨hl, ?_⟩
  generalize hI : ({ cls := .type "tuple_iterator", data := .fields #[.ref l, .int 0 0] } : Obj) = it
  have hz : (s.heap.push it).objs.size = s.heap.objs.size + 1 := Heap.size_push ..
  show _ ∧ _
  rw [hz]
  generalize hJ : ({ cls := .type "enumerate", data := .fields #[.none, .bool false, .ref s.heap.objs.size, rawInt 0, .none, .none] } : Obj) = en
  have he := Heap.get?_push_size (s.heap.push it) (o := en) (by rw [← hJ]; rfl)
  rw [hz] at he
  refine ⟨⟨en, he, by rw [← hJ]⟩, h _ (by rw [← hJ] at he ⊢; exact he) ⟨it, Heap.get?_push_of_some _ (Heap.get?_push_size _ (by rw [← hI]; rfl)), by rw [← hI], by rw [← hI]; rfl⟩ fun b o x => Heap.get?_push_of_some _ (Heap.get?_push_of_some _ x)⟩
def iEnumT (K : PySem.W.Frag) (ta : TA) : TI := fun σ H R => ta σ H fun vs H1 => ∃ t xs, vs = [.ref t] ∧ SqT K H1 t xs ∧ R (IteT K t) H1
theorem pi_enumT {X : Cx} {e : Expr} {ta : TA} {p pos tpos : Pos} {elts : List Expr} {kk : Nat} (hg : Gl X "enumerate") (hm : X.mg "enumerate" = none) (ha : PA X [e] ta) (hs : starEach [e] X.env = [(false, eval e X.env)] := by rfl) :
    PI X (.Tuple elts kk tpos) (.Call (.Name "enumerate" p) [e] [] pos) (iEnumT X.K ta) := by
  refine ⟨fun pins s σ H R I h => Call_ (ld_blt I hg hm boot_enumerate (PyProof.Rows.callWith_type1 (thn (ha.run pos pins s σ H _ I h) fun us s1 ⟨vs, H1, I1, r1, q1⟩ => ?_) hs rfl))⟩
  obtain ⟨t, xs, ex, hq, q⟩ := q1
  subst ex
  cases r1 with
  | cons r rr =>
    cases rr
    cases r
    obtain ⟨its, rv, p', -⟩ := I1.tuple hq
    refine call_enumT (show s1.heap.IsTuple t its.toArray from p') fun h' he hit hk => wpAny_pyIter_enum he ?_
    have I2 := I1.kept (t' := s1.toks) hk
    refine ⟨s1.heap.objs.size + 1, [s1.heap.objs.size + 1, s1.heap.objs.size], _, _, H1, rfl, I2, turn_enumT t (s1.heap.objs.size + 1) s1.heap.objs.size, ⟨⟨.none, he⟩, hit, Nat.succ_ne_self _⟩, fun b hb => ?_, q⟩
    have hle : s1.heap.objs.size ≤ b := by
      rcases (by simpa using hb : b = s1.heap.objs.size + 1 ∨ b = s1.heap.objs.size) with z | z
      · rw [z]; exact Nat.le_add_right _ _
      · rw [z]; exact Nat.le_refl _
    exact I1.fpOk hle (I1.hok.fresh hle)
theorem walk_enumT {K : PySem.W.Frag} {t : Addr} {xs : List V} : Walk (IteT K t) xs.length (fun H => SqT K H t xs) (YPair (fun i => some (.int (i : Nat))) (fun i => xs[i]?)) := by
  refine ⟨fun i _ hi q => ⟨xs, xs[i], q, by simp [hi]⟩, fun _ q => ⟨xs, q, Nat.le_refl _⟩, fun i H v H' _ q y => ?_⟩
  obtain ⟨T, x, h1, h2, h3, h4⟩ := y
  exact ⟨T, .int (i : Nat), x, h1, h2, h3, rfl, h4 xs q⟩
theorem walk_zipT {K : PySem.W.Frag} {a b : Addr} {xs ys : List V} {n : Nat} (hn : n = min xs.length ys.length) : Walk (RZ.ItzT K a b) n (fun H => SqT K H a xs ∧ SqT K H b ys) (YPair (fun i => xs[i]?) (fun i => ys[i]?)) := by
  subst hn
  refine ⟨fun i _ hi q => ?_, fun _ q => ⟨xs, ys, q.1, q.2, by omega⟩, fun i H v H' _ q y => ?_⟩
  · have l1 : i < xs.length := by omega
    have l2 : i < ys.length := by omega
    exact ⟨xs, ys, xs[i], ys[i], q.1, q.2, List.getElem?_eq_getElem l1, List.getElem?_eq_getElem l2⟩
  · obtain ⟨T, x, z, h1, h2, h3, h4, h5⟩ := y
    exact ⟨T, x, z, h1, h2, h3, h4 xs q.1, h5 ys q.2⟩
section
variable {K : PySem.W.Frag} {H0 Hb H H' : Hp} {σ : L2.St} {sl : List Sl} {ob : List (Addr × Ob)} {ta tb te : TE} {d e : PD} {ds es : List PD} {D : Ends} {tu : TS}
/-- what a turn over pairs gives -/
theorem itp_of {xs ys : Nat → Option V} {i : Nat} {H3 H4 : Hp} {x : V} (f g : Nat → Option PD) (y : YPair xs ys i H3 x H4) (h1 : ∀ v, xs i = some v → ∃ d, f i = some d ∧ Tp H3 v d) (h2 : ∀ v, ys i = some v → ∃ d, g i = some d ∧ Tp H3 v d) : Ex H3 H4 ∧ ItP f g i x H4 := by
  obtain ⟨T, a, b, rfl, hT, rfl, e1, e2⟩ := y
  obtain ⟨d1, f1, f2⟩ := h1 a e1
  obtain ⟨d2, g1, g2⟩ := h2 b e2
  have ex := Ex.new (o := .tup [a, b]) hT
  exact ⟨ex, T, a, b, d1, d2, rfl, upd_same, f1, g1, f2.m (te_ex ex), g2.m (te_ex ex)⟩
theorem src_enumT (h : EvX ta σ H (.d (.tuple ds))) : Src (iEnumT K (tCons ta tNil)) σ H ds.length (ItP (fun i => some (.int (i : Nat))) (fun i => ds[i]?)) := fun H1 e1 R r => h H1 e1 _ fun v H2 e2 ⟨w, ew, hw⟩ => by
  cases ew
  cases hw with
  | @tup a xs _ h1 h2 =>
    refine ⟨a, xs, rfl, .inl (.inl h1), r _ H2 (fun H => SqT K H a xs) _ e2 (by rw [← h2.length]; exact walk_enumT) (fun H3 e3 => .inl (.inl (e3 _ _ h1))) fun i H3 x H4 hi e3 y => ?_⟩
    exact itp_of _ _ y (fun v hv => by cases hv; exact ⟨_, rfl, .int _⟩) fun v hv => (h2.m (te_ex e3)).get' hv
theorem src_zipT (ha : EvX ta σ H (.d (.tuple ds))) (hb : EvX tb σ H (.d (.tuple es))) : Src (RZ.iZipA K (tCons ta (tCons tb tNil))) σ H (min ds.length es.length) (ItP (fun i => ds[i]?) (fun i => es[i]?)) := fun H1 e1 R r => ha H1 e1 _ fun v H2 e2 ⟨w, ew, hw⟩ => hb H2 (e1.trans e2) _ fun v' H3 e3 ⟨w', ew', hw'⟩ => by
  cases ew
  cases ew'
  cases hw with
  | @tup a xs _ h1 h2 =>
    cases hw' with
    | @tup b ys _ h3 h4 =>
      refine ⟨a, b, xs, ys, rfl, .inr ⟨.inl (.inl (e3 _ _ h1)), .inl (.inl h3), r _ H3 (fun H => SqT K H a xs ∧ SqT K H b ys) _ (e2.trans e3) (walk_zipT (by rw [h2.length, h4.length])) (fun H4 e4 => ⟨.inl (.inl (e4 _ _ (e3 _ _ h1))), .inl (.inl (e4 _ _ h3))⟩) fun i H4 x H5 hi e4 y => ?_⟩⟩
      exact itp_of _ _ y (fun v hv => ((h2.m (te_ex e3)).m (te_ex e4)).get' hv) fun v hv => (h4.m (te_ex e4)).get' hv
theorem src_zipL (ha : EvX ta σ H (.g ds)) (hb : EvX tb σ H (.g es)) : Src (RZ.iZipA K (tCons ta (tCons tb tNil))) σ H (min ds.length es.length) (ItP (fun i => ds[i]?) (fun i => es[i]?)) := fun H1 e1 R r => ha H1 e1 _ fun v H2 e2 ⟨a, xs, ew, h1, h2⟩ => hb H2 (e1.trans e2) _ fun v' H3 e3 ⟨b, ys, ew', h3, h4⟩ => by
  cases ew
  cases ew'
  refine ⟨a, b, xs, ys, rfl, .inl ⟨.inl (.inl (e3 _ _ h1)), .inl (.inl h3), r _ H3 (fun H => SqL K H a xs ∧ SqL K H b ys) _ (e2.trans e3) (walk_zip (by rw [h2.length, h4.length])) (fun H4 e4 => ⟨.inl (.inl (e4 _ _ (e3 _ _ h1))), .inl (.inl (e4 _ _ h3))⟩) fun i H4 x H5 hi e4 y => ?_⟩⟩
  exact itp_of _ _ y (fun v hv => ((h2.m (te_ex e3)).m (te_ex e4)).get' hv) fun v hv => (h4.m (te_ex e4)).get' hv
/-- for i, x in enumerate(t) -/
theorem s_for_enumT {j k : Nat} (I : SI H0 Hb H σ sl ob) (h : EvX ta σ H (.d (.tuple ds))) (Pv : Hp → Nat → L2.St → Hp → Prop) (h0 : ∀ H1, TE' Hb H1 → SI H0 H1 H1 σ sl ob → Pv H1 0 σ H1) (hP : ∀ B i σ H, Pv B i σ H → TE' B H)
    (hs : ∀ B i d v σ H H', ds[i]? = some d → Pv B i σ H → Ex H H' → Tp H' v d → tu { D with nx := Pv B (i + 1), ct := Pv B (i + 1), bk := D.nx } ((σ.set j (some (.int (i : Nat)))).set k (some v)) H') (hd : ∀ B σ H, Pv B ds.length σ H → D.nx σ H) :
    tFor (iEnumT K (tCons ta tNil)) (gTup K 2 (gCons (gName j) (gCons (gName k) gNil))) tu D σ H :=
  h H (Ex.refl H) _ fun v H1 e1 ⟨w, e2, hw⟩ => by
    cases e2
    cases hw with
    | @tup a xs _ h1 h2 =>
      have hl := h2.length
      refine ⟨a, xs, rfl, .inl (.inl h1), for_it (walk_enumT (K := K) (t := a) (xs := xs)) (Pv H1) (h0 H1 (I.ext e1).tb (I.ext e1).base) (fun i σ H _ p => .inl (.inl (hP _ _ _ _ p _ _ h1))) (fun i x σ H2 H3 hi p y => ?_) (by rw [hl]; exact hd H1)⟩
      obtain ⟨T, a', b', rfl, hT, rfl, f1, f2⟩ := y
      cases f1
      obtain ⟨d, hd1, hd2⟩ := h2.get' f2
      have ex := Ex.new (o := .tup [.int (i : Nat), b']) hT
      exact ⟨T, [.int (i : Nat), b'], rfl, .inl (.inl upd_same), rfl, _, [b'], rfl, _, [], rfl, rfl, hs H1 i d b' σ H2 _ hd1 p ex ((hd2.m (hP _ _ _ _ p)).m (te_ex ex))⟩
/-- for x, y in zip(t, u), tuples -/
theorem s_for_zipT {j k : Nat} (I : SI H0 Hb H σ sl ob) (ha : EvX ta σ H (.d (.tuple ds))) (hb : EvX tb σ H (.d (.tuple es))) (Pv : Hp → Nat → L2.St → Hp → Prop) (h0 : ∀ H1, TE' Hb H1 → SI H0 H1 H1 σ sl ob → Pv H1 0 σ H1) (hP : ∀ B i σ H, Pv B i σ H → TE' B H)
    (hs : ∀ B i d e v w σ H H', ds[i]? = some d → es[i]? = some e → Pv B i σ H → Ex H H' → Tp H' v d → Tp H' w e → tu { D with nx := Pv B (i + 1), ct := Pv B (i + 1), bk := D.nx } ((σ.set j (some v)).set k (some w)) H') (hd : ∀ B σ H, Pv B (min ds.length es.length) σ H → D.nx σ H) :
    tFor (RZ.iZipA K (tCons ta (tCons tb tNil))) (gTup K 2 (gCons (gName j) (gCons (gName k) gNil))) tu D σ H :=
  ha H (Ex.refl H) _ fun v H1 e1 ⟨w, e2, hw⟩ => hb H1 e1 _ fun v' H2 e3 ⟨w', e4, hw'⟩ => by
    cases e2
    cases e4
    cases hw with
    | @tup a xs _ h1 h2 =>
      cases hw' with
      | @tup b ys _ h3 h4 =>
        have h1' := e3 _ _ h1
        have h2' := h2.m (te_ex e3)
        refine ⟨a, b, xs, ys, rfl, .inr ⟨.inl (.inl h1'), .inl (.inl h3), for_it (walk_zipT (K := K) (a := a) (b := b) (n := min ds.length es.length) (by rw [h2.length, h4.length])) (Pv H2) (h0 H2 ((I.ext e1).ext e3).tb ((I.ext e1).ext e3).base) (fun i σ H _ p => ⟨.inl (.inl (hP _ _ _ _ p _ _ h1')), .inl (.inl (hP _ _ _ _ p _ _ h3))⟩) (fun i x σ H3 H4 hi p y => ?_) (hd H2)⟩⟩
        obtain ⟨T, a', b', rfl, hT, rfl, f1, f2⟩ := y
        obtain ⟨d, hd1, hd2⟩ := h2'.get' f1
        obtain ⟨e, he1, he2⟩ := h4.get' f2
        have ex := Ex.new (o := .tup [a', b']) hT
        exact ⟨T, [a', b'], rfl, .inl (.inl upd_same), rfl, _, [b'], rfl, _, [], rfl, rfl, hs H2 i d e a' b' σ H3 _ hd1 he1 p ex ((hd2.m (hP _ _ _ _ p)).m (te_ex ex)) ((he2.m (hP _ _ _ _ p)).m (te_ex ex))⟩
end
end Wk
end
section
set_option Elab.async false
set_option linter.all false
set_option maxRecDepth 100000
set_option maxHeartbeats 4000000
/-! tuple * int for small ints; sorted over tuples and lists of data and over a dict's tuple keys. -/
namespace Wk
open PySem PySem.Spec PyProof.Rows L2 Evl
open AutoSeq1 (wpAny_loadPart')

theorem tuple_mul1 (l : Addr) (items : Array Value) (n : Nat) (dd : Option Addr) (sl : Array (Option Value)) (u : Tok) :
    Meets (Builtin.«tuple.__mul__» ⟨[.ref l, .int 1 u], []⟩) (fun _ R s => s.heap.get? l = some { cls := .type "tuple", dict := dd, data := .seq items n, slots := sl } ∧ R (.ok (.ret (Value.ref l))) s) :=
  .of_wp fun prog w A R s h => by
    obtain ⟨hp, g, d, tk, os⟩ := s
    obtain ⟨hl, h⟩ := h
    have f1 := AutoSeq1.idx_int
    have hT : Shared.TypeIs ⟨hp, g, d, tk, os⟩ (.ref l) "tuple" := ⟨_, hl, rfl⟩
    wp_walk using wpAny_loadPart' hl, wpAny_typeOf hT
    exact ⟨_, rfl, h⟩
theorem tuple_mul0 (l : Addr) (items : Array Value) (n : Nat) (dd : Option Addr) (sl : Array (Option Value)) (u : Tok) (c1 : items.isEmpty = false) :
    Meets (Builtin.«tuple.__mul__» ⟨[.ref l, .int 0 u], []⟩) (fun _ R s => s.heap.get? l = some { cls := .type "tuple", dict := dd, data := .seq items n, slots := sl } ∧
      R (.ok (.ret (Value.ref s.heap.objs.size))) { s with heap := s.heap.push { cls := Value.type "tuple", data := Data.seq #[] }, toks := s.toks }) :=
  .of_wp fun prog w A R s h => by
    obtain ⟨hp, g, d, tk, os⟩ := s
    obtain ⟨hl, h⟩ := h
    have f1 := AutoSeq1.idx_int
    wp_walk using wpAny_loadPart' hl
    exact ⟨_, rfl, h⟩
def rRepA (K : PySem.W.Frag) : R2 := fun x y H Q => ∃ l k xs, x = .ref l ∧ y = .int k ∧ SqT K H l xs ∧ xs ≠ [] ∧ 0 ≤ k ∧ k ≤ 1000 ∧ xs.length ≤ 1000 ∧ (k = 1 → Q (.ref l) H) ∧ (k ≠ 1 → ∀ p, H p = none → Q (.ref p) (upd H p (.tup (List.replicate k.toNat xs).flatten)))
section
variable {X : Cx}
theorem op_repA : OpR X (binaryOp .Mult) (rRepA X.K) := by
  intro pins s σ H x y v u Q I rx ry h
  obtain ⟨l, k, xs, rfl, rfl, hT, hne, h1, h2, hz, q1, q2⟩ := h
  by_cases hk : 2 ≤ k
  · exact op_repT pins s σ H _ _ v u Q I rx ry ⟨l, k, xs, rfl, rfl, hT, hne, hk, h2, hz, q2 (by omega)⟩
  cases rx
  obtain ⟨t, rfl⟩ := ry
  obtain ⟨its, r, ⟨⟨cls, dd, data, sl⟩, ho, hc, n, hd⟩, hs⟩ := I.tuple hT
  simp only at hc hd
  subst hc hd
  have hle : its.length = xs.length := r.length.symm
  have hi : its.toArray.isEmpty = false := by
    cases its with
    | nil => exact absurd (List.eq_nil_of_length_eq_zero (by rw [← hle]; rfl)) hne
    | cons a b => rfl
  by_cases h3 : k = 1
  · subst h3
    exact wpAny_binaryOp_repeat_ref (T := "tuple") (U := "int") (by decide) ⟨_, ho, rfl⟩ (fun s' => typeIs_int s' 1 t) noFill_tuple_mul F.fills_int_mul F.slot_int_rmul repeat_tuple F.slot_int_index.lookup
      (call_meets F.slot_int_rmul (typeIs_int s 1 t) F.entry_int_rmul (F.args_int_rmul_2 _ _) (int_rmul_tuple 1 t l its.toArray n dd sl)
        ⟨ho, rfl, ⟨_, ho, rfl⟩, call_meets F.slot_tuple_mul ⟨_, ho, rfl⟩ F.entry_tuple_mul (F.args_tuple_mul_2 _ _) (tuple_mul1 l its.toArray n dd sl t) ⟨ho, .ref l, H, I, rfl, q1 rfl⟩⟩)
  · have h4 : k = 0 := by omega
    subst h4
    refine wpAny_binaryOp_repeat_ref (T := "tuple") (U := "int") (by decide) ⟨_, ho, rfl⟩ (fun s' => typeIs_int s' 0 t) noFill_tuple_mul F.fills_int_mul F.slot_int_rmul repeat_tuple F.slot_int_index.lookup
      (call_meets F.slot_int_rmul (typeIs_int s 0 t) F.entry_int_rmul (F.args_int_rmul_2 _ _) (int_rmul_tuple 0 t l its.toArray n dd sl)
        ⟨ho, rfl, ⟨_, ho, rfl⟩, call_meets F.slot_tuple_mul ⟨_, ho, rfl⟩ F.entry_tuple_mul (F.args_tuple_mul_2 _ _) (tuple_mul0 l its.toArray n dd sl t hi) ⟨ho, ?_⟩⟩)
    refine ⟨.ref s.heap.objs.size, _, I.laid (t' := s.toks) (o := .tup []) (fun b ob q => Heap.get?_push_of_some _ q) (Nat.le_refl _) ?_, rfl, q2 h3 _ (I.hok.fresh (Nat.le_refl _))⟩
    exact ⟨Nat.zero_le _, [], .nil, IsTup.new _ _⟩
end
section
variable {K : PySem.W.Frag} {H : Hp} {σ : L2.St} {ta tb : TE} {d : PD}
/-- (x,) * n -/
theorem x_repT {n : Int} (ha : EvX ta σ H (.d (.tuple [d]))) (hb : EvX tb σ H (.d (.int n))) (h0 : 0 ≤ n) (hz : n ≤ 1000) : EvX (tOp (rRepA K) ta tb) σ H (.d (.tuple (List.replicate n.toNat d))) := fun H1 e1 Q q =>
  ha H1 e1 _ fun x H2 e2 ⟨w, ew, hw⟩ => hb.int H2 (e1.trans e2) _ fun H3 e3 => by
    cases ew
    cases hw with
    | @tup a xs _ h1 h2 =>
      have hl := h2.length
      match xs, h2, hl with
      | [v], .cons hv _, _ =>
        refine ⟨_, _, _, rfl, rfl, .inl (.inl (e3 _ _ h1)), by simp, h0, hz, by simp, fun z => ?_, fun _ l hl => q _ _ ((e2.trans e3).trans (Ex.new hl)) ⟨_, rfl, .tup upd_same ?_⟩⟩
        · subst z
          exact q _ _ (e2.trans e3) ⟨_, rfl, .tup (e3 _ _ h1) (.cons (hv.m (te_ex e3)) .nil)⟩
        · rw [flat_rep]
          exact (TpL.rep (hv.m (te_ex e3)) _).m (te_ex (Ex.new hl))
end
end Wk
end
section
set_option Elab.async false
set_option linter.all false
set_option maxRecDepth 100000
set_option maxHeartbeats 4000000
/-! sorted over tuples and lists of data and over a dict's tuple keys. -/
namespace Wk
open PySem PySem.Spec PyProof.Rows L2 Evl PySem.W PySem.Calls
section
variable {P : Program} {w : World} {H : Hp} {h : Heap}
mutual
theorem tp_reads (hok : HOk P w H h) : ∀ (d : PD) (v : V) (u : Value), Tp H v d → RelV v u → Reads h u d []
  | .none, _, _, x, r => by cases x; cases r; exact .none
  | .bool b, _, _, x, r => by cases x; cases r; exact .bool b
  | .int i, _, _, x, r => by
    cases x
    obtain ⟨t, rfl⟩ := r
    exact .int i t
  | .str _, _, _, x, _ => by cases x
  | .list _, _, _, x, _ => by cases x
  | .tuple ds, _, _, x, r => by
    cases x with
    | @tup a xs _ h1 h2 =>
      cases r
      obtain ⟨_, its, rv, o, ho, hc, n, hd⟩ := hok _ _ h1
      refine .tuple ho hc hd (as := []) ?_
      exact tpl_reads hok ds xs its h2 rv
  | .dict _, _, _, x, _ => by cases x
theorem tpl_reads (hok : HOk P w H h) : ∀ (ds : List PD) (vs : List V) (us : List Value), TpL H vs ds → Vals vs us → ReadsAll h us ds []
  | [], _, _, x, r => by
    cases x; cases r; exact .nil
  | d :: ds, _, _, x, r => by
    cases x with
    | cons x1 x2 =>
      cases r with
      | cons r1 r2 => exact ReadsAll.cons (as := []) (bs := []) (tp_reads hok d _ _ x1 r1) (tpl_reads hok ds _ _ x2 r2)
end
end
def RD (H : Hp) (u : Value) (d : PD) : Prop := ∃ v, RelV v u ∧ Tp H v d
theorem each_of {H : Hp} : ∀ {ds : List PD} {vs : List V} {us : List Value}, TpL H vs ds → Vals vs us → EachIs (RD H) us ds
  | _, _, _, .nil, .nil => .nil
  | _, _, _, .cons x t, .cons r s => .cons ⟨_, r, x⟩ (each_of t s)
theorem each_back {H : Hp} : ∀ {ds : List PD} {us : List Value}, EachIs (RD H) us ds → ∃ vs, Vals vs us ∧ TpL H vs ds
  | _, _, .nil => ⟨[], .nil, .nil⟩
  | _, _, .cons ⟨v, r, x⟩ t => by
    obtain ⟨vs, h1, h2⟩ := each_back t
    exact ⟨v :: vs, .cons r h1, .cons x h2⟩
abbrev sortD (ds : List PD) : List PD := ds.mergeSort (dataLe false id)
section
variable {X : Cx} {pins : List (Addr × Obj)} {s : Shared} {σ : L2.St} {H : Hp} {Q : VK} {xs : List V} {ds : List PD} {a : Addr}
theorem sorted_of (hu : X.A.units + 64 < cLine) (I : Inv X pins σ H s)
    (hcol : ∀ (R : List Value → Shared → Prop), (∀ h' tk us, (∀ b o, s.heap.get? b = some o → h'.get? b = some o) → Vals xs us → R us { s with heap := h', toks := tk }) → wpAny (model X.prog X.w) X.A.in1 (collect (.ref a)) R X.xe s)
    (t : TpL H xs ds) (hal : AllAlike ds) (hk : Sortable ds) (hd : ∀ d ∈ ds, d.depth ≤ 20) (hz : xs.length ≤ sizeLine) (q : ∀ p ys, H p = none → TpL H ys (sortD ds) → Q (.ref p) (upd H p (.lst ys))) :
    wpAny (model X.prog X.w) X.A (call (.builtin "sorted") [.ref a]) (EP X pins σ Q) X.xe s := by
  refine call_function_entry kind_sorted plain_sorted entry_sorted (args_sorted1 _) ?_
  unfold Builtin.«sorted»
  refine wpAny_bind (m := checkCount "sorted" 1 1 _) (wpAny_pure ?_)
  refine wpAny_bind (hcol _ fun h' tk us keep r => ?_)
  have I1 : Inv X pins σ H { s with heap := h', toks := tk } := I.kept (t' := tk) keep
  have hl : us.length = xs.length := r.length.symm
  refine wpAny_bind (wpAny_newList ?_ (by omega))
  have ho : (h'.push { cls := .type "list", data := .seq us.toArray }).get? h'.objs.size = some (seqObj "list" us.toArray 0) := Heap.get?_push_size _ rfl
  have hok2 : HOk X.prog X.w H (h'.push { cls := .type "list", data := .seq us.toArray }) := I1.hok.kept fun b o e => Heap.get?_push_of_some _ e
  have e1 : EachIs (RD H) us ds := each_of t r
  have er : EachIs (fun v b => ∃ as, Reads (h'.push { cls := .type "list", data := .seq us.toArray }) v (id b) as ∧ h'.objs.size ∉ as) us ds :=
    e1.mono fun u d ⟨v, r1, x1⟩ => ⟨[], tp_reads hok2 d v u x1 r1, by simp⟩
  refine wpAny_bind (wpAny_holding (wpAny_mono (list_sort_data (A := X.A.in1) (E := X.xe) (R := RD H) (enc := id) (bs := ds) (vs := us) (Q := fun _ s' => EP X pins σ Q (.ref h'.objs.size) s')
    (s := { s with heap := h'.push { cls := .type "list", data := .seq us.toArray }, toks := tk }) ho e1 er (by rw [List.map_id]; exact hal) (by rw [List.map_id]; exact hk) (by have a2 : us.length = ds.length := e1.length; omega) (fun d hd' => ?_) fun out hlen eo => ?_) (fun _ s' x => ?_) fun _ _ e => e))
  · have := hd d hd'
    show X.A.units + 1 + 1 + d.depth < cLine
    omega
  · obtain ⟨ys, v1, v2⟩ := each_back eo
    obtain ⟨e, he⟩ := sortedHeap_at (vs := us) (out := out.toArray) ho
    have hz2 : ys.length ≤ sizeLine := by have a1 : ys.length = out.length := v1.length; have a2 : us.length = ds.length := e1.length; have a3 : out.length = ds.length := hlen; omega
    refine ⟨.ref h'.objs.size, _, I1.laid (t' := tk) (o := .lst ys) (fun b o q => ?_) (Nat.le_refl _) ⟨hz2, out, e, v1, he⟩, rfl, q _ ys (I1.hok.fresh (Nat.le_refl _)) v2⟩
    have lb : b < h'.objs.size := Heap.lt_size q
    rw [sortedHeap_old (Nat.ne_of_lt lb) (by rw [size_push']; exact Nat.lt_succ_of_lt lb)]
    exact Heap.get?_push_of_some _ q
  · exact wpAny_pure ⟨_, rfl, x⟩
/-- sorted(xs) -/
def rSortD (K : PySem.W.Frag) : List V → Hp → VK → Prop := fun vs H Q => ∃ a xs ds, vs = [.ref a] ∧ (SqL K H a xs ∨ SqT K H a xs) ∧ TpL H xs ds ∧ AllAlike ds ∧ Sortable ds ∧ (∀ d ∈ ds, d.depth ≤ 20) ∧ ∀ p ys, H p = none → TpL H ys (sortD ds) → Q (.ref p) (upd H p (.lst ys))
theorem cr_sortedD (hu : X.A.units + 64 < cLine) : CallR X (.builtin "sorted") (rSortD X.K) := by
  intro pins s σ H vs us Q I r h
  obtain ⟨a, xs, ds, rfl, hs, t, hal, hk, hd, q⟩ := h
  obtain ⟨u, rfl, ru⟩ := vals1 r
  obtain rfl : u = Value.ref a := ru
  rcases hs with hs | hs
  · obtain ⟨its, rv, hl, hz⟩ := I.list hs
    have hle := rv.length
    refine sorted_of hu I (fun R hR => ?_) t hal hk hd hz q
    obtain ⟨⟨cls, dd, data, sl⟩, ho, hc, n, hd⟩ := hl.isList
    refine wpAny_collect_seq a (.inl rfl) ho hc hd (fun h' hk => ?_) (by rw [List.size_toArray]; omega)
    have e : its.toArray.toList = its := by simp
    rw [e]
    exact hR h' s.toks its hk rv
  · obtain ⟨its, rv, ⟨o, ho, hc, n, hd'⟩, hz⟩ := I.tuple hs
    have hle := rv.length
    refine sorted_of hu I (fun R hR => ?_) t hal hk hd hz q
    refine wpAny_collect_seq a (.inr rfl) ho hc hd' (fun h' hk => ?_) (by rw [List.size_toArray]; omega)
    have e : its.toArray.toList = its := by simp
    rw [e]
    exact hR h' s.toks its hk rv
/-! ### dicts of tuple keys -/
/-- keys that are lists of ints, values ints -/
def dtK (m : List (List Int × Int)) : List (List Key × V) := m.map fun p => (p.1.map Sum.inl, V.int p.2)
theorem inl_inj : ∀ {a b : List Int}, a.map (Sum.inl : Int → Key) = b.map Sum.inl → a = b
  | [], [], _ => rfl
  | [], _ :: _, h => nomatch h
  | _ :: _, [], h => nomatch h
  | x :: a, y :: b, h => by
    rw [List.map_cons, List.map_cons] at h
    injection h with h1 h2
    injection h1 with h1
    rw [h1, inl_inj h2]
theorem dec_inl (a b : List Int) : decide (a.map (Sum.inl : Int → Key) = b.map Sum.inl) = decide (a = b) := by
  by_cases h : a = b
  · rw [h, decide_eq_true rfl, decide_eq_true rfl]
  · rw [decide_eq_false h, decide_eq_false fun z => h (inl_inj z)]
theorem dtK_find (k : List Int) : ∀ m : List (List Int × Int), valV (dtK m) (k.map Sum.inl) = ((m.find? fun kv => decide (kv.1 = k)).map (·.2)).map V.int
  | [] => rfl
  | p :: m => by
    have ih := dtK_find k m
    unfold valV dtK at ih ⊢
    rw [List.map_cons, List.find?_cons, List.find?_cons, dec_inl]
    cases decide (p.1 = k) with
    | true => rfl
    | false => exact ih
theorem dtK_any (k : List Int) : ∀ m : List (List Int × Int), ((dtK m).any fun kv => decide (kv.1 = k.map Sum.inl)) = m.any fun kv => decide (kv.1 = k)
  | [] => rfl
  | p :: m => by
    have ih := dtK_any k m
    unfold dtK at ih ⊢
    rw [List.map_cons, List.any_cons, List.any_cons, dec_inl, ih]
def putD (m : List (List Int × Int)) (k : List Int) (v : Int) : List (List Int × Int) :=
  if (m.any fun kv => decide (kv.1 = k)) = true then m.map (fun kv => if kv.1 = k then (kv.1, v) else kv) else m ++ [(k, v)]
theorem dtK_put (m : List (List Int × Int)) (k : List Int) (v : Int) : putK (dtK m) (k.map Sum.inl) (.int v) = dtK (putD m k v) := by
  unfold putK putD
  rw [dtK_any]
  split
  · unfold dtK
    rw [List.map_map, List.map_map]
    refine List.map_congr_left fun p _ => ?_
    show (if p.1.map Sum.inl = k.map Sum.inl then (p.1.map Sum.inl, V.int v) else (p.1.map Sum.inl, V.int p.2)) = _
    by_cases h : p.1 = k
    · rw [if_pos (by rw [h])]
      show _ = ((if p.1 = k then (p.1, v) else p).1.map Sum.inl, V.int (if p.1 = k then (p.1, v) else p).2)
      rw [if_pos h]
    · rw [if_neg fun z => h (inl_inj z)]
      show _ = ((if p.1 = k then (p.1, v) else p).1.map Sum.inl, V.int (if p.1 = k then (p.1, v) else p).2)
      rw [if_neg h]
  · unfold dtK
    rw [List.map_append]; rfl
theorem kVs_ints (l : List Int) : (l.map (Sum.inl : Int → Key)).map kV = l.map V.int := by rw [List.map_map]; rfl
theorem key_tup {H : Hp} {v : V} {k : List Int} (h : Tp H v (dI k)) : ∃ b, v = .ref b ∧ H b = some (.tup ((k.map Sum.inl).map kV)) := by
  cases h with
  | @tup b xs _ h1 h2 =>
    rw [TpL.ints.mp h2] at h1
    exact ⟨b, rfl, by rw [kVs_ints]; exact h1⟩
theorem tup_key {H : Hp} {b : Addr} {k : List Int} (h : H b = some (.tup ((k.map Sum.inl).map kV))) : Tp H (.ref b) (dI k) := by
  rw [kVs_ints] at h
  exact .tup h (TpL.ints.mpr rfl)
/-- sorted(d) -/
def rSortK : List V → Hp → VK → Prop := fun xs H Q => ∃ d m, xs = [V.ref d] ∧ Rd H d (.dT (dtK m)) ∧ AllAlike (m.map fun p => dI p.1) ∧ Sortable (m.map fun p => dI p.1) ∧ (∀ p ∈ m, (dI p.1).depth ≤ 20) ∧
  ∀ p ys, H p = none → TpL H ys (sortD (m.map fun p => dI p.1)) → Q (.ref p) (upd H p (.lst ys))
theorem keys_tpl {H : Hp} : ∀ {m : List (List Int × Int)} {bs : List Addr}, IsKeys H (dtK m) bs → TpL H (bs.map V.ref) (m.map fun p => dI p.1)
  | [], bs, h => by
    unfold IsKeys dtK at h
    cases h
    exact .nil
  | p :: m, bs, h => by
    unfold IsKeys dtK at h
    cases h with
    | cons h1 h2 => exact .cons (tup_key h1) (keys_tpl h2)
theorem cr_sortedK (hc : X.calm = true) (hu : X.A.units + 64 < cLine) : CallR X (.builtin "sorted") rSortK := by
  intro pins s σ H xs us Q I r h
  obtain ⟨d, m, rfl, hd, hal, hk, hdp, q⟩ := h
  obtain ⟨u, rfl, rx⟩ := r.one
  cases rx
  obtain ⟨z, hs, ks, pr, o, es, ep, ho, hx, hdt, he, hn⟩ := (show ObjOk X.prog X.w H s.heap d (.dT (dtK m)) from hd.ok I.hok)
  have l1 : es.size = ks.length := size_of_entries he
  have l2 : (dtK m).length = ks.length := Paired.length pr
  have t : TpL H ((ks.map fun x => x.2.1).map V.ref) (m.map fun p => dI p.1) := keys_tpl (isKeys_of pr)
  refine sorted_of hu I (xs := (ks.map fun x => x.2.1).map V.ref) (fun R hR => ?_) t hal hk (fun e he => ?_) (by rw [List.length_map, List.length_map]; omega) q
  · refine PySem.W.kdu_collect (A := X.A.in1) (kdl_raw hs hx hdt) (show X.A.in1.handled = none from I.ok.hd hc) ho (by omega) fun h' tk acc' kp it => ?_
    refine hR h' tk acc'.toList kp ?_
    have ea : acc'.toList = ks.map fun x => Value.ref x.2.1 := by
      have hl : acc'.toList.length = ks.length := by rw [Array.length_toList, it.1]; exact l1
      apply List.ext_getElem?
      intro j
      rw [List.getElem?_map]
      cases hj : acc'.toList[j]? with
      | none =>
        have h1 := List.getElem?_eq_none_iff.mp hj
        rw [List.getElem?_eq_none (by omega)]
        all_goals rfl
      | some v =>
        obtain ⟨en, hen, hv⟩ := it.2 j v (by rw [← Array.getElem?_toList]; exact hj)
        have qe := entry_at he j
        rw [hen] at qe
        cases hb : ks[j]? with
        | none =>
          rw [hb] at qe
          exact nomatch (show some en = none from qe)
        | some b =>
          rw [hb] at qe
          have e2 : en = entryOfKey (tupleKind (mixKind X.prog X.w)) b := Option.some.inj qe
          rw [hv, e2]
          all_goals rfl
    have eb : acc'.toList = (ks.map fun x => x.2.1).map Value.ref := by rw [ea, List.map_map]; all_goals rfl
    rw [eb]
    exact vals_refs _
  · obtain ⟨p, hp, rfl⟩ := List.mem_map.mp he
    exact hdp p hp
end
/-! ### the readings -/
section
variable {K : PySem.W.Frag} {H0 Hb H H' : Hp} {σ : L2.St} {sl : List Sl} {ob : List (Addr × Ob)} {ta tb te td ty tx : TE} {d e : PD} {ds es : List PD} {D : Ends} {m : List (List Int × Int)} {k : List Int} {a : Addr}
theorem n_sortT (ha : EvX ta σ H (.d (.tuple ds))) (hal : AllAlike ds) (hk : Sortable ds) (hd : ∀ d ∈ ds, d.depth ≤ 20) : EvN (tCB (rSortD K) (tCons ta tNil)) σ H (sortD ds) := fun H1 e1 Q q =>
  ha H1 e1 _ fun v H2 e2 ⟨w, ew, hw⟩ => by
    cases ew
    cases hw with
    | tup h1 h2 => exact ⟨_, _, ds, rfl, .inr (.inl (.inl h1)), h2, hal, hk, hd, fun p ys hp t => q p ys _ (fresh_back e2 hp) (e2.trans (Ex.new hp)) upd_same (t.m (te_ex (Ex.new hp)))⟩
theorem n_sortL (ha : EvX ta σ H (.g ds)) (hal : AllAlike ds) (hk : Sortable ds) (hd : ∀ d ∈ ds, d.depth ≤ 20) : EvN (tCB (rSortD K) (tCons ta tNil)) σ H (sortD ds) := fun H1 e1 Q q =>
  ha H1 e1 _ fun v H2 e2 ⟨b, xs, ew, h1, h2⟩ => by
    cases ew
    exact ⟨_, _, ds, rfl, .inl (.inl (.inl h1)), h2, hal, hk, hd, fun p ys hp t => q p ys _ (fresh_back e2 hp) (e2.trans (Ex.new hp)) upd_same (t.m (te_ex (Ex.new hp)))⟩
theorem n_sortK (ha : EvX td σ H (.r a)) (hH : H a = some (.dT (dtK m))) (hal : AllAlike (m.map fun p => dI p.1)) (hk : Sortable (m.map fun p => dI p.1)) (hd : ∀ p ∈ m, (dI p.1).depth ≤ 20) : EvN (tCB rSortK (tCons td tNil)) σ H (sortD (m.map fun p => dI p.1)) := fun H1 e1 Q q =>
  ha H1 e1 _ fun v H2 e2 hv => by
    have hv : some v = some (V.ref a) := hv
    cases hv
    exact ⟨_, m, rfl, .inl (e2 _ _ (e1 _ _ hH)), hal, hk, hd, fun p ys hp t => q p ys _ (fresh_back e2 hp) (e2.trans (Ex.new hp)) upd_same (t.m (te_ex (Ex.new hp)))⟩
theorem rd_m {u : HO} (e : Ex H H') (h : Rd H a u) : Rd H' a u := h.elim (fun h => .inl (e _ _ h)) fun ⟨o, h⟩ => .inr ⟨o, e _ _ h⟩
/-- d[k] -/
theorem x_dget {v : Int} (hd : EvX td σ H (.r a)) (hk : EvX ty σ H (.d (dI k))) (hH : Rd H a (.dT (dtK m))) (hv : ((m.find? fun kv => decide (kv.1 = k)).map (·.2)) = some v) : EvX (tDGet td ty) σ H (.d (.int v)) := fun H1 e1 Q q =>
  hd H1 e1 _ fun x H2 e2 hx => hk H2 (e1.trans e2) _ fun y H3 e3 ⟨w, ew, hw⟩ => by
    have hx : some x = some (V.ref a) := hx
    cases hx
    cases ew
    obtain ⟨b, rfl, hb⟩ := key_tup hw
    exact ⟨a, .int v, rfl, .inr ⟨_, k.map Sum.inl, b, rd_m ((e1.trans e2).trans e3) hH, rfl, hb, by rw [dtK_find, hv]; rfl⟩, q _ H3 (e2.trans e3) ⟨_, rfl, .int v⟩⟩
def getD0 (m : List (List Int × Int)) (k : List Int) (z : Int) : Int := ((m.find? fun kv => decide (kv.1 = k)).map (·.2)).getD z
/-- d.get(k, z) -/
theorem x_dget2 {z : Int} (hd : EvX td σ H (.r a)) (hk : EvX ty σ H (.d (dI k))) (hz : EvX tx σ H (.d (.int z))) (hH : Rd H a (.dT (dtK m))) : EvX (tDGet2 td ty tx) σ H (.d (.int (getD0 m k z))) := fun H1 e1 Q q =>
  hd H1 e1 _ fun x H2 e2 hx => by
    have hx : some x = some (V.ref a) := hx
    cases hx
    refine ⟨a, rfl, .inr ⟨_, rd_m (e1.trans e2) hH⟩, hk H2 (e1.trans e2) _ fun y H3 e3 ⟨w, ew, hw⟩ => hz.int H3 ((e1.trans e2).trans e3) _ fun H4 e4 => ?_⟩
    cases ew
    obtain ⟨b, rfl, hb⟩ := key_tup hw
    refine ⟨_, .inr ⟨_, k.map Sum.inl, b, rd_m (((e1.trans e2).trans e3).trans e4) hH, rfl, e4 _ _ hb, rfl⟩, q _ H4 ((e2.trans e3).trans e4) ⟨_, rfl, ?_⟩⟩
    rw [dtK_find]
    unfold getD0
    cases ((m.find? fun kv => decide (kv.1 = k)).map (·.2)) with
    | none => exact .int z
    | some v => exact .int v
theorem s_dput {j : Nat} {v : Int} {tv : TE} (I : SI H0 Hb H σ sl ob) (hv : EvX tv σ H (.d (.int v))) (hd : EvX td σ H (.r a)) (hj : ob[j]? = some (a, .raw (.dT (dtK m)))) (hk : EvX ty σ H (.d (dI k))) (hz : m.length < 100000)
    (kk : ∀ H', SI H0 Hb H' σ sl (ob.set j (a, .raw (.dT (dtK (putD m k v))))) → D.nx σ H') : sDPut td ty tv D σ H := hv.int H (Ex.refl H) _ fun H1 e1 => hd H1 e1 _ fun x H2 e2 hx => hk H2 (e1.trans e2) _ fun y H3 e3 ⟨w, ew, hw⟩ => by
  have hx : some x = some (V.ref a) := hx
  cases hx
  cases ew
  obtain ⟨b, rfl, hb⟩ := key_tup hw
  have I3 := ((I.ext e1).ext e2).ext e3
  have h3 : H3 a = some (.dT (dtK m)) := I3.at hj
  refine ⟨a, _, rfl, .inr ⟨_, k.map Sum.inl, b, h3, rfl, hb, sz_lt (by unfold dtK; rw [List.length_map]; exact hz), rfl⟩, ?_⟩
  rw [dtK_put]
  exact kk _ (I3.put hj (fun xs q => by rw [h3] at q; cases q) upd_same)
/-- d = {} -/
theorem s_dnew {i : Nat} (I : SI H0 Hb H σ sl ob) (k : ∀ p σ' H', SI H0 Hb H' σ' (sl.set i (.r p)) ((p, .raw (.dT (dtK []))) :: ob) → D.nx σ' H') : tAsg tDNewT (gName i) D σ H := fun p hp => by
  have I1 := (I.ext (Ex.new (o := .dT (dtK [])) hp)).own (a := p) (o := .raw (.dT (dtK []))) (I.new hp).1 (I.new hp).2 upd_same
  exact k p _ _ (I1.setR i p)
/-- a, b, d = x, y, {} -/
theorem s_tup3 {i j l : Nat} (I : SI H0 Hb H σ sl ob) (ha : EvX ta σ H (.d d)) (hb : EvX tb σ H (.d e)) (k : ∀ p σ' H', SI H0 Hb H' σ' (((sl.set i (.d d)).set j (.d e)).set l (.r p)) ((p, .raw (.dT (dtK []))) :: ob) → D.nx σ' H') :
    tAsg (tTup (tCons ta (tCons tb (tCons tDNewT tNil)))) (gTup K 3 (gCons (gName i) (gCons (gName j) (gCons (gName l) gNil)))) D σ H :=
  ha H (Ex.refl H) _ fun x H1 e1 ⟨x', ex, hx⟩ => hb H1 e1 _ fun y H2 e2 ⟨y', ey, hy⟩ p hp => by
    cases ex
    cases ey
    refine ⟨sz_of (by simp), fun T hT => ?_⟩
    have e3 := Ex.new (o := .dT []) hp
    have e4 := Ex.new (o := .tup [x, y, .ref p]) hT
    have I2 := (I.ext e1).ext e2
    have I3 := ((I2.ext e3).own (a := p) (o := .raw (.dT (dtK []))) (I2.new hp).1 (I2.new hp).2 upd_same).ext e4
    have I4 := ((I3.setD i ((hx.m (te_ex e2)).m (te_ex (e3.trans e4)))).setD j (hy.m (te_ex (e3.trans e4)))).setR l p
    exact ⟨T, [x, y, .ref p], rfl, .inl (.inl upd_same), rfl, _, _, rfl, _, _, rfl, _, [], rfl, rfl, k p _ _ I4⟩
/-- a comprehension over a dict: the dict stands locked -/
theorem n_lock {u : HO} (hd : H a = some u) (mu : Mut (some u)) (h : ∀ od H1, Ex H H1 → EvN te σ (upd H1 a (.frz od u)) ds) : EvN (tLockE te) σ H ds := fun H1 e1 Q q =>
  ⟨a, u, e1 _ _ hd, mu, fun od => h od H1 e1 _ (Ex.refl _) _ fun p xs H2 hp e2 h1 h2 => by
    have h3 : H2 a = some (.frz od u) := e2 _ _ upd_same
    have hne : p ≠ a := fun z => by rw [z, upd_same] at hp; cases hp
    rw [upd_ne hne] at hp
    refine ⟨h3, q p xs (upd H2 a u) hp (fun b o hb => ?_) (by rw [upd_ne hne]; exact h1) (h2.m fun b ys hb => ?_)⟩
    · by_cases z : b = a
      · rw [z] at hb ⊢
        rw [e1 _ _ hd] at hb
        rw [upd_same]; exact hb
      · rw [upd_ne z]
        exact e2 b o (by rw [upd_ne z]; exact hb)
    · have z : b ≠ a := fun z => by rw [z, h3] at hb; cases hb
      rw [upd_ne z]; exact hb⟩
theorem src_keys {od : Obj} (h : EvX td σ H (.r a)) (hH : H a = some (.frz od (.dT (dtK m)))) : Src (iKeys td) σ H m.length (ItD (m.map fun p => dI p.1)) := fun H1 e1 R r => h H1 e1 _ fun v H2 e2 hv => by
  have hv : some v = some (V.ref a) := hv
  cases hv
  have h2 := e2 _ _ (e1 _ _ hH)
  refine ⟨a, od, rfl, .inr ⟨_, h2, r _ H2 (fun H => H a = some (.frz od (.dT (dtK m)))) _ e2 (by have w := walk_keysT (d := a) (o := od) (kvs := dtK m); unfold dtK at w; rw [List.length_map] at w; exact w) (fun H3 e3 => e3 _ _ h2) fun i H3 x H4 hi e3 y => ?_⟩⟩
  obtain ⟨rfl, k, v, q, hk, rfl, hq⟩ := y
  rw [List.getElem?_map] at hk
  cases hm : m[i]? with
  | none => rw [hm] at hk; cases hk
  | some p =>
    rw [hm] at hk
    have hk : some (p.1.map Sum.inl, V.int p.2) = some (k, v) := hk
    cases hk
    exact ⟨Ex.refl _, dI p.1, by rw [List.getElem?_map, hm]; rfl, tup_key hq⟩
end
end Wk
end
section
set_option Elab.async false
set_option linter.all false
set_option maxRecDepth 100000
set_option maxHeartbeats 4000000
/-! The text by places, what of it the defs lean on, calls in short. -/
namespace Wk
open PySem PySem.Spec PyProof.Rows L2 Evl

def topS (i : Nat) : Stmt := PySem.Challenge.pw_mapwebs_k06_whole_polynomials_and_factor.main.body.getD i (.Pass ⟨0, 0, 0, 0⟩)
/-- the scope of a comprehension that stands in the first row -/
def lcSc (st : Stmt) : Scope := match (defBody st).getD 0 (.Pass ⟨0, 0, 0, 0⟩) with
  | .Assign _ (.ListComp _ _ sc _) _ => sc
  | _ => { kind := .function, names := [], isGenerator := false, isCoroutine := false }
/-- .. as it stands within the def's own -/
def rlSc (sc outer : Scope) : Scope := { sc with names := sc.names.map fun (n, k) => if (k == NameKind.free && outer.kind == .function && outer.names.lookup n == some .cell) then (n, NameKind.cell) else (n, k) }
/-- what of the text the defs lean on -/
structure Txt (K : PySem.W.Frag) (mg : Str → Option Value) (aP : Addr) : Prop where
  isinstance_ : mg "isinstance" = none
  int_ : mg "int" = none
  bool_ : mg "bool" = none
  tuple_ : mg "tuple" = none
  list_ : mg "list" = none
  len_ : mg "len" = none
  range_ : mg "range" = none
  zip_ : mg "zip" = none
  enumerate_ : mg "enumerate" = none
  max_ : mg "max" = none
  abs_ : mg "abs" = none
  all_ : mg "all" = none
  any_ : mg "any" = none
  sorted_ : mg "sorted" = none
  gP : mg "PRIMES" = some (.ref aP)
  sP : ∀ H : Hp, SqT K H aP [.int 2, .int 3, .int 5, .int 7, .int 11, .int 13]
/-- a def of the text that may be called -/
structure Cal (P : Program) (w : World) (K : PySem.W.Frag) (mg : Str → Option Value) (base : Heap) (x : Str) (k : Nat) (ps : List Str) (sp : Sp) : Prop where
  ex : ∃ f fd, FnOk P w K mg base CX0 k f fd ps sp ∧ mg x = some (.ref f) ∧ PySem.W.keepIn K (.ref f) = true ∧ Binds K fd ps []
theorem Cal.mono {P : Program} {w : World} {K : PySem.W.Frag} {mg : Str → Option Value} {base : Heap} {x : Str} {j k : Nat} {ps : List Str} {sp : Sp} (c : Cal P w K mg base x j ps sp) (h : j ≤ k) : Cal P w K mg base x k ps sp := by
  obtain ⟨f, fd, F, a, b, d⟩ := c.ex
  exact ⟨f, fd, F.mono h, a, b, d⟩
section
variable {X : Cx} {k : Nat} {ps : List Str} {sp : Sp} {x : Str} {p pos : Pos} {e : Expr} {es : List Expr} {t : TA} {te : TE}
theorem pe_callC (c : Cal X.prog X.w X.K X.mg X.base x k ps sp) (hr : Room k X.A) (hg : Gl X x) (ha : PA X (e :: es) t) (hx : Passes CX0 X E0 := by exact pass0) (hdb : (x == ("__debug__" : Str)) = false := by decide)
    (he : starEach (e :: es) X.env = (false, eval e X.env) :: starEach es X.env := by rfl) (hpl : (backTo pos (starEach es X.env)).any (·.1) = false := by rfl) : PE X (.Call (.Name x p) (e :: es) [] pos) (tCall sp [] E0 t) := by
  obtain ⟨f, fd, F, hm, hk, hb⟩ := c.ex
  exact pe_call F hr hg hm hk hb .nil hx ha hdb he hpl
/-- over a list or a tuple -/
def iAny (K : PySem.W.Frag) (te : TE) : TI := fun σ H R => te σ H fun v H1 => ∃ a, v = .ref a ∧ (((∃ xs, SqL K H1 a xs) ∧ R (Itl K a) H1) ∨ ((∃ xs, SqT K H1 a xs) ∧ R (Itt K a) H1))
theorem pi_any {tg l : Expr} (hl : PE X l te) : PI X tg l (iAny X.K te) := by
  refine ⟨fun pins s σ H R I h => ?_⟩
  refine thn (hl.run pins s σ H _ I h) fun v s1 ⟨x, H1, I1, r1, a, e, q1⟩ => ?_
  subst e
  cases r1
  rcases q1 with ⟨⟨xs, hq⟩, q⟩ | ⟨⟨xs, hq⟩, q⟩
  · obtain ⟨its, rv, p, hz⟩ := I1.list hq
    exact wpAny_pyIter_list p.isList (pi_one (tk := s1.toks) I1 _ (turn_list a _) ⟨_, Heap.get?_push_size _ rfl, rfl, rfl⟩ q)
  · obtain ⟨its, rv, p, hz⟩ := I1.tuple hq
    exact wpAny_pyIter_tuple (show s1.heap.IsTuple a its.toArray from p) (pi_one (tk := s1.toks) I1 _ (turn_tuple a _) ⟨_, Heap.get?_push_size _ rfl, rfl, rfl⟩ q)
end
/-! ### the rules with K told, for a comprehension's block too -/
section
variable {X : Cx} (K : PySem.W.Frag) (h : X.K = K)
include h
theorem k_ixT : IxR X (rIxT K) := h ▸ ix_tup
theorem k_ixL : IxR X (rIxL K) := h ▸ ix_list
theorem k_len : CallR X (.builtin "len") (rLenS K) := h ▸ call_len_seq
theorem k_tuple : CallR X (.type "tuple") (rTupS K) := h ▸ call_tuple_of
theorem k_list : CallR X (.type "list") (rListS K) := h ▸ call_list_of
theorem k_isi : CallR X (.builtin "isinstance") (rIsi K) := h ▸ call_isi
theorem k_all (hc : X.calm = true) : CallR X (.builtin "all") (rAll K) := h ▸ cr_all hc
theorem k_any (hc : X.calm = true) : CallR X (.builtin "any") (rAny K) := h ▸ cr_any hc
theorem k_sort (hu : X.A.units + 64 < cLine) : CallR X (.builtin "sorted") (rSortD K) := h ▸ cr_sortedD hu
theorem k_catA : OpR X (binaryOp .Add) (rCatA K) := h ▸ op_catA
theorem k_repA : OpR X (binaryOp .Mult) (rRepA K) := h ▸ op_repA
theorem k_eqD (hu : X.A.units + 64 < cLine) : OpR X (compareOp .Eq) (rEqD K) := h ▸ op_eqD hu
theorem k_neD (hu : X.A.units + 64 < cLine) : OpR X (compareOp .NotEq) (rNeD K) := h ▸ op_neD hu
theorem k_in : OpR X (compareOp .In) (rIn K false) := h ▸ op_in_seq
theorem k_notIn : OpR X (compareOp .NotIn) (rIn K true) := h ▸ op_notIn_seq
theorem k_slL : SlR X (rSlL K) := h ▸ sl_list
theorem k_slA : SlR X (rSlA K) := h ▸ sl_tupA
theorem k_pil {tg l : Expr} {tl : TE} (hl : PE X l tl) : PI X tg l (iList K tl) := h ▸ pi_list hl
theorem k_pit {tg l : Expr} {tl : TE} (hl : PE X l tl) : PI X tg l (iTup K tl) := h ▸ pi_tup hl
theorem k_pia {tg l : Expr} {tl : TE} (hl : PE X l tl) : PI X tg l (iAny K tl) := h ▸ pi_any hl
end
section
variable {X : Cx}
theorem k_int : CallR X (.type "int") rInt1 := call_int1
theorem k_abs : CallR X (.builtin "abs") rAbs1 := call_abs
theorem k_max (hc : X.calm = true) : CallR X (.builtin "max") rMax2 := call_max2 hc
end
section
variable {K : PySem.W.Frag} {H0 Hb H H' : Hp} {σ : L2.St} {sl : List Sl} {ob : List (Addr × Ob)} {ta te : TE} {d : PD} {ds : List PD} {D : Ends} {tz : TS} {t : TSs}
theorem src_anyL (h : EvX te σ H (.g ds)) : Src (iAny K te) σ H ds.length (ItD ds) := fun H1 e1 R r => h H1 e1 _ fun v H2 e2 ⟨a, xs, ew, h1, h2⟩ => by
  cases ew
  refine ⟨a, rfl, .inl ⟨⟨xs, .inl (.inl h1)⟩, r _ H2 (fun H => SqL K H a xs) _ e2 (by rw [← h2.length]; exact walk_list) (fun H3 e3 => .inl (.inl (e3 _ _ h1))) fun i H3 x H4 hi e3 y => ?_⟩⟩
  obtain ⟨rfl, y⟩ := y
  obtain ⟨d, hd1, hd2⟩ := h2.get' y
  exact ⟨Ex.refl _, d, hd1, hd2.m (te_ex e3)⟩
theorem src_anyT (h : EvX te σ H (.d (.tuple ds))) : Src (iAny K te) σ H ds.length (ItD ds) := fun H1 e1 R r => h H1 e1 _ fun v H2 e2 ⟨w, ew, hw⟩ => by
  cases ew
  cases hw with
  | @tup a xs _ h1 h2 =>
    refine ⟨a, rfl, .inr ⟨⟨xs, .inl (.inl h1)⟩, r _ H2 (fun H => SqT K H a xs) _ e2 (by rw [← h2.length]; exact walk_tup) (fun H3 e3 => .inl (.inl (e3 _ _ h1))) fun i H3 x H4 hi e3 y => ?_⟩⟩
    obtain ⟨rfl, y⟩ := y
    obtain ⟨d, hd1, hd2⟩ := h2.get' y
    exact ⟨Ex.refl _, d, hd1, hd2.m (te_ex e3)⟩
/-- e.f -/
theorem x_fld {p C dx : Addr} {fs : List (Str × V)} {f : Str} {v : V} (he : EvX te σ H (.r p)) (hp : H p = some (.ins C dx fs)) (c : Cls K C) (n : NoAttr K C f) (l : fs.lookup f = some v) (hv : Tp H v d) : EvX (tFld K te f) σ H (.d d) := fun H1 e1 Q q =>
  he H1 e1 _ fun x H2 e2 hx => by
    have hx : some x = some (V.ref p) := hx
    cases hx
    exact ⟨p, C, dx, fs, v, rfl, e2 _ _ (e1 _ _ hp), c, n, l, q v H2 e2 ⟨v, rfl, (hv.m (te_ex e1)).m (te_ex e2)⟩⟩
theorem sq {t : TS} {D : Ends} (h : t { D with nx := tz D } σ H) : tSeq t tz D σ H := h
end
end Wk
end
section
set_option Elab.async false
set_option linter.all false
set_option maxRecDepth 100000
set_option maxHeartbeats 4000000
/-! Promises by parameters. -/
namespace Wk
open PySem PySem.Spec PyProof.Rows L2 Evl Mw
abbrev ii (n : Int) : Sl := .d (.int n)
abbrev dt (l : LI) : Sl := .d (dI l)
abbrev dts (ls : List LI) : PD := .tuple (ls.map dI)
abbrev gi (l : LI) : Sl := .g (l.map .int)
abbrev gs (ls : List LI) : Sl := .g (ls.map dI)
/-- for each x: of the arguments args x, where pre x holds, it gives res x -/
def spF {α : Type} (args : α → List Sl) (pre : α → Prop) (res : α → PD) : Sp := spP fun ss d => ∃ x, ss = args x ∧ d = res x ∧ pre x
def spL {α : Type} (args : α → List Sl) (pre : α → Prop) (res : α → List PD) : Sp := spN fun ss d => ∃ x, ss = args x ∧ d = res x ∧ pre x
theorem len_of {α : Type} {args : α → List Sl} {pre : α → Prop} {β : Type} {res : α → β} {n : Nat} {H : Hp} {vs : List V} {W : β → Prop} (h : ∀ x, (args x).length = n)
    (e : ∃ ss d, SD H H (vs.map some) ss ∧ (∃ x, ss = args x ∧ d = res x ∧ pre x) ∧ W d) : vs.length = n := by
  obtain ⟨ss, d, hs, ⟨x, rfl, _, _⟩, _⟩ := e
  have := hs.length
  rw [List.length_map] at this
  rw [this, h x]
section
variable {K : PySem.W.Frag} {H0 Hb H H' : Hp} {σ : L2.St} {sl : List Sl} {ob : List (Addr × Ob)} {ta tb te : TE} {d : PD}
theorem x_callF {α : Type} {args : α → List Sl} {pre : α → Prop} {res : α → PD} {E : XK} {ta : TA} (x : α) (h : EvAs ta σ H (args x)) (p : pre x) : EvX (tCall (spF args pre res) [] E ta) σ H (.d (res x)) := x_call h ⟨x, rfl, rfl, p⟩
theorem n_callL {α : Type} {args : α → List Sl} {pre : α → Prop} {res : α → List PD} {E : XK} {ta : TA} (x : α) (h : EvAs ta σ H (args x)) (p : pre x) : EvN (tCall (spL args pre res) [] E ta) σ H (res x) := n_call h ⟨x, rfl, rfl, p⟩
theorem SD.u : ∀ {H0 H : Hp} {σ : L2.St} {sl : List Sl} (i : Nat), SD H0 H σ sl → SD H0 H σ (sl.set i .u)
  | _, _, [], [], _, _ => trivial
  | _, _, _ :: _, _ :: _, 0, ⟨_, b⟩ => ⟨trivial, b⟩
  | _, _, _ :: _, _ :: _, i + 1, ⟨a, b⟩ => ⟨a, SD.u i b⟩
theorem SI.u (I : SI H0 Hb H σ sl ob) (i : Nat) : SI H0 Hb H σ (sl.set i .u) ob := ⟨I.ex, I.tb, I.sd.u i, I.fr, I.ok, I.nd⟩
theorem SI.drop (I : SI H0 Hb H σ sl ob) : SI H0 Hb H σ sl [] := I.sub (List.nil_sublist _)
end
end Wk
end
section
set_option Elab.async false
set_option linter.all false
set_option maxRecDepth 100000
set_option maxHeartbeats 4000000
/-! Small facts of lists as the readings want them. -/
namespace Wk
open PySem PySem.Spec PyProof.Rows L2 Evl Mw
theorem get_int {l : LI} {i : Nat} (h : i < l.length) : (l.map PyData.int)[i]? = some (.int (l.getD i 0)) := by
  rw [List.getElem?_map, List.getElem?_eq_getElem h]
  simp [List.getD_eq_getElem?_getD, h]
theorem get_int' {l : LI} {i : Nat} {d : PD} (h : (l.map PyData.int)[i]? = some d) : i < l.length ∧ d = .int (l.getD i 0) := by
  have hi : i < l.length := by
    have := (List.getElem?_eq_some_iff.mp h).1
    simpa using this
  rw [get_int hi] at h
  exact ⟨hi, (Option.some.inj h).symm⟩
theorem at_int {l : LI} {i : Nat} (h : i < l.length) : atI (l.map PyData.int) (i : Int) = some (.int (l.getD i 0)) := L2.atI_nat (get_int h)
theorem at_int' {l : LI} {i : Nat} {z : Int} (e : z = (i : Int)) (h : i < l.length) : atI (l.map PyData.int) z = some (.int (l.getD i 0)) := e ▸ at_int h
theorem at_last {l : LI} (h : l ≠ []) : atI (l.map PyData.int) (-1) = some (.int (lastI l)) := by
  have hl : 0 < l.length := List.length_pos_iff.mpr h
  unfold atI ixN
  rw [if_neg (by decide), if_pos (by rw [List.length_map]; omega)]
  show (l.map PyData.int)[((-1 : Int) + ((l.map PyData.int).length : Int)).toNat]? = _
  rw [List.length_map, show ((-1 : Int) + (l.length : Int)).toNat = l.length - 1 by omega, get_int (by omega)]
  rfl
theorem get_dI {ls : List LI} {i : Nat} (h : i < ls.length) : (ls.map dI)[i]? = some (dI (ls.getD i [])) := by
  rw [List.getElem?_map, List.getElem?_eq_getElem h]
  simp [List.getD_eq_getElem?_getD, h]
theorem get_dI' {ls : List LI} {i : Nat} {d : PD} (h : (ls.map dI)[i]? = some d) : i < ls.length ∧ d = dI (ls.getD i []) := by
  have hi : i < ls.length := by
    have := (List.getElem?_eq_some_iff.mp h).1
    simpa using this
  rw [get_dI hi] at h
  exact ⟨hi, (Option.some.inj h).symm⟩
theorem at_dI {ls : List LI} {i : Nat} (h : i < ls.length) : atI (ls.map dI) (i : Int) = some (dI (ls.getD i [])) := L2.atI_nat (get_dI h)
theorem itI {l : LI} : ∀ i x H', i < (l.map PyData.int).length → ItD (l.map PyData.int) i x H' → Tp H' x (.int (l.getD i 0)) := fun i x H' _ ⟨d, h1, h2⟩ => by rw [(get_int' h1).2] at h2; exact h2
theorem itL {ls : List LI} : ∀ i x H', i < (ls.map dI).length → ItD (ls.map dI) i x H' → Tp H' x (dI (ls.getD i [])) := fun i x H' _ ⟨d, h1, h2⟩ => by rw [(get_dI' h1).2] at h2; exact h2
theorem itR {n : Nat} : ∀ i x H', i < n → x = V.int (i : Int) → Tp H' x (.int (i : Int)) := fun i x H' _ e => by rw [e]; exact .int _
theorem map_range {α : Type} (l : LI) (g : Int → α) : (List.range l.length).map (fun i => g (l.getD i 0)) = l.map g := by
  refine List.ext_getElem (by simp) fun i h1 h2 => ?_
  rw [List.getElem_map, List.getElem_map, List.getElem_range]
  have : i < l.length := by simpa using h2
  simp [List.getD_eq_getElem?_getD, this]
theorem map_rangeL {α : Type} (ls : List LI) (g : LI → α) : (List.range ls.length).map (fun i => g (ls.getD i [])) = ls.map g := by
  refine List.ext_getElem (by simp) fun i h1 h2 => ?_
  rw [List.getElem_map, List.getElem_map, List.getElem_range]
  have : i < ls.length := by simpa using h2
  simp [List.getD_eq_getElem?_getD, this]
theorem map_bools (n : Nat) (b : Nat → Bool) : (List.range n).map (fun i => PyData.bool (b i)) = ((List.range n).map b).map PyData.bool := by rw [List.map_map]; rfl
theorem map_ints (n : Nat) (f : Nat → Int) : (List.range n).map (fun i => PyData.int (f i)) = ((List.range n).map f).map PyData.int := by rw [List.map_map]; rfl
theorem map_dIs (n : Nat) (f : Nat → LI) : (List.range n).map (fun i => dI (f i)) = ((List.range n).map f).map dI := by rw [List.map_map]; rfl
theorem map_set (l : LI) (i : Nat) (z : Int) : (l.map PyData.int).set i (.int z) = (l.set i z).map PyData.int := by rw [List.map_set]
theorem len_int (l : LI) : (l.map PyData.int).length = l.length := List.length_map ..
theorem rep_int (n : Nat) (z : Int) : List.replicate n (PyData.int z) = (List.replicate n z).map PyData.int := by rw [List.map_replicate]
/-! ### noughts at the end -/
theorem trim_snoc : ∀ (l : LI) (a : Int), trim (l ++ [a]) = if a = 0 then trim l else l ++ [a]
  | [], a => by
    show trim [a] = _
    unfold trim trim
    by_cases h : a = 0
    · rw [if_pos h, if_pos h]
    · rw [if_neg h, if_neg h]; rfl
  | b :: l, a => by
    show trim (b :: (l ++ [a])) = _
    rw [trim, trim_snoc l a]
    by_cases h : a = 0
    · rw [if_pos h, if_pos h, trim]
    · rw [if_neg h, if_neg h]
      cases l with
      | nil => rfl
      | cons c r => rfl
theorem lastI_snoc (l : LI) (a : Int) : lastI (l ++ [a]) = a := by
  unfold lastI
  rw [List.length_append, List.length_singleton, Nat.add_sub_cancel, List.getD_eq_getElem?_getD, List.getElem?_append_right (Nat.le_refl _), Nat.sub_self]
  rfl
theorem trim_drop {l : LI} (h : l ≠ []) (e : lastI l = 0) : trim l.dropLast = trim l := by
  obtain ⟨m, a, rfl⟩ : ∃ m a, l = m ++ [a] := ⟨l.dropLast, l.getLast h, (List.dropLast_concat_getLast h).symm⟩
  rw [lastI_snoc] at e
  rw [List.dropLast_concat, trim_snoc, if_pos e]
theorem trim_same {l : LI} (h : l ≠ [] → lastI l ≠ 0) : trim l = l := by
  by_cases hl : l = []
  · rw [hl]; rfl
  obtain ⟨m, a, rfl⟩ : ∃ m a, l = m ++ [a] := ⟨l.dropLast, l.getLast hl, (List.dropLast_concat_getLast hl).symm⟩
  have e := h hl
  rw [lastI_snoc] at e
  rw [trim_snoc, if_neg e]
section
variable {H0 Hb H B : Hp} {σ : L2.St} {sl : List Sl} {ob : List (Addr × Ob)} {te : TE} {s s' : Sl}
theorem SI.re {B2 : Hp} (I : SI H0 B2 H σ sl ob) (t : TE' B B2) : SI H0 B H σ sl ob := ⟨I.ex, t.trans I.tb, I.sd, I.fr, I.ok, I.nd⟩
end
end Wk
end
section
set_option Elab.async false
set_option linter.all false
set_option maxRecDepth 100000
set_option maxHeartbeats 4000000
/-! == over tuples of ints and of pairs. -/
namespace Wk
open PySem PySem.Spec PyProof.Rows L2 Evl Mw
abbrev dP (x : LI × Int) : PD := .tuple [dI x.1, .int x.2]
abbrev dPs (m : Dic) : PD := .tuple (m.map dP)
theorem eqv_ints : ∀ a b : LI, PyData.eqvAll (a.map .int) (b.map .int) = decide (a = b)
  | [], [] => by simp [PyData.eqvAll]
  | [], _ :: _ => by simp [PyData.eqvAll]
  | _ :: _, [] => by simp [PyData.eqvAll]
  | x :: a, y :: b => by
    show PyData.eqvAll (.int x :: a.map .int) (.int y :: b.map .int) = _
    rw [PyData.eqvAll, eqv_ints a b, PyData.eqv]
    by_cases h : x = y
    · subst h; simp
    · simp [h]
theorem eqv_dI (a b : LI) : PyData.eqv (dI a) (dI b) = decide (a = b) := by rw [PyData.eqv]; exact eqv_ints a b
theorem lay_ints : ∀ a : LI, PyData.canLayAll0 (a.map .int) = true
  | [] => by simp [PyData.canLayAll0]
  | x :: a => by
    show PyData.canLayAll0 (.int x :: a.map .int) = true
    rw [PyData.canLayAll0, lay_ints a]; simp [PyData.canLay0]
theorem dep_ints : ∀ a : LI, PyData.depthAll (a.map .int) = 0
  | [] => by simp [PyData.depthAll]
  | x :: a => by
    show PyData.depthAll (.int x :: a.map .int) = 0
    rw [PyData.depthAll, dep_ints a]; simp [PyData.depth]
theorem lay_dI (a : LI) : (dI a).canLay0 = true := by rw [PyData.canLay0]; exact lay_ints a
theorem dep_dI (a : LI) : (dI a).depth = 1 := by rw [PyData.depth, dep_ints]
theorem sh_dI (a : LI) : SeqAt.shaped (dI a) = true := by
  unfold SeqAt.shaped
  rw [lay_dI, dep_dI]; rfl
theorem lay_dP (x : LI × Int) : (dP x).canLay0 = true := by
  rw [PyData.canLay0, PyData.canLayAll0, lay_dI, PyData.canLayAll0, PyData.canLayAll0, PyData.canLay0]; rfl
theorem dep_dP (x : LI × Int) : (dP x).depth = 2 := by
  rw [PyData.depth, PyData.depthAll, dep_dI, PyData.depthAll, PyData.depthAll, PyData.depth]; rfl
theorem lay_dPs : ∀ m : Dic, PyData.canLayAll0 (m.map dP) = true
  | [] => by simp [PyData.canLayAll0]
  | x :: m => by
    show PyData.canLayAll0 (dP x :: m.map dP) = true
    rw [PyData.canLayAll0, lay_dP, lay_dPs m]; rfl
theorem dep_dPs : ∀ m : Dic, PyData.depthAll (m.map dP) ≤ 2
  | [] => by simp [PyData.depthAll]
  | x :: m => by
    show PyData.depthAll (dP x :: m.map dP) ≤ 2
    rw [PyData.depthAll, dep_dP]
    exact Nat.max_le.mpr ⟨Nat.le_refl _, dep_dPs m⟩
theorem sh_dPs (m : Dic) : SeqAt.shaped (dPs m) = true := by
  unfold SeqAt.shaped
  have := dep_dPs m
  rw [PyData.canLay0, lay_dPs, PyData.depth, decide_eq_true (by omega)]; rfl
theorem sh_lPs (m : Dic) : SeqAt.shaped (.list (m.map dP)) = true := by
  unfold SeqAt.shaped
  have := dep_dPs m
  rw [PyData.canLay0, lay_dPs, PyData.depth, decide_eq_true (by omega)]; rfl
theorem eqv_dPs (m : Dic) : PyData.eqv (dPs m) (dPs m) = true := SeqAt.eqv_refl _ (by rw [PyData.canLay0]; exact lay_dPs m)
theorem eqv_lPs (m : Dic) : PyData.eqv (.list (m.map dP)) (.list (m.map dP)) = true := SeqAt.eqv_refl _ (by rw [PyData.canLay0]; exact lay_dPs m)
/-! ### the order -/
theorem lt_ints : ∀ a b : LI, decide (a < b) = ltL a b
  | [], [] => rfl
  | [], _ :: _ => by unfold ltL; exact decide_eq_true (List.nil_lt_cons _ _)
  | _ :: _, [] => by unfold ltL; exact decide_eq_false (List.not_lt_nil _)
  | x :: a, y :: b => by
    unfold ltL
    have ih := lt_ints a b
    have e : (x :: a < y :: b) ↔ (x < y ∨ (x = y ∧ a < b)) := List.cons_lt_cons_iff
    by_cases h : x = y
    · rw [if_pos h, ← ih]
      exact decide_eq_decide.mpr ⟨fun z => (e.mp z).elim (fun z => by omega) (·.2), fun z => e.mpr (.inr ⟨h, z⟩)⟩
    · rw [if_neg h]
      exact decide_eq_decide.mpr ⟨fun z => (e.mp z).elim id fun z => absurd z.1 h, fun z => e.mpr (.inl z)⟩
theorem dlt_dI (a b : LI) : PySem.W.dataLt (dI a) (dI b) = ltL a b := by
  rw [PySem.W.dataLt_tuple]
  exact (PySem.W.dataLt_ints a b).trans (lt_ints a b)
theorem alike_dI (a b : LI) : PySem.W.alike (dI a) (dI b) = true := by
  rw [PySem.W.alike]
  exact PySem.W.alike_ints a b
theorem ale (a b : LI) : (!ltL b a) = leL a b := by
  unfold leL
  by_cases h : a = b
  · rw [if_pos h, h, ltL_irrefl]; rfl
  · rw [if_neg h]
    rcases ltL_total a b with z | z | z
    · exact absurd z h
    · rw [z, ltL_asymm z]; rfl
    · rw [z, ltL_asymm z]; rfl
theorem dle_dI (a b : LI) : PySem.W.dataLe false id (dI a) (dI b) = leL a b := by
  rw [PySem.W.dataLe_eq]
  show (!PySem.W.dataLt (dI b) (dI a)) = _
  rw [dlt_dI, ale]
theorem dle_dP (x y : LI × Int) : PySem.W.dataLe false id (dP x) (dP y) = leP x y := by
  rw [PySem.W.dataLe_eq]
  show (!PySem.W.dataLt (dP y) (dP x)) = _
  rw [PySem.W.dataLt_pair (alike_dI _ _) (by simp [PySem.W.alike]), eqv_dI, dlt_dI, PySem.W.dataLt_int]
  unfold leP
  by_cases h : x.1 = y.1
  · rw [if_pos h, if_pos (decide_eq_true h.symm)]
    by_cases h2 : y.2 = x.2
    · rw [if_pos (by rw [PyData.eqv, h2]; exact beq_self_eq_true _), decide_eq_true (by omega)]; rfl
    · rw [if_neg (by rw [PyData.eqv]; simpa using h2)]
      by_cases h3 : x.2 ≤ y.2
      · rw [decide_eq_true h3, decide_eq_false (by omega)]; rfl
      · rw [decide_eq_false h3, decide_eq_true (by omega)]; rfl
  · rw [if_neg h, if_neg (by rw [decide_eq_false (Ne.symm h)]; decide)]
    rcases ltL_total x.1 y.1 with z | z | z
    · exact absurd z h
    · rw [z, ltL_asymm z]; rfl
    · rw [z, ltL_asymm z]; rfl
theorem sort_dP (m : Dic) : sortD (m.map dP) = (m.mergeSort leP).map dP := (PySem.W.sort_maps dP fun a _ b _ => (dle_dP a b).symm).symm
theorem sort_dI (ls : List LI) : sortD (ls.map dI) = (ls.mergeSort leL).map dI := (PySem.W.sort_maps dI fun a _ b _ => (dle_dI a b).symm).symm
theorem alike_dP (x y : LI × Int) : PySem.W.alike (dP x) (dP y) = true := by
  rw [PySem.W.alike, PySem.W.alikeAll, alike_dI, PySem.W.alikeAll, PySem.W.alikeAll, PySem.W.alike]; rfl
theorem all_dP (m : Dic) : PySem.W.AllAlike (m.map dP) := PySem.W.AllAlike.of alike_dP
theorem srt_dP (m : Dic) : PySem.W.Sortable (m.map dP) := PySem.W.Sortable.tuples fun x => ⟨_, _, rfl⟩
theorem dpt_dP (m : Dic) : ∀ d ∈ m.map dP, d.depth ≤ 20 := fun d hd => by
  obtain ⟨x, _, rfl⟩ := List.mem_map.mp hd
  rw [dep_dP]; decide
theorem all_dI (ls : List LI) : PySem.W.AllAlike (ls.map dI) := PySem.W.AllAlike.of alike_dI
theorem srt_dI {ls : List LI} (h : ∀ l, l ∈ ls → l ≠ []) : PySem.W.Sortable (ls.map dI) := .inl fun d hd => by
  obtain ⟨l, hl, rfl⟩ := List.mem_map.mp hd
  cases l with
  | nil => exact absurd rfl (h _ hl)
  | cons x r => exact ⟨_, _, rfl⟩
end Wk
end
section
set_option Elab.async false
set_option linter.all false
set_option maxRecDepth 100000
set_option maxHeartbeats 4000000
/-! The defs, one by one: checks and the inverse. -/
namespace Wk
open PySem PySem.Spec PyProof.Rows L2 Evl Mw
section
variable {P : Program} {w : World} {K : PySem.W.Frag} {mg : Str → Option Value} {base : Heap}
def sp_is_integer (K : PySem.W.Frag) : Sp := spF (fun n : Int => [ii n]) (fun _ => True) (fun _ => .bool true)
abbrev st_is_integer : Stmt := topS 7
theorem sc_is_integer : FnScope ["thing"] ["thing"] (defScope st_is_integer) := ⟨rfl, rfl, rfl, by decide +kernel, rfl, by decide +kernel, by decide +kernel⟩
theorem ok_is_integer {f aP : Addr} {fd : FuncData} (F : Fun K "is_integer" "is_integer" st_is_integer f fd) (T : Txt K mg aP)  : FnOk P w K mg base CX0 1 f fd ["thing"] (sp_is_integer K) := by
  refine F.ok sc_is_integer (fun vs H Q E h => ?_) (fun cdv A outer s H vs Q E hr h => ?_)
  · exact len_of (fun x => by first | rfl | (obtain ⟨_, _⟩ := x; rfl)) h
  obtain ⟨_, _, hsd, ⟨x, rfl, rfl, pre⟩, k⟩ := h
  have I := start_ok (N := ["thing"]) hsd
  refine ⟨_, (pss_one (ps_ret (pe_and (pe_callB (k_isi K rfl) (by rfl) T.isinstance_ (by decide +kernel) (pa_cons (pv 0) (pa_cons (pe_bltn (v := .ty "int") (by rfl) T.int_ (by decide +kernel) rfl) pa_nil))) (pe_one (pe_not (pe_callB (k_isi K rfl) (by rfl) T.isinstance_ (by decide +kernel) (pa_cons (pv 0) (pa_cons (pe_bltn (v := .ty "bool") (by rfl) T.bool_ (by decide +kernel) rfl) pa_nil)))))))), ?_⟩
  exact s_ret I (EvX.is (x_andV (isi_int (T := "int") (b := true) (x_var I rfl) (by decide +kernel)) fun _ => x_notV (isi_int (T := "bool") (b := false) (x_var I rfl) (by decide +kernel))) rfl) k
def sp_is_within (K : PySem.W.Frag) : Sp := spF (fun x : Int × Int × Int => [ii x.1, ii x.2.1, ii x.2.2]) (fun _ => True) (fun x => .bool (decide (x.2.1 ≤ x.1) && decide (x.1 ≤ x.2.2)))
abbrev st_is_within : Stmt := topS 8
theorem sc_is_within : FnScope ["thing", "least", "most"] ["thing", "least", "most"] (defScope st_is_within) := ⟨rfl, rfl, rfl, by decide +kernel, rfl, by decide +kernel, by decide +kernel⟩
theorem ok_is_within {f aP : Addr} {fd : FuncData} (F : Fun K "is_within" "is_within" st_is_within f fd) (T : Txt K mg aP) (c_is_integer : Cal P w K mg base "is_integer" 1 ["thing"] (sp_is_integer K)) : FnOk P w K mg base CX0 2 f fd ["thing", "least", "most"] (sp_is_within K) := by
  refine F.ok sc_is_within (fun vs H Q E h => ?_) (fun cdv A outer s H vs Q E hr h => ?_)
  · exact len_of (fun x => by first | rfl | (obtain ⟨_, _⟩ := x; rfl)) h
  obtain ⟨_, _, hsd, ⟨x, rfl, rfl, pre⟩, k⟩ := h
  have I := start_ok (N := ["thing", "least", "most"]) hsd
  refine ⟨_, (pss_one (ps_ret (pe_and (pe_callC c_is_integer (hr.mono (by decide)) (by rfl) (pa_cons (pv 0) pa_nil)) (pe_one (pe_chain op_le op_le (pv 1) (pv 0) (pv 2)))))), ?_⟩
  exact s_ret I (EvX.is (x_andV (x_callF x.1 (a_cons (x_var I rfl) a_nil) trivial) fun _ => x_chain (x_var I rfl) (x_var I rfl) (x_var I rfl)) rfl) k
def sp_is_number (K : PySem.W.Frag) : Sp := spF (fun x : Int × Int => [ii x.1, ii x.2]) (fun _ => True) (fun x => .bool (decide (0 ≤ x.1) && decide (x.1 ≤ x.2)))
abbrev st_is_number : Stmt := topS 9
theorem sc_is_number : FnScope ["thing", "most"] ["thing", "most"] (defScope st_is_number) := ⟨rfl, rfl, rfl, by decide +kernel, rfl, by decide +kernel, by decide +kernel⟩
theorem ok_is_number {f aP : Addr} {fd : FuncData} (F : Fun K "is_number" "is_number" st_is_number f fd) (T : Txt K mg aP) (c_is_within : Cal P w K mg base "is_within" 2 ["thing", "least", "most"] (sp_is_within K)) : FnOk P w K mg base CX0 3 f fd ["thing", "most"] (sp_is_number K) := by
  refine F.ok sc_is_number (fun vs H Q E h => ?_) (fun cdv A outer s H vs Q E hr h => ?_)
  · exact len_of (fun x => by first | rfl | (obtain ⟨_, _⟩ := x; rfl)) h
  obtain ⟨_, _, hsd, ⟨x, rfl, rfl, pre⟩, k⟩ := h
  have I := start_ok (N := ["thing", "most"]) hsd
  refine ⟨_, (pss_one (ps_ret (pe_callC c_is_within (hr.mono (by decide)) (by rfl) (pa_cons (pv 0) (pa_cons pe_int (pa_cons (pv 1) pa_nil)))))), ?_⟩
  exact s_ret I (x_callF (x.1, 0, x.2) (a_cons (x_var I rfl) (a_cons x_int (a_cons (x_var I rfl) a_nil))) trivial) k
def sp_is_prime (K : PySem.W.Frag) : Sp := spF (fun q : P6 => [ii q.z]) (fun _ => True) (fun _ => .bool true)
theorem x_inP {q : P6} {σ : L2.St} {H : Hp} {te : TE} {aP : Addr} (T : Txt K mg aP) (h : EvX te σ H (ii q.z)) : EvX (tOp (rIn K false) te (tC (.ref aP))) σ H (.d (.bool true)) := fun H1 e1 Q qq =>
  h.int H1 e1 _ fun H2 e2 => by
    refine ⟨aP, _, rfl, .inr (T.sP H2), rfl, rfl, ?_⟩
    have e : inV (.int q.z) [.int 2, .int 3, .int 5, .int 7, .int 11, .int 13] = true := by cases q <;> rfl
    show Q (.bl (inV (.int q.z) [.int 2, .int 3, .int 5, .int 7, .int 11, .int 13])) H2
    rw [e]
    exact qq _ H2 e2 ⟨_, rfl, .bl true⟩
abbrev st_is_prime : Stmt := topS 10
theorem sc_is_prime : FnScope ["thing"] ["thing"] (defScope st_is_prime) := ⟨rfl, rfl, rfl, by decide +kernel, rfl, by decide +kernel, by decide +kernel⟩
theorem ok_is_prime {f aP : Addr} {fd : FuncData} (F : Fun K "is_prime" "is_prime" st_is_prime f fd) (T : Txt K mg aP) (c_is_integer : Cal P w K mg base "is_integer" 1 ["thing"] (sp_is_integer K)) : FnOk P w K mg base CX0 2 f fd ["thing"] (sp_is_prime K) := by
  refine F.ok sc_is_prime (fun vs H Q E h => ?_) (fun cdv A outer s H vs Q E hr h => ?_)
  · exact len_of (fun x => by first | rfl | (obtain ⟨_, _⟩ := x; rfl)) h
  obtain ⟨_, _, hsd, ⟨x, rfl, rfl, pre⟩, k⟩ := h
  have I := start_ok (N := ["thing"]) hsd
  refine ⟨_, (pss_one (ps_ret (pe_and (pe_callC c_is_integer (hr.mono (by decide)) (by rfl) (pa_cons (pv 0) pa_nil)) (pe_one (pe_cmpR (k_in K rfl) (pv 0) (pe_glob (v := .ref aP) (by rfl) T.gP rfl) (by rfl)))))), ?_⟩
  exact s_ret I (EvX.is (x_andV (x_callF x.z (a_cons (x_var I rfl) a_nil) trivial) fun _ => x_inP T (x_var I rfl)) rfl) k
def sp_check_prime (K : PySem.W.Frag) : Sp := spF (fun q : P6 => [ii q.z]) (fun _ => True) (fun _ => .none)
abbrev st_check_prime : Stmt := topS 11
theorem sc_check_prime : FnScope ["thing"] ["thing"] (defScope st_check_prime) := ⟨rfl, rfl, rfl, by decide +kernel, rfl, by decide +kernel, by decide +kernel⟩
theorem ok_check_prime {f aP : Addr} {fd : FuncData} (F : Fun K "check_prime" "check_prime" st_check_prime f fd) (T : Txt K mg aP) (c_is_prime : Cal P w K mg base "is_prime" 2 ["thing"] (sp_is_prime K)) : FnOk P w K mg base CX0 3 f fd ["thing"] (sp_check_prime K) := by
  refine F.ok sc_check_prime (fun vs H Q E h => ?_) (fun cdv A outer s H vs Q E hr h => ?_)
  · exact len_of (fun x => by first | rfl | (obtain ⟨_, _⟩ := x; rfl)) h
  obtain ⟨_, _, hsd, ⟨x, rfl, rfl, pre⟩, k⟩ := h
  have I := start_ok (N := ["thing"]) hsd
  refine ⟨_, (pss_one (ps_if (pt_not (pt_val (pe_callC c_is_prime (hr.mono (by decide)) (by rfl) (pa_cons (pv 0) pa_nil)))) (pss_one ps_never) pss_nil)), ?_⟩
  exact s_when I (t_not (t_B (x_callF x (a_cons (x_var I rfl) a_nil) trivial))) (fun e => nomatch e) fun _ H1 I1 => k _ _ I1.ex .non
def sp_inverse_of (K : PySem.W.Frag) : Sp := spF (fun x : P6 × Int => [ii x.1.z, ii x.2]) (fun _ => True) (fun x => .int (invOf x.1.z x.2))
theorem small13 {q : P6} {z : Int} (h : 0 ≤ z ∧ z < q.z) (n : Int) : CMul z n := .inl (by have := q.most; have e : q.z = (q.n : Int) := rfl; omega)
theorem p_bd (q : P6) : 2 ≤ q.z ∧ q.z ≤ 13 := ⟨q.z2, by have := q.most; show (q.n : Int) ≤ 13; omega⟩
abbrev st_inverse_of : Stmt := topS 12
theorem sc_inverse_of : FnScope ["prime", "worth", "found", "turn"] ["prime", "worth"] (defScope st_inverse_of) := ⟨rfl, rfl, rfl, by decide +kernel, rfl, by decide +kernel, by decide +kernel⟩
theorem ok_inverse_of {f aP : Addr} {fd : FuncData} (F : Fun K "inverse_of" "inverse_of" st_inverse_of f fd) (T : Txt K mg aP)  : FnOk P w K mg base CX0 1 f fd ["prime", "worth"] (sp_inverse_of K) := by
  refine F.ok sc_inverse_of (fun vs H Q E h => ?_) (fun cdv A outer s H vs Q E hr h => ?_)
  · exact len_of (fun x => by first | rfl | (obtain ⟨_, _⟩ := x; rfl)) h
  obtain ⟨_, _, hsd, ⟨x, rfl, rfl, pre⟩, k⟩ := h
  have I := start_ok (N := ["prime", "worth", "found", "turn"]) hsd
  refine ⟨_, (pss_cons (ps_set (i := 2) sc_inverse_of.nd rfl (by first | exact Or.inl rfl | exact Or.inr rfl) pe_int) (pss_cons (ps_for PassesOwn.never rfl (pi_range1 (by rfl) T.range_ (pa_cons (pe_op op_sub (pv 0) pe_int) pa_nil)) (pg_name (i := 3) sc_inverse_of.nd rfl (by first | exact Or.inl rfl | exact Or.inr rfl)) (pss_one (ps_set (i := 2) sc_inverse_of.nd rfl (by first | exact Or.inl rfl | exact Or.inr rfl) (pe_op op_mod (pe_op op_mul (pv 2) (pv 1)) (pv 0))))) (pss_one (ps_ret (pv 2))))), ?_⟩
  obtain ⟨q, n⟩ := x
  have hq := p_bd q
  have I : SI H H H _ [ii q.z, ii n, .u, .u] [] := I
  refine sq (s_set I x_int fun σ1 H1 I1 => ?_)
  refine sq (s_for_r1 (a_cons (x_sub (x_var I1 rfl) x_int) a_nil) (by omega) (fun i σ H' => SI H H H' σ [ii q.z, ii n, ii ((List.range i).foldl (fun f _ => f * n % q.z) 1), .u] []) (fun H2 e => I1.ext e) (fun i σ2 H2 hi I2 => ?_) fun σ2 H2 I2 => ?_)
  · have I3 := I2.setD 3 (Tp.int (H := H2) (i : Int))
    have hb : 0 ≤ (List.range i).foldl (fun f _ => f * n % q.z) 1 ∧ (List.range i).foldl (fun f _ => f * n % q.z) 1 < q.z := by
      cases i with
      | zero => exact ⟨show (0 : Int) ≤ 1 by decide, by show (1 : Int) < q.z; omega⟩
      | succ i => rw [foldl_range_succ]; exact mod_in _
    refine s_set I3 (x_mod (x_mul (x_var I3 rfl) (x_var I3 rfl) (small13 hb n)) (x_var I3 rfl) (by omega)) fun σ4 H4 I4 => ?_
    have I5 := I4.u 3
    rw [foldl_range_succ]
    exact I5
  · exact s_ret I2 (x_var I2 rfl) k
end
end Wk
end
section
set_option Elab.async false
set_option linter.all false
set_option maxRecDepth 100000
set_option maxHeartbeats 4000000
/-! The defs, one by one: polynomials. -/
namespace Wk
open PySem PySem.Spec PyProof.Rows L2 Evl Mw
section
variable {P : Program} {w : World} {K : PySem.W.Frag} {mg : Str → Option Value} {base : Heap}
def sp_is_polynomial (K : PySem.W.Frag) : Sp := spF (fun x : P6 × LI => [ii x.1.z, dt x.2]) (fun x => IsC x.1 x.2 ∧ x.2.length ≤ 10000) (fun _ => .bool true)
theorem all_rg {q : P6} {l : LI} (h : Rg q l) : ((List.range l.length).map fun i => (decide (0 ≤ l.getD i 0) && decide (l.getD i 0 ≤ q.z - 1))).all id = true := by
  rw [List.all_eq_true]
  intro b hb
  obtain ⟨i, hi, rfl⟩ := List.mem_map.mp hb
  have := h.get i
  show (decide _ && decide _) = true
  rw [decide_eq_true this.1, decide_eq_true (by omega)]
  rfl
abbrev st_is_polynomial : Stmt := topS 24
theorem sc_is_polynomial : FnScope ["prime", "thing", "worth"] ["prime", "thing"] (defScope st_is_polynomial) := ⟨rfl, rfl, rfl, by decide +kernel, rfl, by decide +kernel, by decide +kernel⟩
theorem ok_is_polynomial {f aP : Addr} {fd : FuncData} (F : Fun K "is_polynomial" "is_polynomial" st_is_polynomial f fd) (T : Txt K mg aP) (c_is_number : Cal P w K mg base "is_number" 3 ["thing", "most"] (sp_is_number K)) : FnOk P w K mg base CX0 4 f fd ["prime", "thing"] (sp_is_polynomial K) := by
  refine F.ok sc_is_polynomial (fun vs H Q E h => ?_) (fun cdv A outer s H vs Q E hr h => ?_)
  · exact len_of (fun x => by first | rfl | (obtain ⟨_, _⟩ := x; rfl)) h
  obtain ⟨_, _, hsd, ⟨x, rfl, rfl, pre⟩, k⟩ := h
  have I := start_ok (N := ["prime", "thing", "worth"]) hsd
  refine ⟨_, (pss_cons (ps_if (PW.pt (pw_or (pt_not (pt_val (pe_callB (k_isi K rfl) (by rfl) T.isinstance_ (by decide +kernel) (pa_cons (pv 1) (pa_cons (pe_bltn (v := .ty "tuple") (by rfl) T.tuple_ (by decide +kernel) rfl) pa_nil))))) (pw_or1 (pt_not (pt_val (pe_callB (k_all K rfl rfl) (by rfl) T.all_ (by decide +kernel) (pa_cons (pe_lc (own := [("worth", 2)]) (g := (gName 2)) (tt := tYes) rfl sc_is_polynomial.nd (k_pit K rfl (pv 1)) (blkOk_by (own := [("worth", 2)]) (N := ["prime", "thing", "worth"]) (sc := defScope st_is_polynomial) (by decide +kernel)) (fun _ _ _ _ _ => (pg_name (i := 2) sc_is_polynomial.nd rfl (by first | exact Or.inl rfl | exact Or.inr rfl))) (fun _ _ _ _ _ => pts_nil) (fun _ _ _ _ _ => (pe_callC c_is_number (hr.mono (by decide)) (by rfl) (pa_cons (pv 2) (pa_cons (pe_op op_sub (pv 0) pe_int) pa_nil))))) pa_nil))))))) (pss_one (ps_ret pe_bl)) pss_nil) (pss_one (ps_ret (pe_or (pe_cmpR op_eq (pe_callB (k_len K rfl) (by rfl) T.len_ (by decide +kernel) (pa_cons (pv 1) pa_nil)) pe_int (nomark _)) (pe_one (pe_cmpR op_ne (pe_ix (k_ixT K rfl) (pv 1) (pe_un un_neg pe_int) (fun _ _ => rfl)) pe_int (nomark _))))))), ?_⟩
  obtain ⟨q, l⟩ := x
  obtain ⟨hc, hl⟩ := pre
  have hc : IsC q l := hc
  have hl : l.length ≤ 10000 := hl
  have I : SI H H H _ [ii q.z, dt l, .u] [] := I
  have e1 := all_rg hc.1
  try dsimp only
  refine sq (s_when (b := false) I (EvT.is (t_or (t_not (t_B (isi_tup (T := "tuple") (b := true) (x_var I rfl) (by decide +kernel)))) fun _ => t_not (t_B (x_all (EvN.x (EvN.is
    (n_lc1 I (src_tup (x_var I rfl)) (by rw [len_int]; omega) (fun i => .int (l.getD i 0)) itI (fun i => .bool (decide (0 ≤ l.getD i 0) && decide (l.getD i 0 ≤ q.z - 1))) fun i σ2 H2 hi I2 => x_callF (l.getD i 0, q.z - 1) (a_cons (x_var I2 rfl) (a_cons (x_sub (x_var I2 rfl) x_int) a_nil)) trivial) (by rw [len_int, map_bools])))))) (by rw [e1]; rfl))
    (fun e => nomatch e) fun _ H1 I1 => ?_)
  try dsimp only
  refine s_ret I1 (EvX.is (x_orV (b := true) (x_eqI (x_lenT (x_var I1 rfl)) x_int) fun e => ?_) ?_) k
  · have hn : l ≠ [] := fun z => by rw [z] at e; exact absurd e (by decide)
    refine EvX.is (x_neI (x_ixT (x_var I1 rfl) (x_neg x_int) (at_last hn)) x_int) ?_
    rw [decide_eq_false (hc.2 hn)]; rfl
  · rw [Bool.or_true]
def sp_check_polynomial (K : PySem.W.Frag) : Sp := spF (fun x : P6 × LI => [ii x.1.z, dt x.2]) (fun x => IsC x.1 x.2 ∧ x.2.length ≤ 10000) (fun _ => .none)
abbrev st_check_polynomial : Stmt := topS 25
theorem sc_check_polynomial : FnScope ["prime", "thing"] ["prime", "thing"] (defScope st_check_polynomial) := ⟨rfl, rfl, rfl, by decide +kernel, rfl, by decide +kernel, by decide +kernel⟩
theorem ok_check_polynomial {f aP : Addr} {fd : FuncData} (F : Fun K "check_polynomial" "check_polynomial" st_check_polynomial f fd) (T : Txt K mg aP) (c_is_polynomial : Cal P w K mg base "is_polynomial" 4 ["prime", "thing"] (sp_is_polynomial K)) : FnOk P w K mg base CX0 5 f fd ["prime", "thing"] (sp_check_polynomial K) := by
  refine F.ok sc_check_polynomial (fun vs H Q E h => ?_) (fun cdv A outer s H vs Q E hr h => ?_)
  · exact len_of (fun x => by first | rfl | (obtain ⟨_, _⟩ := x; rfl)) h
  obtain ⟨_, _, hsd, ⟨x, rfl, rfl, pre⟩, k⟩ := h
  have I := start_ok (N := ["prime", "thing"]) hsd
  refine ⟨_, (pss_one (ps_if (pt_not (pt_val (pe_callC c_is_polynomial (hr.mono (by decide)) (by rfl) (pa_cons (pv 0) (pa_cons (pv 1) pa_nil))))) (pss_one ps_never) pss_nil)), ?_⟩
  try dsimp only
  exact s_when I (t_not (t_B (x_callF x (a_cons (x_var I rfl) (a_cons (x_var I rfl) a_nil)) pre))) (fun e => nomatch e) fun _ H1 I1 => k _ _ I1.ex .non
def sp_trimmed (K : PySem.W.Frag) : Sp := spF (fun x : Bool × LI => [if x.1 = true then gi x.2 else dt x.2]) (fun x => x.2.length ≤ 100000) (fun x => dI (trim x.2))
abbrev st_trimmed : Stmt := topS 26
theorem sc_trimmed : FnScope ["worths", "found"] ["worths"] (defScope st_trimmed) := ⟨rfl, rfl, rfl, by decide +kernel, rfl, by decide +kernel, by decide +kernel⟩
theorem ok_trimmed {f aP : Addr} {fd : FuncData} (F : Fun K "trimmed" "trimmed" st_trimmed f fd) (T : Txt K mg aP)  : FnOk P w K mg base CX0 1 f fd ["worths"] (sp_trimmed K) := by
  refine F.ok sc_trimmed (fun vs H Q E h => ?_) (fun cdv A outer s H vs Q E hr h => ?_)
  · exact len_of (fun x => by first | rfl | (obtain ⟨_, _⟩ := x; rfl)) h
  obtain ⟨_, _, hsd, ⟨x, rfl, rfl, pre⟩, k⟩ := h
  have I := start_ok (N := ["worths", "found"]) hsd
  refine ⟨_, (pss_cons (ps_set (i := 1) sc_trimmed.nd rfl (by first | exact Or.inl rfl | exact Or.inr rfl) (pe_callTy (k_list K rfl) (by rfl) T.list_ (by decide +kernel) (pa_cons (pv 0) pa_nil))) (pss_cons (ps_while PassesOwn.never (PW.pt (pw_and (pt_cmpR op_gt (pe_callB (k_len K rfl) (by rfl) T.len_ (by decide +kernel) (pa_cons (pv 1) pa_nil)) pe_int (nomark _)) (pw_and1 (pt_cmpR op_eq (pe_ix (k_ixL K rfl) (pv 1) (pe_un un_neg pe_int) (fun _ _ => rfl)) pe_int (nomark _))))) (pss_one (ps_expr (pe_bm0 PySem.F.plainAttrs_list PySem.F.slot_list_pop PySem.F.type_list_pop mt_pop (pv 1))))) (pss_one (ps_ret (pe_callTy (k_tuple K rfl) (by rfl) T.tuple_ (by decide +kernel) (pa_cons (pv 1) pa_nil)))))), ?_⟩
  obtain ⟨b, l⟩ := x
  have I : SI H H H _ [if b = true then gi l else dt l, .u] [] := I
  have hlist : ∀ {te : TE} {σ : L2.St} {H1 : Hp}, EvX te σ H1 (if b = true then gi l else dt l) → EvN (tCB (rListS K) (tCons te tNil)) σ H1 (l.map .int) := fun {te σ H1} h => by
    cases b with
    | true => exact n_listL h
    | false => exact n_listT h
  have hv : EvX (tVar 0) (L2.start ["worths", "found"] vs) H (if b = true then gi l else dt l) := by
    cases b with
    | true => exact x_giv I rfl
    | false => exact x_var I rfl
  try dsimp only
  refine sq (s_setN I (hlist hv) fun a σ1 H1 I1 => ?_)
  have I1 : SI H H H1 σ1 [if b = true then gi l else dt l, .r a] [(a, .lst (l.map .int))] := I1
  try dsimp only
  refine sq (s_while (fun m σ' H' => ∃ l' : LI, l'.length = m ∧ trim l' = trim l ∧ SI H H H' σ' [if b = true then gi l else dt l, .r a] [(a, .lst (l'.map .int))]) l.length ⟨l, rfl, rfl, I1⟩ fun m σ2 H2 ⟨l', hm, ht, I2⟩ => ?_)
  refine ⟨decide (0 < (l'.length : Int)) && decide (lastI l' = 0), ?_, fun hb H3 e3 => ?_, fun hb H3 e3 => ?_⟩
  · refine t_and (t_B (EvX.is (x_gt (x_lenL (x_own (j := 0) I2 rfl (x_ref I2 rfl))) x_int) (by rw [len_int]))) fun hp => ?_
    have hn : l' ≠ [] := fun z => by rw [z] at hp; exact absurd hp (by decide)
    exact t_B (x_eqI (x_ixL (x_own (j := 0) I2 rfl (x_ref I2 rfl)) (x_neg x_int) (at_last hn)) x_int)
  · have hn : l' ≠ [] := fun z => by rw [z] at hb; exact absurd hb (by decide)
    have h0 : lastI l' = 0 := of_decide_eq_true (Bool.and_eq_true_iff.mp hb).2
    have I3 := I2.ext e3
    refine ⟨fun σ' H' => SI H H H' σ' [if b = true then gi l else dt l, .r a] [(a, .lst (l'.dropLast.map .int))], fun σ4 H4 I4 => ⟨l'.dropLast.length, ?_, l'.dropLast, rfl, (trim_drop hn h0).trans ht, I4⟩, ?_⟩
    · have := List.length_pos_iff.mpr hn
      rw [List.length_dropLast]; omega
    · try dsimp only
      refine s_pop I3 (x_ref I3 rfl) (j := 0) rfl (fun z => hn (List.map_eq_nil_iff.mp z)) fun H4 I4 => ?_
      have I4 : SI H H H4 σ2 _ [(a, .lst (l'.map PyData.int).dropLast)] := I4
      rw [← List.map_dropLast] at I4
      exact I4
  · have I3 := I2.ext e3
    have hs : trim l' = l' := trim_same fun hn z => by
      rw [decide_eq_true (show (0 : Int) < l'.length by have := List.length_pos_iff.mpr hn; omega), decide_eq_true z] at hb
      exact nomatch hb
    try dsimp only
    refine s_ret I3 (EvX.is (x_tupL (x_own (j := 0) I3 rfl (x_ref I3 rfl))) ?_) k
    show Sl.d (dI l') = Sl.d (dI (trim l))
    rw [← ht, hs]
theorem lenz (l : LI) : ((l.map PyData.int).length : Int) = (l.length : Int) := by rw [List.length_map]
def sp_raw_product (K : PySem.W.Frag) : Sp := spF (fun x : P6 × LI × LI => [ii x.1.z, dt x.2.1, dt x.2.2]) (fun x => Rg x.1 x.2.1 ∧ Rg x.1 x.2.2 ∧ x.2.1.length ≤ 10000 ∧ x.2.2.length ≤ 10000) (fun x => dI (rawProduct x.1.z x.2.1 x.2.2))
abbrev st_raw_product : Stmt := topS 27
theorem sc_raw_product : FnScope ["prime", "one", "other", "found", "at", "here", "place", "there"] ["prime", "one", "other"] (defScope st_raw_product) := ⟨rfl, rfl, rfl, by decide +kernel, rfl, by decide +kernel, by decide +kernel⟩
theorem ok_raw_product {f aP : Addr} {fd : FuncData} (F : Fun K "raw_product" "raw_product" st_raw_product f fd) (T : Txt K mg aP) (c_trimmed : Cal P w K mg base "trimmed" 1 ["worths"] (sp_trimmed K)) : FnOk P w K mg base CX0 2 f fd ["prime", "one", "other"] (sp_raw_product K) := by
  refine F.ok sc_raw_product (fun vs H Q E h => ?_) (fun cdv A outer s H vs Q E hr h => ?_)
  · exact len_of (fun x => by first | rfl | (obtain ⟨_, _⟩ := x; rfl)) h
  obtain ⟨_, _, hsd, ⟨x, rfl, rfl, pre⟩, k⟩ := h
  have I := start_ok (N := ["prime", "one", "other", "found", "at", "here", "place", "there"]) hsd
  refine ⟨_, (pss_cons (ps_set (i := 3) sc_raw_product.nd rfl (by first | exact Or.inl rfl | exact Or.inr rfl) (pe_op op_rep (pe_lst (pa_cons pe_int pa_nil)) (pe_op op_add (pe_callB (k_len K rfl) (by rfl) T.len_ (by decide +kernel) (pa_cons (pv 1) pa_nil)) (pe_callB (k_len K rfl) (by rfl) T.len_ (by decide +kernel) (pa_cons (pv 2) pa_nil))))) (pss_cons (ps_for PassesOwn.never rfl (pi_enumT (by rfl) T.enumerate_ (pa_cons (pv 1) pa_nil)) (pg_tup (by rfl) (pgs_cons (pg_name (i := 4) sc_raw_product.nd rfl (by first | exact Or.inl rfl | exact Or.inr rfl)) (pgs_cons (pg_name (i := 5) sc_raw_product.nd rfl (by first | exact Or.inl rfl | exact Or.inr rfl)) pgs_nil))) (pss_one (ps_for PassesOwn.never rfl (pi_enumT (by rfl) T.enumerate_ (pa_cons (pv 2) pa_nil)) (pg_tup (by rfl) (pgs_cons (pg_name (i := 6) sc_raw_product.nd rfl (by first | exact Or.inl rfl | exact Or.inr rfl)) (pgs_cons (pg_name (i := 7) sc_raw_product.nd rfl (by first | exact Or.inl rfl | exact Or.inr rfl)) pgs_nil))) (pss_one (ps_asg (pe_op op_mod (pe_op op_add (pe_ix (k_ixL K rfl) (pv 3) (pe_op op_add (pv 4) (pv 6)) (fun _ _ => rfl)) (pe_op op_mul (pv 5) (pv 7))) (pv 0)) (pg_sub (pv 3) (pe_op op_add (pv 4) (pv 6)) set_list)))))) (pss_one (ps_ret (pe_callC c_trimmed (hr.mono (by decide)) (by rfl) (pa_cons (pv 3) pa_nil)))))), ?_⟩
  obtain ⟨q, one, other⟩ := x
  obtain ⟨r1, r2, l1, l2⟩ := pre
  have r1 : Rg q one := r1
  have r2 : Rg q other := r2
  have l1 : one.length ≤ 10000 := l1
  have l2 : other.length ≤ 10000 := l2
  have hq := p_bd q
  have I : SI H H H _ [ii q.z, dt one, dt other, .u, .u, .u, .u, .u] [] := I
  try dsimp only
  refine sq (s_setN I (EvN.is (n_rep (EvN.x (n_lst (ds := [.int 0]) (a_cons x_int a_nil) (by decide))) (x_add (x_lenT (x_var I rfl)) (x_lenT (x_var I rfl))) (by rw [lenz, lenz]; omega) (by rw [lenz, lenz]; omega)) (es := (List.replicate (one.length + other.length) (0 : Int)).map .int) (by rw [lenz, lenz, ← rep_int]; congr 1)) fun a σ1 H1 I1 => ?_)
  have I1 : SI H H H1 σ1 [ii q.z, dt one, dt other, .r a, .u, .u, .u, .u] [(a, .lst ((List.replicate (one.length + other.length) (0 : Int)).map .int))] := I1
  try dsimp only
  refine sq (s_for_enumT (j := 4) (k := 5) I1 (x_var I1 rfl) (fun B i σ H' => SI H B H' σ [ii q.z, dt one, dt other, .r a, .u, .u, .u, .u] [(a, .lst ((mulRows q.z one other i (List.replicate (one.length + other.length) (0 : Int))).map .int))]) (fun H2 t I2 => I2) (fun B i σ H' I => I.tb) (fun B i d v σ2 H2 H3 hd I2 e hv => ?_) fun B σ2 H2 I2 => ?_)
  · obtain ⟨hi, rfl⟩ := get_int' hd
    have I3 : SI H B H3 _ [ii q.z, dt one, dt other, .r a, ii i, ii (one.getD i 0), .u, .u] _ := ((I2.ext e).setD 4 (Tp.int (i : Int))).setD 5 hv
    try dsimp only
    refine s_for_enumT (j := 6) (k := 7) I3 (x_var I3 rfl) (fun B2 n σ H' => TE' B B2 ∧ SI H B2 H' σ [ii q.z, dt one, dt other, .r a, ii i, ii (one.getD i 0), .u, .u] [(a, .lst ((addRow q.z i (one.getD i 0) other n (mulRows q.z one other i (List.replicate (one.length + other.length) (0 : Int)))).map .int))]) (fun H4 t I4 => ⟨t, I4⟩) (fun B2 n σ H' p => p.2.tb)
      (fun B2 n d v σ4 H4 H5 hd2 p e2 hv2 => ?_) fun B2 σ4 H4 p => ?_
    · obtain ⟨hn, rfl⟩ := get_int' hd2
      have I5 : SI H B2 H5 _ [ii q.z, dt one, dt other, .r a, ii i, ii (one.getD i 0), ii n, ii (other.getD n 0)] _ := ((p.2.ext e2).setD 6 (Tp.int (n : Int))).setD 7 hv2
      have hlen : i + n < (addRow q.z i (one.getD i 0) other n (mulRows q.z one other i (List.replicate (one.length + other.length) (0 : Int)))).length := by
        rw [addRow_len, mulRows_len, List.length_replicate]; omega
      try dsimp only
      refine s_put I5 (x_mod (x_add (x_ixL (x_own (j := 0) I5 rfl (x_ref I5 rfl)) (x_add (x_var I5 rfl) (x_var I5 rfl)) (at_int' (i := i + n) (by omega) hlen)) (x_mul (x_var I5 rfl) (x_var I5 rfl) (small13 (r1.get i) _))) (x_var I5 rfl) (by omega)) (x_ref I5 rfl) (j := 0) rfl (x_add (x_var I5 rfl) (x_var I5 rfl)) (n := i + n) (by omega) (by rw [len_int]; exact hlen) fun H6 I6 => ?_
      refine ⟨p.1, ?_⟩
      rw [addRow_succ]
      have I6 : SI H B2 H6 _ [ii q.z, dt one, dt other, .r a, ii i, ii (one.getD i 0), ii n, ii (other.getD n 0)] [(a, .lst (((addRow q.z i (one.getD i 0) other n (mulRows q.z one other i (List.replicate (one.length + other.length) (0 : Int)))).map PyData.int).set (i + n) _))] := I6
      rw [map_set] at I6
      exact (I6.u 6).u 7
    · have I5 := ((p.2.re p.1).u 4).u 5
      show SI H B H4 σ4 _ _
      rw [mulRows_succ]
      rw [len_int] at I5
      exact I5
  · rw [len_int] at I2
    have hlen2 : (mulRows q.z one other one.length (List.replicate (one.length + other.length) (0 : Int))).length ≤ 100000 := by rw [mulRows_len, List.length_replicate]; omega
    try dsimp only
    exact s_ret I2 (x_callF (true, mulRows q.z one other one.length (List.replicate (one.length + other.length) (0 : Int))) (a_cons (x_own (j := 0) I2 rfl (x_ref I2 rfl)) a_nil) hlen2) k
def sp_monic (K : PySem.W.Frag) : Sp := spF (fun x : P6 × LI => [ii x.1.z, dt x.2]) (fun x => x.2 ≠ [] ∧ x.2.length ≤ 10000) (fun x => dI (monic x.1.z x.2))
abbrev st_monic : Stmt := topS 29
theorem sc_monic : FnScope ["prime", "poly", "by", "worth"] ["prime", "poly"] (defScope st_monic) := ⟨rfl, rfl, rfl, by decide +kernel, rfl, by decide +kernel, by decide +kernel⟩
theorem ok_monic {f aP : Addr} {fd : FuncData} (F : Fun K "monic" "monic" st_monic f fd) (T : Txt K mg aP) (c_inverse_of : Cal P w K mg base "inverse_of" 1 ["prime", "worth"] (sp_inverse_of K)) : FnOk P w K mg base CX0 2 f fd ["prime", "poly"] (sp_monic K) := by
  refine F.ok sc_monic (fun vs H Q E h => ?_) (fun cdv A outer s H vs Q E hr h => ?_)
  · exact len_of (fun x => by first | rfl | (obtain ⟨_, _⟩ := x; rfl)) h
  obtain ⟨_, _, hsd, ⟨x, rfl, rfl, pre⟩, k⟩ := h
  have I := start_ok (N := ["prime", "poly", "by", "worth"]) hsd
  refine ⟨_, (pss_cons (ps_set (i := 2) sc_monic.nd rfl (by first | exact Or.inl rfl | exact Or.inr rfl) (pe_callC c_inverse_of (hr.mono (by decide)) (by rfl) (pa_cons (pv 0) (pa_cons (pe_ix (k_ixT K rfl) (pv 1) (pe_un un_neg pe_int) (fun _ _ => rfl)) pa_nil)))) (pss_one (ps_ret (pe_callTy (k_tuple K rfl) (by rfl) T.tuple_ (by decide +kernel) (pa_cons (pe_lc (own := [("worth", 3)]) (g := (gName 3)) (tt := tYes) rfl sc_monic.nd (k_pit K rfl (pv 1)) (blkOk_by (own := [("worth", 3)]) (N := ["prime", "poly", "by", "worth"]) (sc := defScope st_monic) (by decide +kernel)) (fun _ _ _ _ _ => (pg_name (i := 3) sc_monic.nd rfl (by first | exact Or.inl rfl | exact Or.inr rfl))) (fun _ _ _ _ _ => pts_nil) (fun _ _ _ _ _ => (pe_op op_mod (pe_op op_mul (pv 3) (pv 2)) (pv 0)))) pa_nil))))), ?_⟩
  obtain ⟨q, l⟩ := x
  obtain ⟨hne, hl⟩ := pre
  have hne : l ≠ [] := hne
  have hl : l.length ≤ 10000 := hl
  have hq := p_bd q
  have I : SI H H H _ [ii q.z, dt l, .u, .u] [] := I
  try dsimp only
  refine sq (s_set I (x_callF (q, lastI l) (a_cons (x_var I rfl) (a_cons (x_ixT (x_var I rfl) (x_neg x_int) (at_last hne)) a_nil)) trivial) fun σ1 H1 I1 => ?_)
  have I1 : SI H H H1 σ1 [ii q.z, dt l, ii (invOf q.z (lastI l)), .u] [] := I1
  have hb := invOf_bd q (lastI l)
  try dsimp only
  refine s_ret I1 (EvX.is (x_tupL (EvN.x (n_lc1 I1 (src_tup (x_var I1 rfl)) (by rw [len_int]; omega) (fun i => .int (l.getD i 0)) itI (fun i => .int (l.getD i 0 * invOf q.z (lastI l) % q.z)) fun i σ2 H2 hi I2 => x_mod (x_mul (x_var I2 rfl) (x_var I2 rfl) (.inr (by omega))) (x_var I2 rfl) (by omega)))) ?_) k
  rw [len_int, map_ints, map_range l (fun z => z * invOf q.z (lastI l) % q.z)]
  rfl
theorem divTurns_len {q : P6} {inv : Int} {other : LI} {top : Nat} {s : LI × LI} : ∀ n, (divTurns q.z inv other top n s).1.length = s.1.length ∧ (divTurns q.z inv other top n s).2.length = s.2.length
  | 0 => ⟨rfl, rfl⟩
  | n + 1 => by
    obtain ⟨h1, h2⟩ := divTurns_len (q := q) (inv := inv) (other := other) (top := top) (s := s) n
    rw [divTurns_succ]
    exact ⟨(subRow_len _ _ _ _ _ _).trans h1, (List.length_set ..).trans h2⟩
theorem divTurns_rg {q : P6} {inv : Int} {other : LI} {top : Nat} {s : LI × LI} (h : Rg q s.1) : ∀ n, Rg q (divTurns q.z inv other top n s).1
  | 0 => h
  | n + 1 => by
    rw [divTurns_succ]
    exact subRow_rg (divTurns_rg h n) _
def sp_divided (K : PySem.W.Frag) : Sp := spF (fun x : P6 × LI × LI => [ii x.1.z, dt x.2.1, dt x.2.2]) (fun x => Rg x.1 x.2.1 ∧ Rg x.1 x.2.2 ∧ x.2.2 ≠ [] ∧ x.2.1.length ≤ 20000 ∧ x.2.2.length ≤ 10000) (fun x => .tuple [dI (divided x.1.z x.2.1 x.2.2).1, dI (divided x.1.z x.2.1 x.2.2).2])
abbrev st_divided : Stmt := topS 30
theorem sc_divided : FnScope ["prime", "one", "other", "left", "quotient", "by", "at", "many", "place", "worth"] ["prime", "one", "other"] (defScope st_divided) := ⟨rfl, rfl, rfl, by decide +kernel, rfl, by decide +kernel, by decide +kernel⟩
theorem ok_divided {f aP : Addr} {fd : FuncData} (F : Fun K "divided" "divided" st_divided f fd) (T : Txt K mg aP) (c_trimmed : Cal P w K mg base "trimmed" 1 ["worths"] (sp_trimmed K)) (c_inverse_of : Cal P w K mg base "inverse_of" 1 ["prime", "worth"] (sp_inverse_of K)) : FnOk P w K mg base CX0 2 f fd ["prime", "one", "other"] (sp_divided K) := by
  refine F.ok sc_divided (fun vs H Q E h => ?_) (fun cdv A outer s H vs Q E hr h => ?_)
  · exact len_of (fun x => by first | rfl | (obtain ⟨_, _⟩ := x; rfl)) h
  obtain ⟨_, _, hsd, ⟨x, rfl, rfl, pre⟩, k⟩ := h
  have I := start_ok (N := ["prime", "one", "other", "left", "quotient", "by", "at", "many", "place", "worth"]) hsd
  refine ⟨_, (pss_cons (ps_set (i := 3) sc_divided.nd rfl (by first | exact Or.inl rfl | exact Or.inr rfl) (pe_callTy (k_list K rfl) (by rfl) T.list_ (by decide +kernel) (pa_cons (pv 1) pa_nil))) (pss_cons (ps_set (i := 4) sc_divided.nd rfl (by first | exact Or.inl rfl | exact Or.inr rfl) (pe_op op_rep (pe_lst (pa_cons pe_int pa_nil)) (pe_callB (k_max rfl) (by rfl) T.max_ (by decide +kernel) (pa_cons pe_int (pa_cons (pe_op op_add (pe_op op_sub (pe_callB (k_len K rfl) (by rfl) T.len_ (by decide +kernel) (pa_cons (pv 1) pa_nil)) (pe_callB (k_len K rfl) (by rfl) T.len_ (by decide +kernel) (pa_cons (pv 2) pa_nil))) pe_int) pa_nil))))) (pss_cons (ps_set (i := 5) sc_divided.nd rfl (by first | exact Or.inl rfl | exact Or.inr rfl) (pe_callC c_inverse_of (hr.mono (by decide)) (by rfl) (pa_cons (pv 0) (pa_cons (pe_ix (k_ixT K rfl) (pv 2) (pe_un un_neg pe_int) (fun _ _ => rfl)) pa_nil)))) (pss_cons (ps_for PassesOwn.never rfl (pi_range3 (by rfl) T.range_ (pa_cons (pe_op op_sub (pe_callB (k_len K rfl) (by rfl) T.len_ (by decide +kernel) (pa_cons (pv 1) pa_nil)) (pe_callB (k_len K rfl) (by rfl) T.len_ (by decide +kernel) (pa_cons (pv 2) pa_nil))) (pa_cons (pe_un un_neg pe_int) (pa_cons (pe_un un_neg pe_int) pa_nil)))) (pg_name (i := 6) sc_divided.nd rfl (by first | exact Or.inl rfl | exact Or.inr rfl)) (pss_cons (ps_set (i := 7) sc_divided.nd rfl (by first | exact Or.inl rfl | exact Or.inr rfl) (pe_op op_mod (pe_op op_mul (pe_ix (k_ixL K rfl) (pv 3) (pe_op op_sub (pe_op op_add (pv 6) (pe_callB (k_len K rfl) (by rfl) T.len_ (by decide +kernel) (pa_cons (pv 2) pa_nil))) pe_int) (fun _ _ => rfl)) (pv 5)) (pv 0))) (pss_cons (ps_asg (pv 7) (pg_sub (pv 4) (pv 6) set_list)) (pss_one (ps_for PassesOwn.never rfl (pi_enumT (by rfl) T.enumerate_ (pa_cons (pv 2) pa_nil)) (pg_tup (by rfl) (pgs_cons (pg_name (i := 8) sc_divided.nd rfl (by first | exact Or.inl rfl | exact Or.inr rfl)) (pgs_cons (pg_name (i := 9) sc_divided.nd rfl (by first | exact Or.inl rfl | exact Or.inr rfl)) pgs_nil))) (pss_one (ps_asg (pe_op op_mod (pe_op op_sub (pe_ix (k_ixL K rfl) (pv 3) (pe_op op_add (pv 6) (pv 8)) (fun _ _ => rfl)) (pe_op op_mul (pv 7) (pv 9))) (pv 0)) (pg_sub (pv 3) (pe_op op_add (pv 6) (pv 8)) set_list)))))))) (pss_one (ps_ret (pe_tup (pa_cons (pe_callC c_trimmed (hr.mono (by decide)) (by rfl) (pa_cons (pv 4) pa_nil)) (pa_cons (pe_callC c_trimmed (hr.mono (by decide)) (by rfl) (pa_cons (pv 3) pa_nil)) pa_nil))))))))), ?_⟩
  obtain ⟨q, one, other⟩ := x
  obtain ⟨r1, r2, hne, l1, l2⟩ := pre
  have r1 : Rg q one := r1
  have r2 : Rg q other := r2
  have hne : other ≠ [] := hne
  have l1 : one.length ≤ 20000 := l1
  have l2 : other.length ≤ 10000 := l2
  have hq := p_bd q
  have hp : 0 < other.length := List.length_pos_iff.mpr hne
  have I : SI H H H _ [ii q.z, dt one, dt other, .u, .u, .u, .u, .u, .u, .u] [] := I
  try dsimp only
  refine sq (s_setN I (n_listT (x_var I rfl)) fun a σ1 H1 I1 => ?_)
  have I1 : SI H H H1 σ1 [ii q.z, dt one, dt other, .r a, .u, .u, .u, .u, .u, .u] [(a, .lst (one.map .int))] := I1
  try dsimp only
  refine sq (s_setN I1 (EvN.is (n_rep (EvN.x (n_lst (ds := [.int 0]) (a_cons x_int a_nil) (by decide))) (x_max2 x_int (x_add (x_sub (x_lenT (x_var I1 rfl)) (x_lenT (x_var I1 rfl))) x_int)) (by rw [lenz, lenz]; split <;> omega) (by rw [lenz, lenz]; split <;> omega)) (es := (List.replicate (one.length + 1 - other.length) (0 : Int)).map .int)
    (by rw [lenz, lenz, ← rep_int]; congr 1; split <;> omega)) fun b σ2 H2 I2 => ?_)
  have I2 : SI H H H2 σ2 [ii q.z, dt one, dt other, .r a, .r b, .u, .u, .u, .u, .u] [(b, .lst ((List.replicate (one.length + 1 - other.length) (0 : Int)).map .int)), (a, .lst (one.map .int))] := I2
  try dsimp only
  refine sq (s_set I2 (x_callF (q, lastI other) (a_cons (x_var I2 rfl) (a_cons (x_ixT (x_var I2 rfl) (x_neg x_int) (at_last hne)) a_nil)) trivial) fun σ3 H3 I3 => ?_)
  have hb := invOf_bd q (lastI other)
  generalize hinv : invOf q.z (lastI other) = inv at hb
  have I3 : SI H H H3 σ3 [ii q.z, dt one, dt other, .r a, .r b, ii inv, .u, .u, .u, .u] [(b, .lst ((List.replicate (one.length + 1 - other.length) (0 : Int)).map .int)), (a, .lst (one.map .int))] := hinv ▸ I3
  generalize hst : (fun i => divTurns q.z inv other (one.length - other.length) i (one, List.replicate (one.length + 1 - other.length) (0 : Int))) = st
  have hst' : ∀ i, st i = divTurns q.z inv other (one.length - other.length) i (one, List.replicate (one.length + 1 - other.length) (0 : Int)) := fun i => by rw [← hst]
  have sl1 : ∀ i, (st i).1.length = one.length := fun i => by rw [hst']; exact (divTurns_len i).1
  have sl2 : ∀ i, (st i).2.length = one.length + 1 - other.length := fun i => by rw [hst', (divTurns_len i).2, List.length_replicate]
  have sr1 : ∀ i, Rg q (st i).1 := fun i => by rw [hst']; exact divTurns_rg r1 i
  try dsimp only
  refine sq (s_for_dn (j := 6) (lo := (one.length : Int) - (other.length : Int)) (n := -1) (by rw [← lenz one, ← lenz other]; exact a_cons (x_sub (x_lenT (x_var I3 rfl)) (x_lenT (x_var I3 rfl))) (a_cons (x_neg x_int) (a_cons (x_neg x_int) a_nil))) (by omega)
    (fun i σ H' => SI H H H' σ [ii q.z, dt one, dt other, .r a, .r b, ii inv, .u, .u, .u, .u] [(b, .lst ((st i).2.map .int)), (a, .lst ((st i).1.map .int))]) (fun H4 e => by rw [hst']; exact I3.ext e) (fun i σ4 H4 hi I4 => ?_) fun σ4 H4 I4 => ?_)
  · have ez : (one.length : Int) - (other.length : Int) - (i : Int) = ((one.length - other.length - i : Nat) : Int) := by omega
    have hi' : one.length - other.length - i + other.length ≤ one.length := by omega
    rw [ez]
    generalize hp' : one.length - other.length - i = pl at hi'
    have es : st (i + 1) = divTurn q.z inv other pl (st i) := by rw [hst', hst', divTurns_succ, hp']
    have I5 : SI H H H4 _ [ii q.z, dt one, dt other, .r a, .r b, ii inv, ii pl, .u, .u, .u] _ := I4.setD 6 (Tp.int (pl : Int))
    have hml : pl + other.length - 1 < (st i).1.length := by rw [sl1]; omega
    try dsimp only
    refine sq (s_set I5 (x_mod (x_mul (x_ixL (x_own (j := 1) I5 rfl (x_ref I5 rfl)) (x_sub (x_add (x_var I5 rfl) (x_lenT (x_var I5 rfl))) x_int) (at_int' (i := pl + other.length - 1) (by rw [lenz]; omega) hml)) (x_var I5 rfl) (.inr (by omega))) (x_var I5 rfl) (by omega)) fun σ6 H6 I6 => ?_)
    generalize hm : (st i).1.getD (pl + other.length - 1) 0 * inv % q.z = m at I6
    have hmb : 0 ≤ m ∧ m < q.z := by rw [← hm]; exact mod_in _
    have I6 : SI H H H6 σ6 [ii q.z, dt one, dt other, .r a, .r b, ii inv, ii pl, ii m, .u, .u] [(b, .lst ((st i).2.map .int)), (a, .lst ((st i).1.map .int))] := I6
    try dsimp only
    refine sq (s_put I6 (x_var I6 rfl) (x_ref I6 rfl) (j := 0) rfl (x_var I6 rfl) (n := pl) rfl (by rw [len_int, sl2]; omega) fun H7 I7 => ?_)
    have I7 : SI H H H7 σ6 [ii q.z, dt one, dt other, .r a, .r b, ii inv, ii pl, ii m, .u, .u] [(b, .lst (((st i).2.map PyData.int).set pl (.int m))), (a, .lst ((st i).1.map .int))] := I7
    rw [map_set] at I7
    have es1 : (st (i + 1)).2 = (st i).2.set pl m := by rw [es, ← hm]; rfl
    have es2 : (st (i + 1)).1 = subRow q.z pl m other other.length (st i).1 := by rw [es, ← hm]; rfl
    rw [← es1] at I7
    try dsimp only
    refine s_for_enumT (j := 8) (k := 9) I7 (x_var I7 rfl) (fun B2 n σ H' => TE' H B2 ∧ SI H B2 H' σ [ii q.z, dt one, dt other, .r a, .r b, ii inv, ii pl, ii m, .u, .u] [(b, .lst ((st (i + 1)).2.map .int)), (a, .lst ((subRow q.z pl m other n (st i).1).map .int))]) (fun H4 t I4 => ⟨t, I4⟩) (fun B2 n σ H' p => p.2.tb)
      (fun B2 n d v σ8 H8 H9 hd2 p e2 hv2 => ?_) fun B2 σ8 H8 p => ?_
    · obtain ⟨hn, rfl⟩ := get_int' hd2
      have I9 : SI H B2 H9 _ [ii q.z, dt one, dt other, .r a, .r b, ii inv, ii pl, ii m, ii n, ii (other.getD n 0)] _ := ((p.2.ext e2).setD 8 (Tp.int (n : Int))).setD 9 hv2
      have hlen : pl + n < (subRow q.z pl m other n (st i).1).length := by rw [subRow_len, sl1]; omega
      try dsimp only
      refine s_put I9 (x_mod (x_sub (x_ixL (x_own (j := 1) I9 rfl (x_ref I9 rfl)) (x_add (x_var I9 rfl) (x_var I9 rfl)) (at_int' (i := pl + n) (by omega) hlen)) (x_mul (x_var I9 rfl) (x_var I9 rfl) (small13 hmb _))) (x_var I9 rfl) (by omega)) (x_ref I9 rfl) (j := 1) rfl (x_add (x_var I9 rfl) (x_var I9 rfl)) (n := pl + n) (by omega) (by rw [len_int]; exact hlen) fun H10 I10 => ?_
      rw [subRow_succ]
      have I10 : SI H B2 H10 _ [ii q.z, dt one, dt other, .r a, .r b, ii inv, ii pl, ii m, ii n, ii (other.getD n 0)] [(b, .lst ((st (i + 1)).2.map .int)), (a, .lst (((subRow q.z pl m other n (st i).1).map PyData.int).set (pl + n) _))] := I10
      rw [map_set] at I10
      exact ⟨p.1, (I10.u 8).u 9⟩
    · obtain ⟨p1, p2⟩ := p
      rw [len_int] at p2
      show SI H H H8 σ8 _ _
      rw [es2]
      exact ((p2.re p1).u 6).u 7
  · have en : ((one.length : Int) - (other.length : Int) - -1).toNat = one.length + 1 - other.length := by omega
    rw [en] at I4
    have g1 : (st (one.length + 1 - other.length)).1.length ≤ 100000 := by rw [sl1]; omega
    have g2 : (st (one.length + 1 - other.length)).2.length ≤ 100000 := by rw [sl2]; omega
    try dsimp only
    refine s_ret I4 (EvX.is (x_tup (ds := [dI (trim (st (one.length + 1 - other.length)).2), dI (trim (st (one.length + 1 - other.length)).1)]) (a_cons (x_callF (true, (st (one.length + 1 - other.length)).2) (a_cons (x_own (j := 0) I4 rfl (x_ref I4 rfl)) a_nil) g2)
      (a_cons (x_callF (true, (st (one.length + 1 - other.length)).1) (a_cons (x_own (j := 1) I4 rfl (x_ref I4 rfl)) a_nil) g1) a_nil)) (by show 2 ≤ 100000; decide)) ?_) k
    rw [hst', ← hinv]
    rfl
end
end Wk
end
section
set_option Elab.async false
set_option linter.all false
set_option maxRecDepth 100000
set_option maxHeartbeats 4000000
/-! The defs, one by one: common, slope, minus, product, times_in. -/
namespace Wk
open PySem PySem.Spec PyProof.Rows L2 Evl Mw
section
variable {P : Program} {w : World} {K : PySem.W.Frag} {mg : Str → Option Value} {base : Heap}
theorem commonF_fuel {q : P6} : ∀ (n m : Nat) (one other : LI), other.length < n → other.length < m → IsC q one → IsC q other → commonF q.z n one other = commonF q.z m one other
  | 0, _, _, _, h, _, _, _ => by omega
  | _ + 1, 0, _, _, _, h, _, _ => by omega
  | n + 1, m + 1, one, other, h1, h2, c1, c2 => by
    unfold commonF
    by_cases e : other = []
    · rw [if_pos e, if_pos e]
    · rw [if_neg e, if_neg e]
      obtain ⟨_, d2, _, d4⟩ := divided_ok c2 e c1.1
      exact commonF_fuel n m other _ (by omega) (by omega) c2 d2
def sp_common (K : PySem.W.Frag) : Sp := spF (fun x : P6 × LI × LI => [ii x.1.z, dt x.2.1, dt x.2.2]) (fun x => IsC x.1 x.2.1 ∧ IsC x.1 x.2.2 ∧ (x.2.1 ≠ [] ∨ x.2.2 ≠ []) ∧ x.2.1.length ≤ 10000 ∧ x.2.2.length ≤ 10000) (fun x => dI (common x.1.z x.2.1 x.2.2))
abbrev st_common : Stmt := topS 31
theorem sc_common : FnScope ["prime", "one", "other"] ["prime", "one", "other"] (defScope st_common) := ⟨rfl, rfl, rfl, by decide +kernel, rfl, by decide +kernel, by decide +kernel⟩
theorem ok_common {f aP : Addr} {fd : FuncData} (F : Fun K "common" "common" st_common f fd) (T : Txt K mg aP) (c_monic : Cal P w K mg base "monic" 2 ["prime", "poly"] (sp_monic K)) (c_divided : Cal P w K mg base "divided" 2 ["prime", "one", "other"] (sp_divided K)) : FnOk P w K mg base CX0 3 f fd ["prime", "one", "other"] (sp_common K) := by
  refine F.ok sc_common (fun vs H Q E h => ?_) (fun cdv A outer s H vs Q E hr h => ?_)
  · exact len_of (fun x => by first | rfl | (obtain ⟨_, _⟩ := x; rfl)) h
  obtain ⟨_, _, hsd, ⟨x, rfl, rfl, pre⟩, k⟩ := h
  have I := start_ok (N := ["prime", "one", "other"]) hsd
  refine ⟨_, (pss_cons (ps_while PassesOwn.never (pt_cmpR op_gt (pe_callB (k_len K rfl) (by rfl) T.len_ (by decide +kernel) (pa_cons (pv 2) pa_nil)) pe_int (nomark _)) (pss_one (ps_par (by rfl) sc_common.nd (i := 1) (j := 2) rfl rfl (by decide) rfl rfl (pa_cons (pv 2) (pa_cons (pe_ix (k_ixT K rfl) (pe_callC c_divided (hr.mono (by decide)) (by rfl) (pa_cons (pv 0) (pa_cons (pv 1) (pa_cons (pv 2) pa_nil)))) pe_int (fun _ _ => rfl)) pa_nil)) (by rfl)))) (pss_one (ps_ret (pe_callC c_monic (hr.mono (by decide)) (by rfl) (pa_cons (pv 0) (pa_cons (pv 1) pa_nil)))))), ?_⟩
  obtain ⟨q, one, other⟩ := x
  obtain ⟨c1, c2, hne, l1, l2⟩ := pre
  have c1 : IsC q one := c1
  have c2 : IsC q other := c2
  have l1 : one.length ≤ 10000 := l1
  have l2 : other.length ≤ 10000 := l2
  have hne : one ≠ [] ∨ other ≠ [] := hne
  have I : SI H H H _ [ii q.z, dt one, dt other] [] := I
  try dsimp only
  refine sq (s_while (fun m σ' H' => ∃ a b : LI, b.length = m ∧ IsC q a ∧ IsC q b ∧ (a ≠ [] ∨ b ≠ []) ∧ a.length ≤ 10000 ∧ b.length ≤ 10000 ∧ commonF q.z (b.length + 1) a b = common q.z one other ∧ SI H H H' σ' [ii q.z, dt a, dt b] []) other.length
    ⟨one, other, rfl, c1, c2, hne, l1, l2, rfl, I⟩ fun m σ2 H2 ⟨a, b, hm, ca, cb, hab, la, lb, he, I2⟩ => ?_)
  refine ⟨decide (0 < (b.length : Int)), t_B (EvX.is (x_gt (x_lenT (x_var I2 rfl)) x_int) (by rw [lenz])), fun hb H3 e3 => ?_, fun hb H3 e3 => ?_⟩
  · have hn : b ≠ [] := fun z => by rw [z] at hb; exact absurd hb (by decide)
    have I3 := I2.ext e3
    obtain ⟨_, d2, _, d4⟩ := divided_ok cb hn ca.1
    refine ⟨fun σ' H' => SI H H H' σ' [ii q.z, dt b, dt (divided q.z a b).2] [], fun σ4 H4 I4 => ⟨(divided q.z a b).2.length, by omega, b, _, rfl, cb, d2, .inl hn, lb, by omega, ?_, I4⟩, ?_⟩
    · rw [← he]
      rw [show commonF q.z (b.length + 1) a b = commonF q.z b.length b (divided q.z a b).2 from by
        rw [commonF, if_neg hn]]
      exact commonF_fuel _ _ _ _ (Nat.lt_succ_self _) d4 cb d2
    · try dsimp only
      refine s_par I3 (a_cons (x_var I3 rfl) (a_cons (x_ixT (x_callF (q, a, b) (a_cons (x_var I3 rfl) (a_cons (x_var I3 rfl) (a_cons (x_var I3 rfl) a_nil))) ⟨ca.1, cb.1, hn, by show a.length ≤ 20000; omega, lb⟩) x_int rfl) a_nil)) fun σ4 H4 I4 => I4
  · have I3 := I2.ext e3
    have hn : b = [] := by
      have := of_decide_eq_false hb
      exact List.eq_nil_of_length_eq_zero (by omega)
    have ha : a ≠ [] := hab.elim id fun z => absurd hn z
    try dsimp only
    refine s_ret I3 (EvX.is (x_callF (q, a) (a_cons (x_var I3 rfl) (a_cons (x_var I3 rfl) a_nil)) ⟨ha, la⟩) ?_) k
    show Sl.d (dI (monic q.z a)) = Sl.d (dI (common q.z one other))
    rw [← he, commonF, if_pos hn]
def sp_slope (K : PySem.W.Frag) : Sp := spF (fun x : P6 × LI => [ii x.1.z, dt x.2]) (fun x => Rg x.1 x.2 ∧ x.2.length ≤ 10000) (fun x => dI (slope x.1.z x.2))
theorem cut_drop (ds : List PD) : cutD ds (some 1) none = ds.drop 1 := by
  unfold cutD
  rw [show HT.sIx ds.length 0 (some 1) = min 1 ds.length from HT.sIx_nat ds.length 0 1, HT.sIx_none]
  cases ds with
  | nil => rfl
  | cons x r =>
    rw [show min 1 (x :: r).length = 1 by rw [List.length_cons]; omega]
    exact List.take_of_length_le (by rw [List.length_drop]; exact Nat.le_refl _)
abbrev st_slope : Stmt := topS 32
theorem sc_slope : FnScope ["prime", "poly", "at", "worth"] ["prime", "poly"] (defScope st_slope) := ⟨rfl, rfl, rfl, by decide +kernel, rfl, by decide +kernel, by decide +kernel⟩
theorem ok_slope {f aP : Addr} {fd : FuncData} (F : Fun K "slope" "slope" st_slope f fd) (T : Txt K mg aP) (c_trimmed : Cal P w K mg base "trimmed" 1 ["worths"] (sp_trimmed K)) : FnOk P w K mg base CX0 2 f fd ["prime", "poly"] (sp_slope K) := by
  refine F.ok sc_slope (fun vs H Q E h => ?_) (fun cdv A outer s H vs Q E hr h => ?_)
  · exact len_of (fun x => by first | rfl | (obtain ⟨_, _⟩ := x; rfl)) h
  obtain ⟨_, _, hsd, ⟨x, rfl, rfl, pre⟩, k⟩ := h
  have I := start_ok (N := ["prime", "poly", "at", "worth"]) hsd
  refine ⟨_, (pss_one (ps_ret (pe_callC c_trimmed (hr.mono (by decide)) (by rfl) (pa_cons (pe_slice (k_slL K rfl) (pe_lc (own := [("at", 2), ("worth", 3)]) (g := (gTup K 2 (gCons (gName 2) (gCons (gName 3) gNil)))) (tt := tYes) rfl sc_slope.nd (pi_enumT (by rfl) T.enumerate_ (pa_cons (pv 1) pa_nil)) (blkOk_by (own := [("at", 2), ("worth", 3)]) (N := ["prime", "poly", "at", "worth"]) (sc := defScope st_slope) (by decide +kernel)) (fun _ _ _ _ _ => (pg_tup (by rfl) (pgs_cons (pg_name (i := 2) sc_slope.nd rfl (by first | exact Or.inl rfl | exact Or.inr rfl)) (pgs_cons (pg_name (i := 3) sc_slope.nd rfl (by first | exact Or.inl rfl | exact Or.inr rfl)) pgs_nil)))) (fun _ _ _ _ _ => pts_nil) (fun _ _ _ _ _ => (pe_op op_mod (pe_op op_mul (pv 2) (pv 3)) (pv 0)))) (po_some pe_int) po_none) pa_nil)))), ?_⟩
  obtain ⟨q, l⟩ := x
  obtain ⟨hr, hl⟩ := pre
  have hr : Rg q l := hr
  have hl : l.length ≤ 10000 := hl
  have hq := p_bd q
  have I : SI H H H _ [ii q.z, dt l, .u, .u] [] := I
  have hlen : (((List.range l.length).map fun (i : Nat) => (i : Int) * l.getD i 0 % q.z).drop 1).length ≤ 100000 := by
    rw [List.length_drop, List.length_map, List.length_range]; omega
  try dsimp only
  refine s_ret I (x_callF (true, ((List.range l.length).map fun (i : Nat) => (i : Int) * l.getD i 0 % q.z).drop 1) (a_cons (EvN.x (EvN.is (n_slL (EvN.x (n_lc2 I (src_enumT (x_var I rfl)) (by rw [len_int]; omega) (fun (i : Nat) => .int ((i : Int) * l.getD i 0 % q.z)) fun i d e σ2 H2 hi hd he I2 => ?_)) (p_some x_int) p_none) ?_)) a_nil) hlen) k
  · obtain ⟨hi2, rfl⟩ := get_int' he
    obtain rfl : PyData.int (i : Int) = d := Option.some.inj hd
    exact x_mod (x_mul (x_var I2 rfl) (x_var I2 rfl) (.inl (by omega))) (x_var I2 rfl) (by omega)
  · rw [cut_drop, len_int, map_ints, ← List.map_drop]
def sp_minus (K : PySem.W.Frag) : Sp := spF (fun x : P6 × LI × LI => [ii x.1.z, dt x.2.1, dt x.2.2]) (fun x => x.2.1.length ≤ 10000 ∧ x.2.2.length ≤ 10000) (fun x => dI (minus x.1.z x.2.1 x.2.2))
theorem padded (l : LI) {n : Nat} (i : Nat) : (l ++ List.replicate n (0 : Int)).getD i 0 = l.getD i 0 := by
  rw [List.getD_eq_getElem?_getD, List.getD_eq_getElem?_getD, List.getElem?_append]
  split
  · rfl
  · rename_i h
    rw [List.getElem?_eq_none (l := l) (by omega), List.getElem?_replicate]
    split <;> rfl
abbrev st_minus : Stmt := topS 33
theorem sc_minus : FnScope ["prime", "one", "other", "size", "longer", "taken", "here", "there"] ["prime", "one", "other"] (defScope st_minus) := ⟨rfl, rfl, rfl, by decide +kernel, rfl, by decide +kernel, by decide +kernel⟩
theorem ok_minus {f aP : Addr} {fd : FuncData} (F : Fun K "minus" "minus" st_minus f fd) (T : Txt K mg aP) (c_trimmed : Cal P w K mg base "trimmed" 1 ["worths"] (sp_trimmed K)) : FnOk P w K mg base CX0 2 f fd ["prime", "one", "other"] (sp_minus K) := by
  refine F.ok sc_minus (fun vs H Q E h => ?_) (fun cdv A outer s H vs Q E hr h => ?_)
  · exact len_of (fun x => by first | rfl | (obtain ⟨_, _⟩ := x; rfl)) h
  obtain ⟨_, _, hsd, ⟨x, rfl, rfl, pre⟩, k⟩ := h
  have I := start_ok (N := ["prime", "one", "other", "size", "longer", "taken", "here", "there"]) hsd
  refine ⟨_, (pss_cons (ps_set (i := 3) sc_minus.nd rfl (by first | exact Or.inl rfl | exact Or.inr rfl) (pe_callB (k_max rfl) (by rfl) T.max_ (by decide +kernel) (pa_cons (pe_callB (k_len K rfl) (by rfl) T.len_ (by decide +kernel) (pa_cons (pv 1) pa_nil)) (pa_cons (pe_callB (k_len K rfl) (by rfl) T.len_ (by decide +kernel) (pa_cons (pv 2) pa_nil)) pa_nil)))) (pss_cons (ps_set (i := 4) sc_minus.nd rfl (by first | exact Or.inl rfl | exact Or.inr rfl) (pe_op op_cat (pe_callTy (k_list K rfl) (by rfl) T.list_ (by decide +kernel) (pa_cons (pv 1) pa_nil)) (pe_op op_rep (pe_lst (pa_cons pe_int pa_nil)) (pe_op op_sub (pv 3) (pe_callB (k_len K rfl) (by rfl) T.len_ (by decide +kernel) (pa_cons (pv 1) pa_nil)))))) (pss_cons (ps_set (i := 5) sc_minus.nd rfl (by first | exact Or.inl rfl | exact Or.inr rfl) (pe_op op_cat (pe_callTy (k_list K rfl) (by rfl) T.list_ (by decide +kernel) (pa_cons (pv 2) pa_nil)) (pe_op op_rep (pe_lst (pa_cons pe_int pa_nil)) (pe_op op_sub (pv 3) (pe_callB (k_len K rfl) (by rfl) T.len_ (by decide +kernel) (pa_cons (pv 2) pa_nil)))))) (pss_one (ps_ret (pe_callC c_trimmed (hr.mono (by decide)) (by rfl) (pa_cons (pe_lc (own := [("here", 6), ("there", 7)]) (g := (gTup K 2 (gCons (gName 6) (gCons (gName 7) gNil)))) (tt := tYes) rfl sc_minus.nd (RZ.pi_zipA (by rfl) T.zip_ (pa_cons (pv 4) (pa_cons (pv 5) pa_nil))) (blkOk_by (own := [("here", 6), ("there", 7)]) (N := ["prime", "one", "other", "size", "longer", "taken", "here", "there"]) (sc := defScope st_minus) (by decide +kernel)) (fun _ _ _ _ _ => (pg_tup (by rfl) (pgs_cons (pg_name (i := 6) sc_minus.nd rfl (by first | exact Or.inl rfl | exact Or.inr rfl)) (pgs_cons (pg_name (i := 7) sc_minus.nd rfl (by first | exact Or.inl rfl | exact Or.inr rfl)) pgs_nil)))) (fun _ _ _ _ _ => pts_nil) (fun _ _ _ _ _ => (pe_op op_mod (pe_op op_sub (pv 6) (pv 7)) (pv 0)))) pa_nil))))))), ?_⟩
  obtain ⟨q, one, other⟩ := x
  obtain ⟨l1, l2⟩ := pre
  have l1 : one.length ≤ 10000 := l1
  have l2 : other.length ≤ 10000 := l2
  have hq := p_bd q
  have I : SI H H H _ [ii q.z, dt one, dt other, .u, .u, .u, .u, .u] [] := I
  try dsimp only
  refine sq (s_set I (EvX.is (x_max2 (x_lenT (x_var I rfl)) (x_lenT (x_var I rfl))) (s' := ii ((max one.length other.length : Nat) : Int)) (by rw [lenz, lenz]; split <;> (congr 2; omega))) fun σ1 H1 I1 => ?_)
  generalize hS : max one.length other.length = S at I1
  have hS1 : one.length ≤ S := by omega
  have hS2 : other.length ≤ S := by omega
  have I1 : SI H H H1 σ1 [ii q.z, dt one, dt other, ii (S : Int), .u, .u, .u, .u] [] := I1
  have hS3 : S ≤ 10000 := by omega
  try dsimp only
  refine sq (s_setN I1 (EvN.is (n_cat (EvN.x (n_listT (x_var I1 rfl))) (EvN.x (n_rep (EvN.x (n_lst (ds := [.int 0]) (a_cons x_int a_nil) (by decide))) (x_sub (x_var I1 rfl) (x_lenT (x_var I1 rfl))) (by rw [lenz]; omega) (by rw [lenz]; omega))) (by simp only [List.length_map, List.length_replicate]; omega)) (es := (one ++ List.replicate (S - one.length) (0 : Int)).map .int)
    (by rw [lenz, List.map_append, ← rep_int]; congr 2; omega)) fun a σ2 H2 I2 => ?_)
  have I2 : SI H H H2 σ2 [ii q.z, dt one, dt other, ii (S : Int), .r a, .u, .u, .u] [(a, .lst ((one ++ List.replicate (S - one.length) (0 : Int)).map .int))] := I2
  try dsimp only
  refine sq (s_setN I2 (EvN.is (n_cat (EvN.x (n_listT (x_var I2 rfl))) (EvN.x (n_rep (EvN.x (n_lst (ds := [.int 0]) (a_cons x_int a_nil) (by decide))) (x_sub (x_var I2 rfl) (x_lenT (x_var I2 rfl))) (by rw [lenz]; omega) (by rw [lenz]; omega))) (by simp only [List.length_map, List.length_replicate]; omega)) (es := (other ++ List.replicate (S - other.length) (0 : Int)).map .int)
    (by rw [lenz, List.map_append, ← rep_int]; congr 2; omega)) fun b σ3 H3 I3 => ?_)
  have I3 : SI H H H3 σ3 [ii q.z, dt one, dt other, ii (S : Int), .r a, .r b, .u, .u] [(b, .lst ((other ++ List.replicate (S - other.length) (0 : Int)).map .int)), (a, .lst ((one ++ List.replicate (S - one.length) (0 : Int)).map .int))] := I3
  have hn : min ((one ++ List.replicate (S - one.length) (0 : Int)).map PyData.int).length ((other ++ List.replicate (S - other.length) (0 : Int)).map PyData.int).length = S := by
    rw [len_int, len_int, List.length_append, List.length_append, List.length_replicate, List.length_replicate]; omega
  have hlen : ((List.range S).map fun (i : Nat) => (one.getD i 0 - other.getD i 0) % q.z).length ≤ 100000 := by rw [List.length_map, List.length_range]; omega
  try dsimp only
  refine s_ret I3 (EvX.is (x_callF (true, (List.range S).map fun (i : Nat) => (one.getD i 0 - other.getD i 0) % q.z) (a_cons (EvN.x (EvN.is (n_lc2 I3 (src_zipL (x_own (j := 1) I3 rfl (x_ref I3 rfl)) (x_own (j := 0) I3 rfl (x_ref I3 rfl))) (by rw [hn]; omega) (fun (i : Nat) => .int ((one.getD i 0 - other.getD i 0) % q.z)) fun i d e σ4 H4 hi hd he I4 => ?_) ?_)) a_nil) hlen) ?_) k
  · obtain ⟨_, rfl⟩ := get_int' hd
    obtain ⟨_, rfl⟩ := get_int' he
    rw [padded] at I4
    rw [padded] at I4
    exact x_mod (x_sub (x_var I4 rfl) (x_var I4 rfl)) (x_var I4 rfl) (by omega)
  · rw [hn, map_ints]
  · rw [← hS]; rfl
def sp_product (K : PySem.W.Frag) : Sp := spF (fun x : P6 × LI × LI => [ii x.1.z, dt x.2.1, dt x.2.2]) (fun x => IsC x.1 x.2.1 ∧ IsC x.1 x.2.2 ∧ x.2.1.length ≤ 10000 ∧ x.2.2.length ≤ 10000) (fun x => dI (rawProduct x.1.z x.2.1 x.2.2))
abbrev st_product : Stmt := topS 28
theorem sc_product : FnScope ["prime", "one", "other"] ["prime", "one", "other"] (defScope st_product) := ⟨rfl, rfl, rfl, by decide +kernel, rfl, by decide +kernel, by decide +kernel⟩
theorem ok_product {f aP : Addr} {fd : FuncData} (F : Fun K "product" "product" st_product f fd) (T : Txt K mg aP) (c_raw_product : Cal P w K mg base "raw_product" 2 ["prime", "one", "other"] (sp_raw_product K)) (c_check_polynomial : Cal P w K mg base "check_polynomial" 5 ["prime", "thing"] (sp_check_polynomial K)) (c_check_prime : Cal P w K mg base "check_prime" 3 ["thing"] (sp_check_prime K)) : FnOk P w K mg base CX0 6 f fd ["prime", "one", "other"] (sp_product K) := by
  refine F.ok sc_product (fun vs H Q E h => ?_) (fun cdv A outer s H vs Q E hr h => ?_)
  · exact len_of (fun x => by first | rfl | (obtain ⟨_, _⟩ := x; rfl)) h
  obtain ⟨_, _, hsd, ⟨x, rfl, rfl, pre⟩, k⟩ := h
  have I := start_ok (N := ["prime", "one", "other"]) hsd
  refine ⟨_, (pss_cons (ps_expr (pe_callC c_check_prime (hr.mono (by decide)) (by rfl) (pa_cons (pv 0) pa_nil))) (pss_cons (ps_expr (pe_callC c_check_polynomial (hr.mono (by decide)) (by rfl) (pa_cons (pv 0) (pa_cons (pv 1) pa_nil)))) (pss_cons (ps_expr (pe_callC c_check_polynomial (hr.mono (by decide)) (by rfl) (pa_cons (pv 0) (pa_cons (pv 2) pa_nil)))) (pss_one (ps_ret (pe_callC c_raw_product (hr.mono (by decide)) (by rfl) (pa_cons (pv 0) (pa_cons (pv 1) (pa_cons (pv 2) pa_nil))))))))), ?_⟩
  obtain ⟨q, one, other⟩ := x
  obtain ⟨c1, c2, l1, l2⟩ := pre
  have I : SI H H H _ [ii q.z, dt one, dt other] [] := I
  try dsimp only
  refine sq (s_drop I (x_callF q (a_cons (x_var I rfl) a_nil) trivial) fun H1 I1 => ?_)
  try dsimp only
  refine sq (s_drop I1 (x_callF (q, one) (a_cons (x_var I1 rfl) (a_cons (x_var I1 rfl) a_nil)) ⟨c1, l1⟩) fun H2 I2 => ?_)
  try dsimp only
  refine sq (s_drop I2 (x_callF (q, other) (a_cons (x_var I2 rfl) (a_cons (x_var I2 rfl) a_nil)) ⟨c2, l2⟩) fun H3 I3 => ?_)
  try dsimp only
  exact s_ret I3 (x_callF (q, one, other) (a_cons (x_var I3 rfl) (a_cons (x_var I3 rfl) (a_cons (x_var I3 rfl) a_nil))) ⟨c1.1, c2.1, l1, l2⟩) k
end
end Wk
end
section
set_option Elab.async false
set_option linter.all false
set_option maxRecDepth 100000
set_option maxHeartbeats 4000000
/-! The defs, one by one: times_in, the tables' rows. -/
namespace Wk
open PySem PySem.Spec PyProof.Rows L2 Evl Mw
section
variable {P : Program} {w : World} {K : PySem.W.Frag} {mg : Str → Option Value} {base : Heap}
section
variable {K : PySem.W.Frag} {H0 Hb H H' : Hp} {σ : L2.St} {sl : List Sl} {ob : List (Addr × Ob)} {ta tb te : TE}
theorem x_isE {a : LI} (ha : EvX ta σ H (dt a)) (hb : EvX tb σ H (.d (.tuple []))) : EvX (tOp (rEqD K) ta tb) σ H (.d (.bool (decide (a = [])))) := by
  have h := x_eqD (K := K) ha (e := dI []) hb (sh_dI a) (sh_dI [])
  rw [eqv_dI] at h
  exact h
theorem x_neE {a : LI} (ha : EvX ta σ H (dt a)) (hb : EvX tb σ H (.d (.tuple []))) : EvX (tOp (rNeD K) ta tb) σ H (.d (.bool (!decide (a = [])))) := by
  have h := x_neD (K := K) ha (e := dI []) hb (sh_dI a) (sh_dI [])
  rw [eqv_dI] at h
  exact h
theorem x_eqT {a b : LI} (ha : EvX ta σ H (dt a)) (hb : EvX tb σ H (dt b)) : EvX (tOp (rEqD K) ta tb) σ H (.d (.bool (decide (a = b)))) := by
  have h := x_eqD (K := K) ha hb (sh_dI a) (sh_dI b)
  rw [eqv_dI] at h
  exact h
theorem x_neT {a b : LI} (ha : EvX ta σ H (dt a)) (hb : EvX tb σ H (dt b)) : EvX (tOp (rNeD K) ta tb) σ H (.d (.bool (!decide (a = b)))) := by
  have h := x_neD (K := K) ha hb (sh_dI a) (sh_dI b)
  rw [eqv_dI] at h
  exact h
theorem x_e : EvX (tTup tNil) σ H (.d (.tuple [])) := x_tup (ds := []) a_nil (by decide)
theorem SI.perm (I : SI H0 Hb H σ sl ob) {ob' : List (Addr × Ob)} (h : ob.Perm ob') : SI H0 Hb H σ sl ob' :=
  ⟨I.ex, I.tb, I.sd, fun p hp => I.fr p (h.mem_iff.mpr hp), fun p hp => I.ok p (h.mem_iff.mpr hp), (h.map (·.1)).nodup_iff.mp I.nd⟩
/-- a, b = [..], [..] -/
theorem s_par2N {i j : Nat} {ds es : List PD} {D : Ends} (I : SI H0 Hb H σ sl ob) (ha : EvN ta σ H ds) (hb : ∀ H1, Ex H H1 → EvN tb σ H1 es) (k : ∀ a b σ' H', SI H0 Hb H' σ' ((sl.set i (.r a)).set j (.r b)) ((b, .lst es) :: (a, .lst ds) :: ob) → D.nx σ' H') : tPar i j (tCons ta (tCons tb tNil)) D σ H :=
  ha H (Ex.refl H) _ fun p xs H1 hp e1 h1 h2 => hb H1 e1 H1 (Ex.refl H1) _ fun p' ys H2 hp' e2 h3 h4 => by
    have I1 := (I.ext e1).own (o := .lst ds) (I.new hp).1 (I.new hp).2 ⟨xs, h1, h2⟩
    have I2 := (I1.ext e2).own (o := .lst es) (I1.new hp').1 (I1.new hp').2 ⟨ys, h3, h4⟩
    exact ⟨.ref p, .ref p', rfl, k p p' _ _ ((I2.setR i p).setR j p')⟩
end
def sp_times_in (K : PySem.W.Frag) : Sp := spF (fun x : P6 × LI × LI => [ii x.1.z, dt x.2.1, dt x.2.2]) (fun x => IsC x.1 x.2.1 ∧ Part x.1 x.2.2 ∧ x.2.1 ≠ [] ∧ x.2.1.length ≤ 10000 ∧ x.2.2.length ≤ 10000) (fun x => .tuple [.int ((timesIn x.1.z x.2.1 x.2.2).1 : Nat), dI (timesIn x.1.z x.2.1 x.2.2).2])
abbrev st_times_in : Stmt := topS 37
theorem sc_times_in : FnScope ["prime", "poly", "factor", "many", "quotient", "rest"] ["prime", "poly", "factor"] (defScope st_times_in) := ⟨rfl, rfl, rfl, by decide +kernel, rfl, by decide +kernel, by decide +kernel⟩
theorem ok_times_in {f aP : Addr} {fd : FuncData} (F : Fun K "times_in" "times_in" st_times_in f fd) (T : Txt K mg aP) (c_divided : Cal P w K mg base "divided" 2 ["prime", "one", "other"] (sp_divided K)) : FnOk P w K mg base CX0 3 f fd ["prime", "poly", "factor"] (sp_times_in K) := by
  refine F.ok sc_times_in (fun vs H Q E h => ?_) (fun cdv A outer s H vs Q E hr h => ?_)
  · exact len_of (fun x => by first | rfl | (obtain ⟨_, _⟩ := x; rfl)) h
  obtain ⟨_, _, hsd, ⟨x, rfl, rfl, pre⟩, k⟩ := h
  have I := start_ok (N := ["prime", "poly", "factor", "many", "quotient", "rest"]) hsd
  refine ⟨_, (pss_cons (ps_set (i := 3) sc_times_in.nd rfl (by first | exact Or.inl rfl | exact Or.inr rfl) pe_int) (pss_cons (ps_asg (pe_callC c_divided (hr.mono (by decide)) (by rfl) (pa_cons (pv 0) (pa_cons (pv 1) (pa_cons (pv 2) pa_nil)))) (pg_tup (by rfl) (pgs_cons (pg_name (i := 4) sc_times_in.nd rfl (by first | exact Or.inl rfl | exact Or.inr rfl)) (pgs_cons (pg_name (i := 5) sc_times_in.nd rfl (by first | exact Or.inl rfl | exact Or.inr rfl)) pgs_nil)))) (pss_cons (ps_while PassesOwn.never (PW.pt (pw_and (pt_cmpR (k_eqD K rfl hr.units) (pv 5) (pe_tup pa_nil) (nomark _)) (pw_and1 (pt_cmpR (k_neD K rfl hr.units) (pv 4) (pe_tup pa_nil) (nomark _))))) (pss_cons (ps_par (by rfl) sc_times_in.nd (i := 1) (j := 3) rfl rfl (by decide) rfl rfl (pa_cons (pv 4) (pa_cons (pe_op op_add (pv 3) pe_int) pa_nil)) (by rfl)) (pss_one (ps_asg (pe_callC c_divided (hr.mono (by decide)) (by rfl) (pa_cons (pv 0) (pa_cons (pv 1) (pa_cons (pv 2) pa_nil)))) (pg_tup (by rfl) (pgs_cons (pg_name (i := 4) sc_times_in.nd rfl (by first | exact Or.inl rfl | exact Or.inr rfl)) (pgs_cons (pg_name (i := 5) sc_times_in.nd rfl (by first | exact Or.inl rfl | exact Or.inr rfl)) pgs_nil))))))) (pss_one (ps_ret (pe_tup (pa_cons (pv 3) (pa_cons (pv 1) pa_nil)))))))), ?_⟩
  obtain ⟨q, poly, factor⟩ := x
  obtain ⟨c1, c2, hne, l1, l2⟩ := pre
  have c1 : IsC q poly := c1
  have c2 : Part q factor := c2
  have l1 : poly.length ≤ 10000 := l1
  have l2 : factor.length ≤ 10000 := l2
  have fne : factor ≠ [] := fun e => by have := c2.2.2; rw [e] at this; simp at this
  have I : SI H H H _ [ii q.z, dt poly, dt factor, .u, .u, .u] [] := I
  try dsimp only
  refine sq (s_set I x_int fun σ1 H1 I1 => ?_)
  try dsimp only
  refine sq (s_pair I1 (x_callF (q, poly, factor) (a_cons (x_var I1 rfl) (a_cons (x_var I1 rfl) (a_cons (x_var I1 rfl) a_nil))) ⟨c1.1, c2.1.1, fne, by show poly.length ≤ 20000; omega, l2⟩) fun σ2 H2 I2 => ?_)
  try dsimp only
  refine sq (s_while (fun m σ' H' => ∃ (a : LI) (n many : Nat), a.length = m ∧ IsC q a ∧ a ≠ [] ∧ a.length ≤ n ∧ a.length ≤ 10000 ∧ timesInF q.z factor n a many = timesIn q.z poly factor ∧ SI H H H' σ' [ii q.z, dt a, dt factor, ii (many : Int), dt (divided q.z a factor).1, dt (divided q.z a factor).2] []) poly.length
    ⟨poly, poly.length, 0, rfl, c1, hne, Nat.le_refl _, l1, rfl, I2⟩ fun m σ3 H3 ⟨a, n, many, hm, ca, na, ln, la, he, I3⟩ => ?_)
  refine ⟨decide ((divided q.z a factor).2 = []) && !decide ((divided q.z a factor).1 = []), t_and (t_B (x_isE (x_var I3 rfl) x_e)) fun _ => t_B (x_neE (x_var I3 rfl) x_e), fun hb H4 e4 => ?_, fun hb H4 e4 => ?_⟩
  · have I4 := I3.ext e4
    rw [Bool.and_eq_true, Bool.not_eq_true'] at hb
    have z1 : (divided q.z a factor).2 = [] := of_decide_eq_true hb.1
    have z2 : (divided q.z a factor).1 ≠ [] := of_decide_eq_false hb.2
    obtain ⟨d1, d2, d3, d4⟩ := divided_ok c2.1 fne ca.1
    have e := divided_dv' c2.1 fne ca.1 z1
    have ne1 : toP q (divided q.z a factor).1 ≠ 0 := fun y => z2 (d1.zero_iff.mp y)
    have hlen : a.length = factor.length + (divided q.z a factor).1.length - 1 := by
      rw [← ca.len, ← c2.1.len, ← d1.len, e, len_mul c2.2.1.pos (len_pos ne1)]
    have hf2 := c2.2.2
    cases n with
    | zero => exact absurd (List.length_eq_zero_iff.mp (Nat.le_zero.mp ln)) na
    | succ n =>
      have he2 : timesInF q.z factor n (divided q.z a factor).1 (many + 1) = timesIn q.z poly factor := by
        rw [← he, timesInF]
        rw [if_pos ⟨z1, z2⟩]
      refine ⟨fun σ' H' => SI H H H' σ' [ii q.z, dt (divided q.z a factor).1, dt factor, ii ((many + 1 : Nat) : Int), dt (divided q.z (divided q.z a factor).1 factor).1, dt (divided q.z (divided q.z a factor).1 factor).2] [],
        fun σ5 H5 I5 => ⟨(divided q.z a factor).1.length, by omega, _, n, many + 1, rfl, d1, z2, by omega, by omega, he2, I5⟩, ?_⟩
      try dsimp only
      refine sq (s_par I4 (a_cons (x_var I4 rfl) (a_cons (x_add (x_var I4 rfl) x_int) a_nil)) fun σ5 H5 I5 => ?_)
      have I5 : SI H H H5 σ5 [ii q.z, dt (divided q.z a factor).1, dt factor, ii ((many : Int) + 1), dt (divided q.z a factor).1, dt (divided q.z a factor).2] [] := I5
      have hl3 : (divided q.z a factor).1.length ≤ 20000 := by omega
      try dsimp only
      refine s_pair I5 (x_callF (q, (divided q.z a factor).1, factor) (a_cons (x_var I5 rfl) (a_cons (x_var I5 rfl) (a_cons (x_var I5 rfl) a_nil))) ⟨d1.1, c2.1.1, fne, hl3, l2⟩) fun σ6 H6 I6 => ?_
      rw [show ((many + 1 : Nat) : Int) = (many : Int) + 1 by omega]
      exact I6
  · have I4 := I3.ext e4
    have he2 : (many, a) = timesIn q.z poly factor := by
      rw [← he]
      cases n with
      | zero => rfl
      | succ n =>
        rw [timesInF]
        rw [if_neg]
        rintro ⟨z1, z2⟩
        rw [decide_eq_true z1, decide_eq_false z2] at hb
        exact nomatch hb
    try dsimp only
    refine s_ret I4 (EvX.is (x_tup (ds := [.int (many : Int), dI a]) (a_cons (x_var I4 rfl) (a_cons (x_var I4 rfl) a_nil)) (by show 2 ≤ 100000; decide)) ?_) k
    show Sl.d _ = Sl.d (.tuple [.int ((timesIn q.z poly factor).1 : Nat), dI (timesIn q.z poly factor).2])
    rw [← he2]
def sp_less (K : PySem.W.Frag) : Sp := spF (fun x : P6 × LI × Int × LI => [ii x.1.z, dt x.2.1, ii x.2.2.1, dt x.2.2.2]) (fun x => (0 ≤ x.2.2.1 ∧ x.2.2.1 < x.1.z) ∧ x.2.1.length ≤ 10000) (fun x => dI (Mw.less x.1.z x.2.1 x.2.2.1 x.2.2.2))
abbrev st_less : Stmt := topS 19
theorem sc_less : FnScope ["prime", "row", "by", "other", "one", "two"] ["prime", "row", "by", "other"] (defScope st_less) := ⟨rfl, rfl, rfl, by decide +kernel, rfl, by decide +kernel, by decide +kernel⟩
theorem ok_less {f aP : Addr} {fd : FuncData} (F : Fun K "less" "less" st_less f fd) (T : Txt K mg aP)  : FnOk P w K mg base CX0 1 f fd ["prime", "row", "by", "other"] (sp_less K) := by
  refine F.ok sc_less (fun vs H Q E h => ?_) (fun cdv A outer s H vs Q E hr h => ?_)
  · exact len_of (fun x => by first | rfl | (obtain ⟨_, _⟩ := x; rfl)) h
  obtain ⟨_, _, hsd, ⟨x, rfl, rfl, pre⟩, k⟩ := h
  have I := start_ok (N := ["prime", "row", "by", "other", "one", "two"]) hsd
  refine ⟨_, (pss_one (ps_ret (pe_callTy (k_tuple K rfl) (by rfl) T.tuple_ (by decide +kernel) (pa_cons (pe_lc (own := [("one", 4), ("two", 5)]) (g := (gTup K 2 (gCons (gName 4) (gCons (gName 5) gNil)))) (tt := tYes) rfl sc_less.nd (RZ.pi_zipA (by rfl) T.zip_ (pa_cons (pv 1) (pa_cons (pv 3) pa_nil))) (blkOk_by (own := [("one", 4), ("two", 5)]) (N := ["prime", "row", "by", "other", "one", "two"]) (sc := defScope st_less) (by decide +kernel)) (fun _ _ _ _ _ => (pg_tup (by rfl) (pgs_cons (pg_name (i := 4) sc_less.nd rfl (by first | exact Or.inl rfl | exact Or.inr rfl)) (pgs_cons (pg_name (i := 5) sc_less.nd rfl (by first | exact Or.inl rfl | exact Or.inr rfl)) pgs_nil)))) (fun _ _ _ _ _ => pts_nil) (fun _ _ _ _ _ => (pe_op op_mod (pe_op op_sub (pv 4) (pe_op op_mul (pv 2) (pv 5))) (pv 0)))) pa_nil)))), ?_⟩
  obtain ⟨q, row, m, other⟩ := x
  obtain ⟨hm, hl⟩ := pre
  have hm : 0 ≤ m ∧ m < q.z := hm
  have hl : row.length ≤ 10000 := hl
  have hq := p_bd q
  have I : SI H H H _ [ii q.z, dt row, ii m, dt other, .u, .u] [] := I
  try dsimp only
  refine s_ret I (EvX.is (x_tupL (EvN.x (n_lc2 I (src_zipT (x_var I rfl) (x_var I rfl)) (by rw [len_int, len_int]; omega) (fun (i : Nat) => .int ((row.getD i 0 - m * other.getD i 0) % q.z)) fun i d e σ2 H2 hi hd he I2 => ?_))) ?_) k
  · obtain ⟨_, rfl⟩ := get_int' hd
    obtain ⟨_, rfl⟩ := get_int' he
    exact x_mod (x_sub (x_var I2 rfl) (x_mul (x_var I2 rfl) (x_var I2 rfl) (small13 hm _))) (x_var I2 rfl) (by omega)
  · rw [len_int, len_int, map_ints]; rfl
def sp_cleared (K : PySem.W.Frag) : Sp := spL (fun x : P6 × List LI × Nat × LI => [ii x.1.z, gs x.2.1, ii (x.2.2.1 : Int), dt x.2.2.2]) (fun x => (∀ r, r ∈ x.2.1 → Rg x.1 r ∧ x.2.2.1 < r.length ∧ r.length ≤ 10000) ∧ x.2.1.length ≤ 10000) (fun x => (cleared x.1.z x.2.1 x.2.2.1 x.2.2.2).map dI)
abbrev st_cleared : Stmt := topS 20
theorem sc_cleared : FnScope ["prime", "rows", "place", "row", "other"] ["prime", "rows", "place", "row"] (defScope st_cleared) := ⟨rfl, rfl, rfl, by decide +kernel, rfl, by decide +kernel, by decide +kernel⟩
theorem ok_cleared {f aP : Addr} {fd : FuncData} (F : Fun K "cleared" "cleared" st_cleared f fd) (T : Txt K mg aP) (c_less : Cal P w K mg base "less" 1 ["prime", "row", "by", "other"] (sp_less K)) : FnOk P w K mg base CX0 2 f fd ["prime", "rows", "place", "row"] (sp_cleared K) := by
  refine F.ok sc_cleared (fun vs H Q E h => ?_) (fun cdv A outer s H vs Q E hr h => ?_)
  · exact len_of (fun x => by first | rfl | (obtain ⟨_, _⟩ := x; rfl)) h
  obtain ⟨_, _, hsd, ⟨x, rfl, rfl, pre⟩, k⟩ := h
  have I := start_ok (N := ["prime", "rows", "place", "row", "other"]) hsd
  refine ⟨_, (pss_one (ps_ret (pe_lc (own := [("other", 4)]) (g := (gName 4)) (tt := tYes) rfl sc_cleared.nd (k_pil K rfl (pv 1)) (blkOk_by (own := [("other", 4)]) (N := ["prime", "rows", "place", "row", "other"]) (sc := defScope st_cleared) (by decide +kernel)) (fun _ _ _ _ _ => (pg_name (i := 4) sc_cleared.nd rfl (by first | exact Or.inl rfl | exact Or.inr rfl))) (fun _ _ _ _ _ => pts_nil) (fun _ _ _ _ _ => (pe_ifExp (pt_cmpR op_ne (pe_ix (k_ixT K rfl) (pv 4) (pv 2) (fun _ _ => rfl)) pe_int (nomark _)) (pe_callC c_less (hr.mono (by decide)) (by rfl) (pa_cons (pv 0) (pa_cons (pv 4) (pa_cons (pe_ix (k_ixT K rfl) (pv 4) (pv 2) (fun _ _ => rfl)) (pa_cons (pv 3) pa_nil))))) (pv 4)))))), ?_⟩
  obtain ⟨q, rows, place, row⟩ := x
  obtain ⟨hr1, hl⟩ := pre
  have hr1 : ∀ r, r ∈ rows → Rg q r ∧ place < r.length ∧ r.length ≤ 10000 := hr1
  have hl : rows.length ≤ 10000 := hl
  have hq := p_bd q
  have I : SI H H H _ [ii q.z, gs rows, ii (place : Int), dt row, .u] [] := I
  have hn : (rows.map dI).length = rows.length := List.length_map ..
  try dsimp only
  refine s_retN I (EvN.is (n_lc1 I (src_lst (x_giv I rfl)) (by rw [hn]; omega) (fun i => dI (rows.getD i [])) itL (fun i => dI (if (rows.getD i []).getD place 0 ≠ 0 then Mw.less q.z (rows.getD i []) ((rows.getD i []).getD place 0) row else rows.getD i [])) fun i σ2 H2 hi I2 => ?_) ?_) k
  · have hm := hr1 _ (getD_mem (l := rows) (i := i) (d := []) (by rw [hn] at hi; exact hi))
    generalize rows.getD i [] = r at hm I2
    have I2 : SI H H H2 σ2 [ii q.z, gs rows, ii (place : Int), dt row, dt r] [] := I2
    refine x_if (b := !decide (r.getD place 0 = 0)) (t_B (x_neI (x_ixT (x_var I2 rfl) (x_var I2 rfl) (at_int hm.2.1)) x_int)) (fun hb => ?_) fun hb => ?_
    · have : r.getD place 0 ≠ 0 := fun z => by rw [decide_eq_true z] at hb; exact nomatch hb
      rw [if_pos this]
      exact x_callF (q, r, r.getD place 0, row) (a_cons (x_var I2 rfl) (a_cons (x_var I2 rfl) (a_cons (x_ixT (x_var I2 rfl) (x_var I2 rfl) (at_int hm.2.1)) (a_cons (x_var I2 rfl) a_nil)))) ⟨hm.1.get place, hm.2.2⟩
    · have : ¬ r.getD place 0 ≠ 0 := fun z => by rw [decide_eq_false z] at hb; exact nomatch hb
      rw [if_neg this]
      exact x_var I2 rfl
  · rw [hn, map_dIs, map_rangeL rows (fun o => if o.getD place 0 ≠ 0 then Mw.less q.z o (o.getD place 0) row else o)]
    rfl
end
end Wk
end
section
set_option Elab.async false
set_option linter.all false
set_option maxRecDepth 100000
set_option maxHeartbeats 4000000
/-! The defs, one by one: reduced_rows. -/
namespace Wk
open PySem PySem.Spec PyProof.Rows L2 Evl Mw
section
variable {P : Program} {w : World} {K : PySem.W.Frag} {mg : Str → Option Value} {base : Heap}
abbrev nz (l : List Nat) : LI := l.map fun (n : Nat) => (n : Int)
theorem map_eraseIdx {α β : Type} (f : α → β) : ∀ (l : List α) (j : Nat), (l.map f).eraseIdx j = (l.eraseIdx j).map f
  | [], _ => rfl
  | _ :: _, 0 => rfl
  | x :: l, j + 1 => by
    show f x :: (l.map f).eraseIdx j = f x :: (l.eraseIdx j).map f
    rw [map_eraseIdx f l j]
theorem red_bound {p : Int} {rows : List LI} : ∀ n, (redTurns p n ⟨rows, [], []⟩).left.length ≤ rows.length ∧ (redTurns p n ⟨rows, [], []⟩).found.length ≤ n ∧ (redTurns p n ⟨rows, [], []⟩).places.length ≤ n
  | 0 => ⟨Nat.le_refl _, Nat.le_refl _, Nat.le_refl _⟩
  | n + 1 => by
    obtain ⟨h1, h2, h3⟩ := red_bound (p := p) (rows := rows) n
    rw [redTurns_succ]
    generalize redTurns p n ⟨rows, [], []⟩ = s at h1 h2 h3
    unfold redTurn
    split
    · exact ⟨h1, by omega, by omega⟩
    · refine ⟨?_, ?_, ?_⟩
      · show (cleared _ _ _ _).length ≤ _
        unfold cleared
        rw [List.length_map]
        exact Nat.le_trans (List.length_eraseIdx_le ..) h1
      · show (cleared _ _ _ _ ++ _).length ≤ _
        unfold cleared
        rw [List.length_append, List.length_map]; simpa using h2
      · show (s.places ++ [n]).length ≤ _
        rw [List.length_append]; simpa using h3
def sp_reduced_rows (K : PySem.W.Frag) : Sp := spF (fun x : Bool × P6 × Nat × List LI => [ii x.2.1.z, ii (x.2.2.1 : Int), if x.1 = true then gs x.2.2.2 else .d (dts x.2.2.2)]) (fun x => (∀ r, r ∈ x.2.2.2 → r.length = x.2.2.1 ∧ Rg x.2.1 r) ∧ x.2.2.1 ≤ 10000 ∧ x.2.2.2.length ≤ 10000)
  (fun x => .tuple [dts (reducedRows x.2.1.z x.2.2.1 x.2.2.2).1, dI (nz (reducedRows x.2.1.z x.2.2.1 x.2.2.2).2)])
abbrev st_reduced_rows : Stmt := topS 21
theorem sc_reduced_rows : FnScope ["prime", "wide", "rows", "left", "found", "places", "place", "some", "row", "at", "worth"] ["prime", "wide", "rows"] (defScope st_reduced_rows) := ⟨rfl, rfl, rfl, by decide +kernel, rfl, by decide +kernel, by decide +kernel⟩
theorem ok_reduced_rows {f aP : Addr} {fd : FuncData} (F : Fun K "reduced_rows" "reduced_rows" st_reduced_rows f fd) (T : Txt K mg aP) (c_cleared : Cal P w K mg base "cleared" 2 ["prime", "rows", "place", "row"] (sp_cleared K)) (c_inverse_of : Cal P w K mg base "inverse_of" 1 ["prime", "worth"] (sp_inverse_of K)) : FnOk P w K mg base CX0 3 f fd ["prime", "wide", "rows"] (sp_reduced_rows K) := by
  refine F.ok sc_reduced_rows (fun vs H Q E h => ?_) (fun cdv A outer s H vs Q E hr h => ?_)
  · exact len_of (fun x => by first | rfl | (obtain ⟨_, _⟩ := x; rfl)) h
  obtain ⟨_, _, hsd, ⟨x, rfl, rfl, pre⟩, k⟩ := h
  have I := start_ok (N := ["prime", "wide", "rows", "left", "found", "places", "place", "some", "row", "at", "worth"]) hsd
  refine ⟨_, (pss_cons (ps_set (i := 3) sc_reduced_rows.nd rfl (by first | exact Or.inl rfl | exact Or.inr rfl) (pe_lc (own := [("row", 8)]) (g := (gName 8)) (tt := tYes) rfl sc_reduced_rows.nd (k_pia K rfl (pv 2)) (blkOk_by (own := [("row", 8)]) (N := ["prime", "wide", "rows", "left", "found", "places", "place", "some", "row", "at", "worth"]) (sc := defScope st_reduced_rows) (by decide +kernel)) (fun _ _ _ _ _ => (pg_name (i := 8) sc_reduced_rows.nd rfl (by first | exact Or.inl rfl | exact Or.inr rfl))) (fun _ _ _ _ _ => pts_nil) (fun _ _ _ _ _ => (pe_callTy (k_tuple K rfl) (by rfl) T.tuple_ (by decide +kernel) (pa_cons (pv 8) pa_nil))))) (pss_cons (ps_par (by rfl) sc_reduced_rows.nd (i := 4) (j := 5) rfl rfl (by decide) rfl rfl (pa_cons (pe_lst pa_nil) (pa_cons (pe_lst pa_nil) pa_nil)) (by rfl)) (pss_cons (ps_for PassesOwn.never rfl (pi_range1 (by rfl) T.range_ (pa_cons (pv 1) pa_nil)) (pg_name (i := 6) sc_reduced_rows.nd rfl (by first | exact Or.inl rfl | exact Or.inr rfl)) (pss_cons (ps_setLc (i := 7) (own := [("at", 9)]) (g := (gName 9)) rfl sc_reduced_rows.nd rfl rfl (sw_true rfl rfl rfl (by decide +kernel)) (pi_range1 (by rfl) T.range_ (pa_cons (pe_callB (k_len K rfl) (by rfl) T.len_ (by decide +kernel) (pa_cons (pv 3) pa_nil)) pa_nil)) (blkOk_by (own := [("at", 9)]) (N := ["prime", "wide", "rows", "left", "found", "places", "place", "some", "row", "at", "worth"]) (sc := defScope st_reduced_rows) (by decide +kernel)) (fun _ _ _ _ _ => (pg_name (i := 9) sc_reduced_rows.nd rfl (by first | exact Or.inl rfl | exact Or.inr rfl))) (fun _ _ _ _ _ => pts_one (pt_cmpR op_ne (pe_ix (k_ixT K rfl) (pe_ix (k_ixL K rfl) (pv 3) (pv 9) (fun _ _ => rfl)) (pv 6) (fun _ _ => rfl)) pe_int (nomark _))) (fun _ _ _ _ _ => (pv 9))) (pss_one (ps_if (pt_cmpR op_gt (pe_callB (k_len K rfl) (by rfl) T.len_ (by decide +kernel) (pa_cons (pv 7) pa_nil)) pe_int (nomark _)) (pss_cons (ps_set (i := 8) sc_reduced_rows.nd rfl (by first | exact Or.inl rfl | exact Or.inr rfl) (pe_bm PySem.F.plainAttrs_list PySem.F.slot_list_pop PySem.F.type_list_pop mt_popAt (pv 3) (pa_cons (pe_ix (k_ixL K rfl) (pv 7) pe_int (fun _ _ => rfl)) pa_nil))) (pss_cons (ps_set (i := 8) sc_reduced_rows.nd rfl (by first | exact Or.inl rfl | exact Or.inr rfl) (pe_callTy (k_tuple K rfl) (by rfl) T.tuple_ (by decide +kernel) (pa_cons (pe_lc (own := [("worth", 10)]) (g := (gName 10)) (tt := tYes) rfl sc_reduced_rows.nd (k_pit K rfl (pv 8)) (blkOk_by (own := [("worth", 10)]) (N := ["prime", "wide", "rows", "left", "found", "places", "place", "some", "row", "at", "worth"]) (sc := defScope st_reduced_rows) (by decide +kernel)) (fun _ _ _ _ _ => (pg_name (i := 10) sc_reduced_rows.nd rfl (by first | exact Or.inl rfl | exact Or.inr rfl))) (fun _ _ _ _ _ => pts_nil) (fun _ _ _ _ _ => (pe_op op_mod (pe_op op_mul (pv 10) (pe_callC c_inverse_of (hr.mono (by decide)) (by rfl) (pa_cons (pv 0) (pa_cons (pe_ix (k_ixT K rfl) (pv 8) (pv 6) (fun _ _ => rfl)) pa_nil)))) (pv 0)))) pa_nil))) (pss_cons (ps_set (i := 3) sc_reduced_rows.nd rfl (by first | exact Or.inl rfl | exact Or.inr rfl) (pe_callC c_cleared (hr.mono (by decide)) (by rfl) (pa_cons (pv 0) (pa_cons (pv 3) (pa_cons (pv 6) (pa_cons (pv 8) pa_nil)))))) (pss_cons (ps_set (i := 4) sc_reduced_rows.nd rfl (by first | exact Or.inl rfl | exact Or.inr rfl) (pe_op op_cat (pe_callC c_cleared (hr.mono (by decide)) (by rfl) (pa_cons (pv 0) (pa_cons (pv 4) (pa_cons (pv 6) (pa_cons (pv 8) pa_nil))))) (pe_lst (pa_cons (pv 8) pa_nil)))) (pss_one (ps_expr (pe_bm PySem.F.plainAttrs_list PySem.F.slot_list_append PySem.F.type_list_append mt_append (pv 5) (pa_cons (pv 6) pa_nil)))))))) pss_nil)))) (pss_one (ps_ret (pe_tup (pa_cons (pe_callTy (k_tuple K rfl) (by rfl) T.tuple_ (by decide +kernel) (pa_cons (pv 4) pa_nil)) (pa_cons (pe_callTy (k_tuple K rfl) (by rfl) T.tuple_ (by decide +kernel) (pa_cons (pv 5) pa_nil)) pa_nil)))))))), ?_⟩
  obtain ⟨b, q, wide, rows⟩ := x
  obtain ⟨hr1, l1, l2⟩ := pre
  have hr1 : ∀ r, r ∈ rows → r.length = wide ∧ Rg q r := hr1
  have l1 : wide ≤ 10000 := l1
  have l2 : rows.length ≤ 10000 := l2
  have hq := p_bd q
  have I : SI H H H _ [ii q.z, ii (wide : Int), if b = true then gs rows else .d (dts rows), .u, .u, .u, .u, .u, .u, .u, .u] [] := I
  have hn : (rows.map dI).length = rows.length := List.length_map ..
  have src : Src (iAny K (tVar 2)) (L2.start ["prime", "wide", "rows", "left", "found", "places", "place", "some", "row", "at", "worth"] vs) H (rows.map dI).length (ItD (rows.map dI)) := by
    cases b with
    | true => exact src_anyL (x_giv I rfl)
    | false => exact src_anyT (x_var I rfl)
  try dsimp only
  refine sq (s_setN I (EvN.is (n_lc1 (j := 8) I src (by rw [hn]; omega) (fun i => dI (rows.getD i [])) itL (fun i => dI (rows.getD i [])) fun i σ2 H2 hi I2 => x_tupT (x_var I2 rfl)) (es := rows.map dI) (by rw [hn, map_rangeL rows dI])) fun a σ1 H1 I1 => ?_)
  have I1 : SI H H H1 σ1 [ii q.z, ii (wide : Int), .u, .r a, .u, .u, .u, .u, .u, .u, .u] [(a, .lst (rows.map dI))] := I1.u 2
  try dsimp only
  refine sq (s_par2N I1 (n_lst (ds := []) a_nil (by decide)) (fun _ _ => n_lst (ds := []) a_nil (by decide)) fun b0 c0 σ2 H2 I2 => ?_)
  have I2 : SI H H H2 σ2 [ii q.z, ii (wide : Int), .u, .r a, .r b0, .r c0, .u, .u, .u, .u, .u] [(b0, .lst []), (a, .lst (rows.map dI)), (c0, .lst [])] := I2.perm (List.perm_append_comm (l₁ := [(c0, Ob.lst [])]) (l₂ := [(b0, Ob.lst []), (a, Ob.lst (rows.map dI))]))
  try dsimp only
  refine sq (s_for_r1 (j := 6) (a_cons (x_var I2 rfl) a_nil) (by omega) (fun i σ H' => ∃ a b c : Addr, SI H H H' σ [ii q.z, ii (wide : Int), .u, .r a, .r b, .r c, .u, .u, .u, .u, .u] [(b, .lst ((redTurns q.z i ⟨rows, [], []⟩).found.map dI)), (a, .lst ((redTurns q.z i ⟨rows, [], []⟩).left.map dI)), (c, .lst ((nz (redTurns q.z i ⟨rows, [], []⟩).places).map .int))])
    (fun H3 e => ⟨a, b0, c0, I2.ext e⟩) (fun i σ3 H3 hi p => ?_) fun σ3 H3 p => ?_)
  · obtain ⟨a, b, c, I3⟩ := p
    have hi : i < wide := by omega
    have RI := red_inv hr1 i (by omega)
    have RB := red_bound (p := q.z) (rows := rows) i
    rw [redTurns_succ]
    generalize hs : redTurns q.z i ⟨rows, [], []⟩ = s at I3 RI RB
    obtain ⟨b1, b2, b3⟩ := RB
    have I4 : SI H H H3 _ [ii q.z, ii (wide : Int), .u, .r a, .r b, .r c, ii (i : Int), .u, .u, .u, .u] _ := I3.setD 6 (Tp.int (i : Int))
    have hll : (s.left.map dI).length = s.left.length := List.length_map ..
    have hS : (((List.range s.left.length).filter fun a => !decide ((s.left.getD a []).getD i 0 = 0)).map fun (n : Nat) => PyData.int (n : Int)) = (nz ((List.range s.left.length).filter fun a => decide ((s.left.getD a []).getD i 0 ≠ 0))).map .int := by
      rw [List.map_map]
      congr 2
      funext a
      rw [decide_not]
    try dsimp only
    refine sq (s_setN I4 (EvN.is (n_lcF (j := 9) I4 (src_r1 (n := (s.left.length : Int)) (by rw [← hll]; exact a_cons (x_lenL (x_own (j := 1) I4 rfl (x_ref I4 rfl))) a_nil) (by omega)) (by omega) (fun i => .int (i : Int)) itR (fun a => !decide ((s.left.getD a []).getD i 0 = 0)) (fun a => .int (a : Int))
      (fun a' σ5 H5 ha I5 => ?_) fun a' σ5 H5 ha _ I5 => x_var I5 rfl) hS) fun sm σ5 H5 I5 => ?_)
    · have ha : a' < s.left.length := by omega
      have hlen := RI.ll _ (getD_mem (d := []) ha)
      exact t_B (x_neI (x_ixT (x_ixL (x_own (j := 1) I5 rfl (x_ref I5 rfl)) (x_var I5 rfl) (at_dI ha)) (x_var I5 rfl) (at_int (by rw [hlen.1]; exact hi))) x_int)
    have hmatch : redTurn q.z s i = (match (List.range s.left.length).filter (fun a => decide ((s.left.getD a []).getD i 0 ≠ 0)) with
      | [] => s
      | a :: _ => ⟨cleared q.z (s.left.eraseIdx a) i ((s.left.getD a []).map fun w => w * invOf q.z ((s.left.getD a []).getD i 0) % q.z), cleared q.z s.found i ((s.left.getD a []).map fun w => w * invOf q.z ((s.left.getD a []).getD i 0) % q.z) ++ [(s.left.getD a []).map fun w => w * invOf q.z ((s.left.getD a []).getD i 0) % q.z], s.places ++ [i]⟩) := rfl
    generalize hL : (List.range s.left.length).filter (fun a => decide ((s.left.getD a []).getD i 0 ≠ 0)) = L at I5 hmatch
    have I5 : SI H H H5 σ5 [ii q.z, ii (wide : Int), .u, .r a, .r b, .r c, ii (i : Int), .r sm, .u, .u, .u] [(sm, .lst ((nz L).map .int)), (b, .lst (s.found.map dI)), (a, .lst (s.left.map dI)), (c, .lst ((nz s.places).map .int))] := I5
    cases L with
    | nil =>
      try dsimp only
      refine s_when (b := false) I5 (t_B (EvX.is (x_gt (x_lenL (x_own (j := 0) I5 rfl (x_ref I5 rfl))) x_int) rfl)) (fun e => nomatch e) fun _ H6 I6 => ?_
      rw [hmatch]
      exact ⟨a, b, c, ((I6.sub (.cons _ (List.Sublist.refl _))).u 6).u 7⟩
    | cons m L =>
      have hm : m ∈ (List.range s.left.length).filter (fun a => decide ((s.left.getD a []).getD i 0 ≠ 0)) := by rw [hL]; exact List.mem_cons_self
      have hml : m < s.left.length := List.mem_range.mp (List.mem_filter.mp hm).1
      try dsimp only
      refine s_when (b := true) I5 (t_B (EvX.is (x_gt (x_lenL (x_own (j := 0) I5 rfl (x_ref I5 rfl))) x_int) (by
        rw [lenz, List.length_map, List.length_cons, decide_eq_true (show (0 : Int) < ((L.length + 1 : Nat) : Int) by omega)]))) (fun _ H6 I6 => ?_) (fun e => nomatch e)
      try dsimp only
      refine sq (s_popAt (i := 8) (j := 2) (n := m) I6 (x_ref I6 rfl) rfl (x_ixL (x_own (j := 0) I6 rfl (x_ref I6 rfl)) x_int (d := .int (m : Int)) (L2.atI_nat (j := 0) rfl)) (by rw [hll]; omega) (get_dI hml) fun σ7 H7 I7 => ?_)
      obtain ⟨hrl, hrr⟩ := RI.ll _ (getD_mem (d := []) hml)
      have hmatch : redTurn q.z s i = ⟨cleared q.z (s.left.eraseIdx m) i ((s.left.getD m []).map fun w => w * invOf q.z ((s.left.getD m []).getD i 0) % q.z), cleared q.z s.found i ((s.left.getD m []).map fun w => w * invOf q.z ((s.left.getD m []).getD i 0) % q.z) ++ [(s.left.getD m []).map fun w => w * invOf q.z ((s.left.getD m []).getD i 0) % q.z], s.places ++ [i]⟩ := hmatch
      generalize hr0 : s.left.getD m [] = r0 at I7 hrl hrr hmatch
      have I7 : SI H H H7 σ7 [ii q.z, ii (wide : Int), .u, .r a, .r b, .r c, ii (i : Int), .r sm, dt r0, .u, .u] [(sm, .lst ((nz (m :: L)).map .int)), (b, .lst (s.found.map dI)), (a, .lst ((s.left.map dI).eraseIdx m)), (c, .lst ((nz s.places).map .int))] := I7
      rw [map_eraseIdx] at I7
      have hib := invOf_bd q (r0.getD i 0)
      try dsimp only
      refine sq (s_set I7 (EvX.is (x_tupL (EvN.x (n_lc1 (j := 10) I7 (src_tup (x_var I7 rfl)) (by rw [len_int]; omega) (fun i => .int (r0.getD i 0)) itI (fun n => .int (r0.getD n 0 * invOf q.z (r0.getD i 0) % q.z)) fun n σ8 H8 hn8 I8 =>
        x_mod (x_mul (x_var I8 rfl) (x_callF (q, r0.getD i 0) (a_cons (x_var I8 rfl) (a_cons (x_ixT (x_var I8 rfl) (x_var I8 rfl) (at_int (by omega))) a_nil)) trivial) (.inr (by show _ < invOf q.z (r0.getD i 0) ∧ invOf q.z (r0.getD i 0) < _; omega))) (x_var I8 rfl) (by omega))))
        (s' := dt (r0.map fun w => w * invOf q.z (r0.getD i 0) % q.z)) (by rw [len_int, map_ints, map_range r0 (fun w => w * invOf q.z (r0.getD i 0) % q.z)])) fun σ8 H8 I8 => ?_)
      generalize hrow : (r0.map fun w => w * invOf q.z (r0.getD i 0) % q.z) = row at I8 hmatch
      have I8 : SI H H H8 σ8 [ii q.z, ii (wide : Int), .u, .r a, .r b, .r c, ii (i : Int), .r sm, dt row, .u, .u] [(sm, .lst ((nz (m :: L)).map .int)), (b, .lst (s.found.map dI)), (a, .lst ((s.left.eraseIdx m).map dI)), (c, .lst ((nz s.places).map .int))] := I8
      have hel : ∀ r, r ∈ s.left.eraseIdx m → Rg q r ∧ i < r.length ∧ r.length ≤ 10000 := fun r hr => by
        obtain ⟨h1, h2⟩ := RI.ll r (List.mem_of_mem_eraseIdx hr)
        exact ⟨h2, by omega, by omega⟩
      have hel2 : (s.left.eraseIdx m).length ≤ 10000 := by have := List.length_eraseIdx_le s.left m; omega
      have hfl : ∀ r, r ∈ s.found → Rg q r ∧ i < r.length ∧ r.length ≤ 10000 := fun r hr => by
        obtain ⟨h1, h2⟩ := RI.lf r hr
        exact ⟨h2, by omega, by omega⟩
      have hfl2 : s.found.length ≤ 10000 := by omega
      try dsimp only
      refine sq (s_setN I8 (n_callL (q, s.left.eraseIdx m, i, row) (a_cons (x_var I8 rfl) (a_cons (x_own (j := 2) I8 rfl (x_ref I8 rfl)) (a_cons (x_var I8 rfl) (a_cons (x_var I8 rfl) a_nil)))) ⟨hel, hel2⟩) fun a2 σ9 H9 I9 => ?_)
      have I9 : SI H H H9 σ9 [ii q.z, ii (wide : Int), .u, .r a2, .r b, .r c, ii (i : Int), .r sm, dt row, .u, .u] [(a2, .lst ((cleared q.z (s.left.eraseIdx m) i row).map dI)), (sm, .lst ((nz (m :: L)).map .int)), (b, .lst (s.found.map dI)), (a, .lst ((s.left.eraseIdx m).map dI)), (c, .lst ((nz s.places).map .int))] := I9
      have hcl : (cleared q.z s.found i row).length = s.found.length := by unfold cleared; rw [List.length_map]
      try dsimp only
      refine sq (s_setN I9 (EvN.is (n_cat (EvN.x (n_callL (q, s.found, i, row) (a_cons (x_var I9 rfl) (a_cons (x_own (j := 2) I9 rfl (x_ref I9 rfl)) (a_cons (x_var I9 rfl) (a_cons (x_var I9 rfl) a_nil)))) ⟨hfl, hfl2⟩)) (EvN.x (n_lst (ds := [dI row]) (a_cons (x_var I9 rfl) a_nil) (by show 1 ≤ 100000; decide))) (by
          show ((cleared q.z s.found i row).map dI).length + 1 ≤ 100000
          rw [List.length_map]; omega))
        (es := (cleared q.z s.found i row ++ [row]).map dI) (by rw [List.map_append]; rfl)) fun b2 σ10 H10 I10 => ?_)
      have I10 : SI H H H10 σ10 [ii q.z, ii (wide : Int), .u, .r a2, .r b2, .r c, ii (i : Int), .r sm, dt row, .u, .u] [(b2, .lst ((cleared q.z s.found i row ++ [row]).map dI)), (a2, .lst ((cleared q.z (s.left.eraseIdx m) i row).map dI)), (sm, .lst ((nz (m :: L)).map .int)), (b, .lst (s.found.map dI)), (a, .lst ((s.left.eraseIdx m).map dI)), (c, .lst ((nz s.places).map .int))] := I10
      try dsimp only
      refine s_app (j := 5) I10 (x_ref I10 rfl) rfl (x_var I10 rfl) (by rw [len_int, List.length_map]; omega) fun H11 I11 => ?_
      rw [hmatch]
      have I12 := (((I11.sub (ob' := [(b2, .lst ((cleared q.z s.found i row ++ [row]).map dI)), (a2, .lst ((cleared q.z (s.left.eraseIdx m) i row).map dI)), (c, .lst ((nz s.places).map PyData.int ++ [.int (i : Int)]))]) (.cons₂ _ (.cons₂ _ (.cons _ (.cons _ (.cons _ (.cons₂ _ .slnil))))))).u 6).u 7).u 8
      refine ⟨a2, b2, c, ?_⟩
      show SI H H H11 σ10 _ [(b2, .lst ((cleared q.z s.found i row ++ [row]).map dI)), (a2, .lst ((cleared q.z (s.left.eraseIdx m) i row).map dI)), (c, .lst ((nz (s.places ++ [i])).map .int))]
      have ep : (nz (s.places ++ [i])).map PyData.int = (nz s.places).map PyData.int ++ [.int (i : Int)] := by
        unfold nz
        rw [List.map_append, List.map_append]; rfl
      rw [ep]
      exact I12
  · obtain ⟨a, b, c, I3⟩ := p
    rw [Int.toNat_natCast] at I3
    try dsimp only
    exact s_ret I3 (x_tup (ds := [dts _, dI _]) (a_cons (x_tupL (x_own (j := 0) I3 rfl (x_ref I3 rfl))) (a_cons (x_tupL (x_own (j := 2) I3 rfl (x_ref I3 rfl))) a_nil)) (by show 2 ≤ 100000; decide)) k
end
end Wk
end
section
set_option Elab.async false
set_option linter.all false
set_option maxRecDepth 100000
set_option maxHeartbeats 4000000
/-! The defs, one by one: the table and its kernel. -/
namespace Wk
open PySem PySem.Spec PyProof.Rows L2 Evl Mw
def tabF (p w : Int) (v : V) (h : Int) : List (Str × V) := putF "high" (.int h) (putF "rows" v (putF "wide" (.int w) (putF "prime" (.int p) [])))
theorem tab_prime (p w : Int) (v : V) (h : Int) : (tabF p w v h).lookup ("prime" : Str) = some (.int p) := by
  unfold tabF
  rw [lookup_putF, if_neg (by decide +kernel), lookup_putF, if_neg (by decide +kernel), lookup_putF, if_neg (by decide +kernel), lookup_putF, if_pos rfl]
theorem tab_wide (p w : Int) (v : V) (h : Int) : (tabF p w v h).lookup ("wide" : Str) = some (.int w) := by
  unfold tabF
  rw [lookup_putF, if_neg (by decide +kernel), lookup_putF, if_neg (by decide +kernel), lookup_putF, if_pos rfl]
theorem tab_rows (p w : Int) (v : V) (h : Int) : (tabF p w v h).lookup ("rows" : Str) = some v := by
  unfold tabF
  rw [lookup_putF, if_neg (by decide +kernel), lookup_putF, if_pos rfl]
/-- what of the class the defs lean on -/
structure Tab (K : PySem.W.Frag) (C : Addr) : Prop where
  cls : Cls K C
  nP : NoAttr K C "prime"
  nW : NoAttr K C "wide"
  nR : NoAttr K C "rows"
  nH : NoAttr K C "high"
def TabAt (K : PySem.W.Frag) (H : Hp) (a : Addr) (p w : Int) (rows : List LI) : Prop := ∃ C dx v h, Tab K C ∧ H a = some (.ins C dx (tabF p w v h)) ∧ Tp H v (dts rows)
theorem TabAt.ext {K : PySem.W.Frag} {H H' : Hp} {a : Addr} {p w : Int} {rows : List LI} (e : Ex H H') (h : TabAt K H a p w rows) : TabAt K H' a p w rows := by
  obtain ⟨C, dx, v, hh, t, h1, h2⟩ := h
  exact ⟨C, dx, v, hh, t, e _ _ h1, h2.m (te_ex e)⟩
section
variable {P : Program} {w : World} {K : PySem.W.Frag} {mg : Str → Option Value} {base : Heap}
abbrev st_keep : Stmt := inClass (topS 16) 1
abbrev st_init : Stmt := inClass (topS 17) 0
theorem sc_keep : FnScope ["self", "prime", "wide", "rows"] ["self", "prime", "wide", "rows"] (defScope st_keep) := ⟨rfl, rfl, rfl, by decide +kernel, rfl, by decide +kernel, by decide +kernel⟩
theorem sc_init : FnScope ["self", "prime", "wide", "rows"] ["self", "prime", "wide", "rows"] (defScope st_init) := ⟨rfl, rfl, rfl, by decide +kernel, rfl, by decide +kernel, by decide +kernel⟩
def sp_keep (C : Addr) : Sp := fun vs H Q _ => ∃ (t dx : Addr) (p w : Int) (r : Addr) (xs : List V), vs = [.ref t, .int p, .int w, .ref r] ∧ H t = some (.ins C dx []) ∧ H r = some (.tup xs) ∧
  ∀ H', (∀ b o, b ≠ t → H b = some o → H' b = some o) → H' t = some (.ins C dx (tabF p w (.ref r) xs.length)) → Q .non H'
theorem len_putF (f : Str) (v : V) : ∀ fs : List (Str × V), (putF f v fs).length ≤ fs.length + 1
  | [] => Nat.le_refl _
  | x :: fs => by
    have ih := len_putF f v fs
    unfold putF
    split
    · exact Nat.le_succ _
    · rw [List.length_cons, List.length_cons]; omega
theorem ok_keep {f C aP : Addr} {fd : FuncData} (F : Fun K "keep" "Table.keep" st_keep f fd) (T : Txt K mg aP) (B : Tab K C) : FnOk P w K mg base CX0 1 f fd ["self", "prime", "wide", "rows"] (sp_keep C) := by
  refine F.ok sc_keep (fun vs H Q E h => ?_) (fun cdv A outer s H vs Q E hr h => ?_)
  · obtain ⟨t, dx, p, w, r, xs, rfl, _⟩ := h
    rfl
  obtain ⟨t, dx, p, z, r, xs, rfl, hT, hR, k⟩ := h
  have nrt : r ≠ t := fun e => by rw [e, hT] at hR; cases hR
  refine ⟨_, pss_cons (ps_fld (pv 0) (pv 1) rfl) (pss_cons (ps_fld (pv 0) (pv 2) rfl) (pss_cons (ps_fld (pv 0) (pv 3) rfl) (pss_one (ps_fld (pv 0) (pe_callB (k_len K rfl) (by rfl) T.len_ (by decide +kernel) (pa_cons (pv 3) pa_nil)) rfl)))), ?_⟩
  have l1 : (putF "prime" (V.int p) []).length ≤ 1 := len_putF "prime" (V.int p) []
  have l2 : (putF "wide" (V.int z) (putF "prime" (V.int p) [])).length ≤ 2 := Nat.le_trans (len_putF "wide" (V.int z) _) (Nat.succ_le_succ l1)
  have l3 : (putF "rows" (V.ref r) (putF "wide" (V.int z) (putF "prime" (V.int p) []))).length ≤ 3 := Nat.le_trans (len_putF "rows" (V.ref r) _) (Nat.succ_le_succ l2)
  refine ⟨_, rfl, _, rfl, t, C, dx, _, rfl, hT, B.cls, B.nP, (by show 0 < 1000; decide), ?_⟩
  refine ⟨_, rfl, _, rfl, t, C, dx, _, rfl, upd_same, B.cls, B.nW, Nat.lt_of_le_of_lt l1 (by decide), ?_⟩
  refine ⟨_, rfl, _, rfl, t, C, dx, _, rfl, upd_same, B.cls, B.nR, Nat.lt_of_le_of_lt l2 (by decide), ?_⟩
  refine ⟨_, rfl, r, xs, rfl, .inr (.inl (.inl (by rw [upd_ne nrt, upd_ne nrt, upd_ne nrt]; exact hR))), _, rfl, t, C, dx, _, rfl, upd_same, B.cls, B.nH, Nat.lt_of_le_of_lt l3 (by decide), ?_⟩
  refine k _ (fun b o hb hO => ?_) upd_same
  rw [upd_ne hb, upd_ne hb, upd_ne hb, upd_ne hb]
  exact hO
theorem ok_init {f C fK : Addr} {fd fdK : FuncData} (F : Fun K "__init__" "RawTable.__init__" st_init f fd) (B : Tab K C) (M : Meth K C "keep" fK) (G : FnOk P w K mg base CX0 1 fK fdK ["self", "prime", "wide", "rows"] (sp_keep C)) (bK : Binds K fdK ["self", "prime", "wide", "rows"] []) :
    FnOk P w K mg base CX0 2 f fd ["self", "prime", "wide", "rows"] (sp_keep C) := by
  refine F.ok sc_init (fun vs H Q E h => ?_) (fun cdv A outer s H vs Q E hr h => ?_)
  · obtain ⟨t, dx, p, w, r, xs, rfl, _⟩ := h
    rfl
  obtain ⟨t, dx, p, z, r, xs, rfl, hT, hR, k⟩ := h
  refine ⟨_, pss_one (ps_expr (pe_meth (pv 0) B.cls M G hr bK .nil pass0 (pa_cons (pv 1) (pa_cons (pv 2) (pa_cons (pv 3) pa_nil))))), ?_⟩
  refine ⟨_, rfl, t, dx, _, rfl, hT, rfl, _, rfl, _, rfl, _, rfl, ?_⟩
  exact ⟨t, dx, p, z, r, xs, rfl, hT, hR, k⟩
def sp_columns_table (K : PySem.W.Frag) : Sp := fun vs H Q _ => ∃ (q : P6) (high : Nat) (cols : List LI), SD H H (vs.map some) [ii q.z, ii (high : Int), gs cols] ∧ ((∀ c, c ∈ cols → c.length = high) ∧ high ≤ 10000 ∧ cols.length ≤ 10000) ∧
  ∀ p H', Ex H H' → TabAt K H' p q.z cols.length (rowsOf high cols) → Q (.ref p) H'
abbrev st_columns_table : Stmt := topS 18
theorem sc_columns_table : FnScope ["prime", "high", "columns", "rows", "at", "column"] ["prime", "high", "columns"] (defScope st_columns_table) := ⟨rfl, rfl, rfl, by decide +kernel, rfl, by decide +kernel, by decide +kernel⟩
theorem ok_columns_table {f aP : Addr} {fd : FuncData} (F : Fun K "columns_table" "columns_table" st_columns_table f fd) (T : Txt K mg aP) {C fI : Addr} {fdI : FuncData} (B : Tab K C) (MK : Mk K C fI) (GI : FnOk P w K mg base CX0 2 fI fdI ["self", "prime", "wide", "rows"] (sp_keep C)) (bI : Binds K fdI ["self", "prime", "wide", "rows"] []) (mgC : mg "RawTable" = some (.ref C))  : FnOk P w K mg base CX0 4 f fd ["prime", "high", "columns"] (sp_columns_table K) := by
  refine F.ok sc_columns_table (fun vs H Q E h => ?_) (fun cdv A outer s H vs Q E hr h => ?_)
  · obtain ⟨q, high, cols, hsd, _⟩ := h
    have := hsd.length
    rwa [List.length_map] at this
  obtain ⟨q, high, cols, hsd, ⟨hc, l1, l2⟩, k⟩ := h
  have I := start_ok (N := ["prime", "high", "columns", "rows", "at", "column"]) hsd
  have I : SI H H H _ [ii q.z, ii (high : Int), gs cols, .u, .u, .u] [] := I
  refine ⟨_, (pss_cons (ps_setLc (i := 3) (own := [("at", 4)]) (g := (gName 4)) (tt := tYes) rfl sc_columns_table.nd rfl rfl (sw_true rfl rfl rfl (by decide +kernel)) (pi_range1 (by rfl) T.range_ (pa_cons (pv 1) pa_nil)) (blkOk_by (own := [("at", 4)]) (N := ["prime", "high", "columns", "rows", "at", "column"]) (sc := defScope st_columns_table) (by decide +kernel)) (fun _ _ _ _ _ => (pg_name (i := 4) sc_columns_table.nd rfl (by first | exact Or.inl rfl | exact Or.inr rfl))) (fun _ _ _ _ _ => pts_nil) (fun _ _ _ _ _ => (pe_callTy (k_tuple K rfl) (by rfl) T.tuple_ (by decide +kernel) (pa_cons (pe_lc (own := [("column", 5)]) (g := (gName 5)) (tt := tYes) rfl sc_columns_table.nd (k_pil K rfl (pv 2)) (blkOk_by (own := [("column", 5)]) (N := ["prime", "high", "columns", "rows", "at", "column"]) (sc := rlSc (lcSc st_columns_table) (defScope st_columns_table)) (by decide +kernel)) (fun _ _ _ _ _ => (pg_name (i := 5) sc_columns_table.nd rfl (by first | exact Or.inl rfl | exact Or.inr rfl))) (fun _ _ _ _ _ => pts_nil) (fun _ _ _ _ _ => (pe_ix (k_ixT K rfl) (pv 5) (pv 4) (fun _ _ => rfl)))) pa_nil)))) (pss_one (ps_ret (pe_make MK GI (hr.mono (by decide)) (by rfl) mgC bI .nil pass0 (pa_cons (pv 0) (pa_cons (pe_callB (k_len K rfl) (by rfl) T.len_ (by decide +kernel) (pa_cons (pv 2) pa_nil)) (pa_cons (pe_callTy (k_tuple K rfl) (by rfl) T.tuple_ (by decide +kernel) (pa_cons (pv 3) pa_nil)) pa_nil))))))), ?_⟩
  have hn : (cols.map dI).length = cols.length := List.length_map ..
  try dsimp only
  refine sq (s_setN I (EvN.is (n_lc1 (j := 4) I (src_r1 (n := (high : Int)) (a_cons (x_var I rfl) a_nil) (by omega)) (by omega) (fun i => .int (i : Int)) itR (fun a => dI (cols.map fun c => c.getD a 0)) fun a σ2 H2 ha I2 => ?_) (es := (rowsOf high cols).map dI) (by rw [Int.toNat_natCast, map_dIs]; rfl)) fun a σ1 H1 I1 => ?_)
  · refine EvX.is (x_tupL (EvN.x (n_lc1 (j := 5) I2 (src_lst (x_giv I2 rfl)) (by rw [hn]; omega) (fun i => dI (cols.getD i [])) itL (fun i => .int ((cols.getD i []).getD a 0)) fun i σ3 H3 hi I3 => ?_))) ?_
    · have hi : i < cols.length := by rw [hn] at hi; exact hi
      have := hc _ (getD_mem (d := []) hi)
      exact x_ixT (x_var I3 rfl) (x_var I3 rfl) (at_int (by omega))
    · rw [hn, map_ints, map_rangeL cols (fun c => c.getD a 0)]
  · have I1 : SI H H H1 σ1 [ii q.z, ii (high : Int), gs cols, .r a, .u, .u] [(a, .lst ((rowsOf high cols).map dI))] := I1
    have hA := a_cons (s := ii q.z) (x_var (i := 0) I1 rfl) (a_cons (x_lenL (K := K) (x_giv (i := 2) I1 rfl)) (a_cons (x_tupL (K := K) (x_own (j := 0) I1 rfl (x_ref (i := 3) I1 rfl))) a_nil))
    dsimp only
    show tMake C (sp_keep C) [] E0 _ σ1 H1 _
    refine hA H1 (Ex.refl H1) _ fun vs H2 e hv => ?_
    have ht : TpL H2 vs [.int q.z, .int ((cols.map dI).length : Int), dts (rowsOf high cols)] := SD.tpl (ds := [.int q.z, .int ((cols.map dI).length : Int), dts (rowsOf high cols)]) hv
    match vs, ht with
    | [_, _, _], .cons (.int _) (.cons (.int _) (.cons (.tup (a := r) (xs := xs) h1 h2) _)) =>
      intro x dx nx ndx nex
      have hne : ∀ b o, H2 b = some o → b ≠ x ∧ b ≠ dx := fun b o hb => ⟨ne_of_none hb nx, ne_of_none hb ndx⟩
      refine ⟨x, dx, q.z, ((cols.map dI).length : Int), r, xs, rfl, upd_same, by rw [upd_ne (hne _ _ h1).1, upd_ne (hne _ _ h1).2]; exact h1, fun H3 keep hx => ⟨rfl, ?_⟩⟩
      have ex2 : Ex H2 H3 := fun b o hb => keep b o (hne b o hb).1 (by rw [upd_ne (hne b o hb).1, upd_ne (hne b o hb).2]; exact hb)
      rw [hn] at hx
      exact k x H3 ((I1.ex.trans e).trans ex2) ⟨C, dx, .ref r, _, B, hx, .tup (ex2 _ _ h1) (h2.m (te_ex ex2))⟩
theorem eqV_int (a b : Int) : eqV (.int a) (.int b) = decide (a = b) := by
  first
    | rfl
    | (unfold eqV; exact (Bool.eq_iff_iff.mpr (by simp)))
theorem inV_ints (x : Int) : ∀ l : LI, inV (.int x) (l.map V.int) = decide (x ∈ l)
  | [] => by simp [inV]
  | y :: l => by
    have ih := inV_ints x l
    unfold inV at ih ⊢
    rw [List.map_cons, List.any_cons, ih, eqV_int]
    by_cases h : y = x
    · subst h; simp
    · by_cases h2 : x ∈ l
      · simp [h2]
      · simp [h, h2, Ne.symm h]
theorem flat_ints : ∀ l : LI, (l.map V.int).all flatV = true
  | [] => rfl
  | _ :: l => by rw [List.map_cons, List.all_cons, flat_ints l]; rfl
theorem x_notIn {σ : L2.St} {H : Hp} {ta tb : TE} {x : Int} {l : LI} (ha : EvX ta σ H (ii x)) (hb : EvX tb σ H (dt l)) : EvX (tOp (rIn K true) ta tb) σ H (.d (.bool (!decide (x ∈ l)))) := fun H1 e1 Q q =>
  ha.int H1 e1 _ fun H2 e2 => hb H2 (e1.trans e2) _ fun y H3 e3 ⟨v, ev, hv⟩ => by
    cases ev
    cases hv with
    | @tup a xs _ h1 h2 =>
      have hx := TpL.ints.mp h2
      subst hx
      refine ⟨a, _, rfl, .inr (.inl (.inl h1)), rfl, flat_ints l, ?_⟩
      show Q (.bl (!inV (.int x) (l.map V.int))) H3
      rw [inV_ints]
      exact q _ H3 (e2.trans e3) ⟨_, rfl, .bl _⟩
theorem mem_nz (x : Nat) (l : List Nat) : decide ((x : Int) ∈ nz l) = l.contains x := by
  rw [Bool.eq_iff_iff, decide_eq_true_iff, List.contains_iff_mem]
  constructor
  · intro h
    obtain ⟨y, hy, e⟩ := List.mem_map.mp h
    have : y = x := by omega
    exact this ▸ hy
  · exact fun h => List.mem_map.mpr ⟨x, h, rfl⟩
theorem getD_nz (l : List Nat) (i : Nat) : (nz l).getD i 0 = ((l.getD i 0 : Nat) : Int) := by
  unfold nz
  rw [List.getD_eq_getElem?_getD, List.getD_eq_getElem?_getD, List.getElem?_map]
  cases l[i]? <;> rfl
def sp_kernel (K : PySem.W.Frag) : Sp := fun vs H Q _ => ∃ (q : P6) (wide : Nat) (rows : List LI) (p : Addr), vs = [.ref p] ∧ TabAt K H p q.z wide rows ∧ ((∀ r, r ∈ rows → r.length = wide ∧ Rg q r) ∧ wide ≤ 10000 ∧ rows.length ≤ 10000) ∧
  ∀ v H', Ex H H' → Tp H' v (dts (kernel q.z wide rows)) → Q v H'
abbrev st_kernel : Stmt := topS 22
theorem sc_kernel : FnScope ["table", "rows", "places", "found", "free", "column", "row", "place", "at"] ["table"] (defScope st_kernel) := ⟨rfl, rfl, rfl, by decide +kernel, rfl, by decide +kernel, by decide +kernel⟩
theorem ok_kernel {f aP : Addr} {fd : FuncData} (F : Fun K "kernel" "kernel" st_kernel f fd) (T : Txt K mg aP) (c_reduced_rows : Cal P w K mg base "reduced_rows" 3 ["prime", "wide", "rows"] (sp_reduced_rows K)) : FnOk P w K mg base CX0 4 f fd ["table"] (sp_kernel K) := by
  refine F.ok sc_kernel (fun vs H Q E h => ?_) (fun cdv A outer s H vs Q E hr h => ?_)
  · obtain ⟨q, wide, rows, p, rfl, _⟩ := h
    rfl
  obtain ⟨q, wide, rows, p, rfl, ⟨C, dx, vr, hi, B, hp, hvr⟩, ⟨hr1, l1, l2⟩, k⟩ := h
  have I := start_ok (H := H) (N := ["table", "rows", "places", "found", "free", "column", "row", "place", "at"]) (vs := [.ref p]) (ss := [.r p]) ⟨rfl, trivial⟩
  have I : SI H H H _ [.r p, .u, .u, .u, .u, .u, .u, .u, .u] [] := I
  have hq := p_bd q
  refine ⟨_, (pss_cons (ps_asg (pe_callC c_reduced_rows (hr.mono (by decide)) (by rfl) (pa_cons (pe_fld (pv 0) rfl) (pa_cons (pe_fld (pv 0) rfl) (pa_cons (pe_fld (pv 0) rfl) pa_nil)))) (pg_tup (by rfl) (pgs_cons (pg_name (i := 1) sc_kernel.nd rfl (by first | exact Or.inl rfl | exact Or.inr rfl)) (pgs_cons (pg_name (i := 2) sc_kernel.nd rfl (by first | exact Or.inl rfl | exact Or.inr rfl)) pgs_nil)))) (pss_cons (ps_set (i := 3) sc_kernel.nd rfl (by first | exact Or.inl rfl | exact Or.inr rfl) (pe_lst pa_nil)) (pss_cons (ps_for PassesOwn.never rfl (pi_range1 (by rfl) T.range_ (pa_cons (pe_fld (pv 0) rfl) pa_nil)) (pg_name (i := 4) sc_kernel.nd rfl (by first | exact Or.inl rfl | exact Or.inr rfl)) (pss_one (ps_if (pt_cmpR (k_notIn K rfl) (pv 4) (pv 2) (by rfl)) (pss_cons (ps_setLc (i := 5) (own := [("at", 8)]) (g := (gName 8)) (tt := tYes) rfl sc_kernel.nd rfl rfl (sw_true rfl rfl rfl (by decide +kernel)) (pi_range1 (by rfl) T.range_ (pa_cons (pe_fld (pv 0) rfl) pa_nil)) (blkOk_by (own := [("at", 8)]) (N := ["table", "rows", "places", "found", "free", "column", "row", "place", "at"]) (sc := defScope st_kernel) (by decide +kernel)) (fun _ _ _ _ _ => (pg_name (i := 8) sc_kernel.nd rfl (by first | exact Or.inl rfl | exact Or.inr rfl))) (fun _ _ _ _ _ => pts_nil) (fun _ _ _ _ _ => (pe_callTy k_int (by rfl) T.int_ (by decide +kernel) (pa_cons (pe_cmpR op_eq (pv 8) (pv 4) (nomark _)) pa_nil)))) (pss_cons (ps_for PassesOwn.never rfl (RZ.pi_zipA (by rfl) T.zip_ (pa_cons (pv 1) (pa_cons (pv 2) pa_nil))) (pg_tup (by rfl) (pgs_cons (pg_name (i := 6) sc_kernel.nd rfl (by first | exact Or.inl rfl | exact Or.inr rfl)) (pgs_cons (pg_name (i := 7) sc_kernel.nd rfl (by first | exact Or.inl rfl | exact Or.inr rfl)) pgs_nil))) (pss_one (ps_asg (pe_op op_mod (pe_un un_neg (pe_ix (k_ixT K rfl) (pv 6) (pv 4) (fun _ _ => rfl))) (pe_fld (pv 0) rfl)) (pg_sub (pv 5) (pv 7) set_list)))) (pss_one (ps_expr (pe_bm PySem.F.plainAttrs_list PySem.F.slot_list_append PySem.F.type_list_append mt_append (pv 3) (pa_cons (pe_callTy (k_tuple K rfl) (by rfl) T.tuple_ (by decide +kernel) (pa_cons (pv 5) pa_nil)) pa_nil)))))) pss_nil))) (pss_one (ps_ret (pe_ix (k_ixT K rfl) (pe_callC c_reduced_rows (hr.mono (by decide)) (by rfl) (pa_cons (pe_fld (pv 0) rfl) (pa_cons (pe_fld (pv 0) rfl) (pa_cons (pv 3) pa_nil)))) pe_int (fun _ _ => rfl))))))), ?_⟩
  have fP : ∀ {te : TE} {σ2 : L2.St} {H2 : Hp}, Ex H H2 → EvX te σ2 H2 (.r p) → EvX (tFld K te "prime") σ2 H2 (ii q.z) := fun {te σ2 H2} e he => x_fld he (e _ _ hp) B.cls B.nP (tab_prime _ _ _ _) (.int _)
  have fW : ∀ {te : TE} {σ2 : L2.St} {H2 : Hp}, Ex H H2 → EvX te σ2 H2 (.r p) → EvX (tFld K te "wide") σ2 H2 (ii (wide : Int)) := fun {te σ2 H2} e he => x_fld he (e _ _ hp) B.cls B.nW (tab_wide _ _ _ _) (.int _)
  have fR : ∀ {te : TE} {σ2 : L2.St} {H2 : Hp}, Ex H H2 → EvX te σ2 H2 (.r p) → EvX (tFld K te "rows") σ2 H2 (.d (dts rows)) := fun {te σ2 H2} e he => x_fld he (e _ _ hp) B.cls B.nR (tab_rows _ _ _ _) (hvr.m (te_ex e))
  try dsimp only
  refine sq (s_pair I (x_callF (false, q, wide, rows) (a_cons (fP I.ex (x_ref I rfl)) (a_cons (fW I.ex (x_ref I rfl)) (a_cons (fR I.ex (x_ref I rfl)) a_nil))) ⟨hr1, l1, l2⟩) fun σ1 H1 I1 => ?_)
  have RO := reduced_ok hr1
  have hkr : kernel q.z wide rows = (reducedRows q.z wide (((List.range wide).filter fun f => !(reducedRows q.z wide rows).2.contains f).map fun f => freeCol q.z wide (reducedRows q.z wide rows).1 (reducedRows q.z wide rows).2 f (min (reducedRows q.z wide rows).1.length (reducedRows q.z wide rows).2.length))).1 := rfl
  have I1 : SI H H H1 σ1 [.r p, .d (dts (reducedRows q.z wide rows).1), dt (nz (reducedRows q.z wide rows).2), .u, .u, .u, .u, .u, .u] [] := I1
  generalize reducedRows q.z wide rows = R at I1 RO hkr
  try dsimp only
  refine sq (s_setN I1 (n_lst (ds := []) a_nil (by decide)) fun fa σ2 H2 I2 => ?_)
  have I2 : SI H H H2 σ2 [.r p, .d (dts R.1), dt (nz R.2), .r fa, .u, .u, .u, .u, .u] [(fa, .lst [])] := I2
  have hfc : ∀ i, (((List.range i).filter fun f => !R.2.contains f).map fun f => freeCol q.z wide R.1 R.2 f (min R.1.length R.2.length)).length ≤ i := fun i => by
    rw [List.length_map]
    exact Nat.le_trans (List.length_filter_le _ _) (by rw [List.length_range]; exact Nat.le_refl _)
  try dsimp only
  refine sq (s_for_r1 (j := 4) (n := (wide : Int)) (a_cons (fW I2.ex (x_ref I2 rfl)) a_nil) (by omega) (fun i σ H' => SI H H H' σ [.r p, .d (dts R.1), dt (nz R.2), .r fa, .u, .u, .u, .u, .u] [(fa, .lst ((((List.range i).filter fun f => !R.2.contains f).map fun f => freeCol q.z wide R.1 R.2 f (min R.1.length R.2.length)).map dI))])
    (fun H3 e => I2.ext e) (fun i σ3 H3 hi I3 => ?_) fun σ3 H3 I3 => ?_)
  · have hi : i < wide := by omega
    have I4 : SI H H H3 _ [.r p, .d (dts R.1), dt (nz R.2), .r fa, ii (i : Int), .u, .u, .u, .u] _ := I3.setD 4 (Tp.int (i : Int))
    try dsimp only
    refine s_when (b := !R.2.contains i) I4 (t_B (EvX.is (x_notIn (x_var I4 rfl) (x_var I4 rfl)) (by rw [mem_nz]))) (fun hb H5 I5 => ?_) fun hb H5 I5 => ?_
    · have hni : i ∉ R.2 := fun z => by rw [List.contains_iff_mem.mpr z] at hb; exact nomatch hb
      have hcol : (List.range (wide : Int).toNat).map (fun (a : Nat) => PyData.int (if decide ((a : Int) = (i : Int)) = true then 1 else 0)) = (freeCol q.z wide R.1 R.2 i 0).map .int := by
        rw [map_ints, Int.toNat_natCast]
        congr 1
        refine List.map_congr_left fun a _ => ?_
        by_cases h : a = i
        · rw [if_pos h, if_pos (decide_eq_true (by omega))]
        · rw [if_neg h, if_neg (by rw [decide_eq_false (by omega)]; decide)]
      try dsimp only
      refine sq (s_setN I5 (EvN.is (n_lc1 (j := 8) I5 (src_r1 (n := (wide : Int)) (a_cons (fW I5.ex (x_ref I5 rfl)) a_nil) (by omega)) (by omega) (fun a => .int (a : Int)) itR (fun a => .int (if decide ((a : Int) = (i : Int)) = true then 1 else 0)) fun a σ6 H6 ha I6 => x_intB (x_eqI (x_var I6 rfl) (x_var I6 rfl))) hcol) fun ca σ6 H6 I6 => ?_)
      have I6 : SI H H H6 σ6 [.r p, .d (dts R.1), dt (nz R.2), .r fa, ii (i : Int), .r ca, .u, .u, .u] [(ca, .lst ((freeCol q.z wide R.1 R.2 i 0).map .int)), (fa, .lst ((((List.range i).filter fun f => !R.2.contains f).map fun f => freeCol q.z wide R.1 R.2 f (min R.1.length R.2.length)).map dI))] := I6
      try dsimp only
      refine sq (s_for_zipT (j := 6) (k := 7) I6 (x_var I6 rfl) (x_var I6 rfl) (fun B n σ H' => TE' H B ∧ SI H B H' σ [.r p, .d (dts R.1), dt (nz R.2), .r fa, ii (i : Int), .r ca, .u, .u, .u] [(ca, .lst ((freeCol q.z wide R.1 R.2 i n).map .int)), (fa, .lst ((((List.range i).filter fun f => !R.2.contains f).map fun f => freeCol q.z wide R.1 R.2 f (min R.1.length R.2.length)).map dI))])
        (fun H7 t I7 => ⟨t, I7⟩) (fun B n σ H' p => p.2.tb) (fun B n d e v v' σ7 H7 H8 hd he pp ex hv hv' => ?_) fun B σ7 H7 pp => ?_)
      · obtain ⟨hn1, rfl⟩ := get_dI' hd
        obtain ⟨hn2, rfl⟩ := get_int' he
        have I8 : SI H B H8 _ [.r p, .d (dts R.1), dt (nz R.2), .r fa, ii (i : Int), .r ca, dt (R.1.getD n []), ii ((nz R.2).getD n 0), .u] _ := ((pp.2.ext ex).setD 6 hv).setD 7 hv'
        rw [getD_nz] at I8
        have hn2 : n < R.2.length := by rw [List.length_map] at hn2; exact hn2
        have hrow := RO.lf _ (getD_mem (d := []) hn1)
        have hpl := RO.lt _ (getD_mem (d := 0) hn2)
        try dsimp only
        refine s_put I8 (x_mod (x_neg (x_ixT (x_var I8 rfl) (x_var I8 rfl) (at_int (by rw [hrow.1]; exact hi)))) (fP I8.ex (x_ref I8 rfl)) (by omega)) (x_ref I8 rfl) (j := 0) rfl (x_var I8 rfl) (n := R.2.getD n 0) rfl (by rw [len_int, freeCol_len]; exact hpl) fun H9 I9 => ?_
        refine ⟨pp.1, ?_⟩
        have I9 : SI H B H9 _ [.r p, .d (dts R.1), dt (nz R.2), .r fa, ii (i : Int), .r ca, dt (R.1.getD n []), ii ((R.2.getD n 0 : Nat) : Int), .u] [(ca, .lst (((freeCol q.z wide R.1 R.2 i n).map PyData.int).set (R.2.getD n 0) (.int _))), (fa, .lst ((((List.range i).filter fun f => !R.2.contains f).map fun f => freeCol q.z wide R.1 R.2 f (min R.1.length R.2.length)).map dI))] := I9
        rw [map_set] at I9
        rw [freeCol_succ]
        exact (I9.u 6).u 7
      · obtain ⟨p1, I7⟩ := pp
        have I7 := I7.re p1
        rw [List.length_map, len_int, List.length_map] at I7
        try dsimp only
        refine s_app (j := 1) I7 (x_ref I7 rfl) rfl (x_tupL (x_own (j := 0) I7 rfl (x_ref I7 rfl))) (by rw [List.length_map]; have := hfc i; omega) fun H8 I8 => ?_
        have I9 := ((I8.sub (ob' := [(fa, .lst ((((List.range i).filter fun f => !R.2.contains f).map fun f => freeCol q.z wide R.1 R.2 f (min R.1.length R.2.length)).map dI ++ [dI (freeCol q.z wide R.1 R.2 i (min R.1.length R.2.length))]))]) (.cons _ (.cons₂ _ .slnil))).u 4).u 5
        show SI H H H8 σ7 _ _
        have ee : (((List.range (i + 1)).filter fun f => !R.2.contains f).map fun f => freeCol q.z wide R.1 R.2 f (min R.1.length R.2.length)).map dI = (((List.range i).filter fun f => !R.2.contains f).map fun f => freeCol q.z wide R.1 R.2 f (min R.1.length R.2.length)).map dI ++ [dI (freeCol q.z wide R.1 R.2 i (min R.1.length R.2.length))] := by
          rw [List.range_succ, List.filter_append, List.map_append, List.map_append, List.filter_cons, if_pos hb]; rfl
        rw [ee]
        exact I9
    · have ee : (((List.range (i + 1)).filter fun f => !R.2.contains f).map fun f => freeCol q.z wide R.1 R.2 f (min R.1.length R.2.length)) = (((List.range i).filter fun f => !R.2.contains f).map fun f => freeCol q.z wide R.1 R.2 f (min R.1.length R.2.length)) := by
        rw [List.range_succ, List.filter_append, List.map_append, List.filter_cons, if_neg (by rw [hb]; decide)]
        simp
      show SI H H H5 _ _ _
      rw [ee]
      exact I5.u 4
  · rw [Int.toNat_natCast] at I3
    have hh : ∀ r, r ∈ (((List.range wide).filter fun f => !R.2.contains f).map fun f => freeCol q.z wide R.1 R.2 f (min R.1.length R.2.length)) → r.length = wide ∧ Rg q r := fun r hr => by
      obtain ⟨f, _, rfl⟩ := List.mem_map.mp hr
      exact ⟨freeCol_len _ _ _ _ _ _, freeCol_rg _⟩
    try dsimp only
    refine s_ret I3 (EvX.is (x_ixT (x_callF (true, q, wide, _) (a_cons (fP I3.ex (x_ref I3 rfl)) (a_cons (fW I3.ex (x_ref I3 rfl)) (a_cons (x_own (j := 0) I3 rfl (x_ref I3 rfl)) a_nil))) ⟨hh, l1, by have := hfc wide; exact Nat.le_trans this l1⟩) x_int rfl) ?_) k
    rw [hkr]
end
end Wk
end
section
set_option Elab.async false
set_option linter.all false
set_option maxRecDepth 100000
set_option maxHeartbeats 4000000
/-! The defs, one by one: power_rests, still_polys, simple_factors. -/
namespace Wk
open PySem PySem.Spec PyProof.Rows L2 Evl Mw
theorem at_lastL {ls : List LI} {n : Nat} (h : ls.length = n + 1) : atI (ls.map dI) (-1) = some (dI (ls.getD n [])) := by
  unfold atI ixN
  rw [if_neg (by decide), if_pos (by rw [List.length_map]; omega)]
  show (ls.map dI)[((-1 : Int) + ((ls.map dI).length : Int)).toNat]? = _
  rw [List.length_map, show ((-1 : Int) + (ls.length : Int)).toNat = n by omega, get_dI (by omega)]
theorem pad_eq (n : Nat) (l : LI) : pad n l = l ++ List.replicate (n - l.length) 0 := rfl
section
variable {P : Program} {w : World} {K : PySem.W.Frag} {mg : Str → Option Value} {base : Heap}
def sp_power_rests (K : PySem.W.Frag) : Sp := spL (fun x : P6 × LI => [ii x.1.z, dt x.2]) (fun x => IsC x.1 x.2 ∧ 2 ≤ x.2.length ∧ x.2.length ≤ 900) (fun x => (powerRests x.1.z x.2).map dI)
abbrev st_power_rests : Stmt := topS 34
theorem sc_power_rests : FnScope ["prime", "poly", "degree", "step", "found", "turn", "rest"] ["prime", "poly"] (defScope st_power_rests) := ⟨rfl, rfl, rfl, by decide +kernel, rfl, by decide +kernel, by decide +kernel⟩
theorem ok_power_rests {f aP : Addr} {fd : FuncData} (F : Fun K "power_rests" "power_rests" st_power_rests f fd) (T : Txt K mg aP) (c_divided : Cal P w K mg base "divided" 2 ["prime", "one", "other"] (sp_divided K)) (c_raw_product : Cal P w K mg base "raw_product" 2 ["prime", "one", "other"] (sp_raw_product K)) : FnOk P w K mg base CX0 3 f fd ["prime", "poly"] (sp_power_rests K) := by
  refine F.ok sc_power_rests (fun vs H Q E h => ?_) (fun cdv A outer s H vs Q E hr h => ?_)
  · exact len_of (fun x => by first | rfl | (obtain ⟨_, _⟩ := x; rfl)) h
  obtain ⟨_, _, hsd, ⟨x, rfl, rfl, pre⟩, k⟩ := h
  have I := start_ok (N := ["prime", "poly", "degree", "step", "found", "turn", "rest"]) hsd
  refine ⟨_, (pss_cons (ps_set (i := 2) sc_power_rests.nd rfl (by first | exact Or.inl rfl | exact Or.inr rfl) (pe_op op_sub (pe_callB (k_len K rfl) (by rfl) T.len_ (by decide +kernel) (pa_cons (pv 1) pa_nil)) pe_int)) (pss_cons (ps_set (i := 3) sc_power_rests.nd rfl (by first | exact Or.inl rfl | exact Or.inr rfl) (pe_ix (k_ixT K rfl) (pe_callC c_divided (hr.mono (by decide)) (by rfl) (pa_cons (pv 0) (pa_cons (pe_op (k_catA K rfl) (pe_op (k_repA K rfl) (pe_tup (pa_cons pe_int pa_nil)) (pv 0)) (pe_tup (pa_cons pe_int pa_nil))) (pa_cons (pv 1) pa_nil)))) pe_int (fun _ _ => rfl))) (pss_cons (ps_set (i := 4) sc_power_rests.nd rfl (by first | exact Or.inl rfl | exact Or.inr rfl) (pe_lst (pa_cons (pe_tup (pa_cons pe_int pa_nil)) pa_nil))) (pss_cons (ps_for PassesOwn.never rfl (pi_range1 (by rfl) T.range_ (pa_cons (pe_op op_sub (pv 2) pe_int) pa_nil)) (pg_name (i := 5) sc_power_rests.nd rfl (by first | exact Or.inl rfl | exact Or.inr rfl)) (pss_one (ps_expr (pe_bm PySem.F.plainAttrs_list PySem.F.slot_list_append PySem.F.type_list_append mt_append (pv 4) (pa_cons (pe_ix (k_ixT K rfl) (pe_callC c_divided (hr.mono (by decide)) (by rfl) (pa_cons (pv 0) (pa_cons (pe_callC c_raw_product (hr.mono (by decide)) (by rfl) (pa_cons (pv 0) (pa_cons (pe_ix (k_ixL K rfl) (pv 4) (pe_un un_neg pe_int) (fun _ _ => rfl)) (pa_cons (pv 3) pa_nil)))) (pa_cons (pv 1) pa_nil)))) pe_int (fun _ _ => rfl)) pa_nil))))) (pss_one (ps_ret (pe_lc (own := [("rest", 6)]) (g := (gName 6)) (tt := tYes) rfl sc_power_rests.nd (k_pil K rfl (pv 4)) (blkOk_by (own := [("rest", 6)]) (N := ["prime", "poly", "degree", "step", "found", "turn", "rest"]) (sc := defScope st_power_rests) (by decide +kernel)) (fun _ _ _ _ _ => (pg_name (i := 6) sc_power_rests.nd rfl (by first | exact Or.inl rfl | exact Or.inr rfl))) (fun _ _ _ _ _ => pts_nil) (fun _ _ _ _ _ => (pe_op (k_catA K rfl) (pv 6) (pe_op (k_repA K rfl) (pe_tup (pa_cons pe_int pa_nil)) (pe_op op_sub (pv 2) (pe_callB (k_len K rfl) (by rfl) T.len_ (by decide +kernel) (pa_cons (pv 6) pa_nil))))))))))))), ?_⟩
  obtain ⟨q, poly⟩ := x
  obtain ⟨c1, h2, l1⟩ := pre
  have c1 : IsC q poly := c1
  have h2 : 2 ≤ poly.length := h2
  have l1 : poly.length ≤ 900 := l1
  have hne : poly ≠ [] := fun z => by rw [z] at h2; simp at h2
  have hq := p_bd q
  have hqz : q.z.toNat = q.n := by show ((q.n : Int)).toNat = _; omega
  have hqn : q.n ≤ 13 := q.most
  have I : SI H H H _ [ii q.z, dt poly, .u, .u, .u, .u, .u] [] := I
  try dsimp only
  refine sq (s_set I (EvX.is (x_sub (x_lenT (x_var I rfl)) x_int) (s' := ii ((poly.length - 1 : Nat) : Int)) (by rw [lenz]; congr 2; omega)) fun σ1 H1 I1 => ?_)
  have I1 : SI H H H1 σ1 [ii q.z, dt poly, ii ((poly.length - 1 : Nat) : Int), .u, .u, .u, .u] [] := I1
  have rg1 : Rg q (List.replicate q.z.toNat 0 ++ [1]) := (Rg.rep _).append (isC_one q).1
  have ln1 : (List.replicate q.z.toNat (0 : Int) ++ [1]).length ≤ 20000 := by rw [List.length_append, List.length_replicate, List.length_singleton]; omega
  have hpoly10 : poly.length ≤ 10000 := by omega
  try dsimp only
  refine sq (s_set I1 (x_ixT (x_callF (q, List.replicate q.z.toNat 0 ++ [1], poly) (a_cons (x_var I1 rfl) (a_cons (EvX.is (x_catT (x_repT (x_tup (ds := [.int 0]) (a_cons x_int a_nil) (by decide)) (x_var I1 rfl) (by omega) (by omega)) (x_tup (ds := [.int 1]) (a_cons x_int a_nil) (by decide)) (by rw [List.length_replicate]; show q.z.toNat + 1 ≤ 100000; omega))
    (s' := dt (List.replicate q.z.toNat 0 ++ [1])) (by show Sl.d (.tuple _) = Sl.d (.tuple ((List.replicate q.z.toNat (0 : Int) ++ [1]).map PyData.int)); rw [List.map_append, ← rep_int]; rfl)) (a_cons (x_var I1 rfl) a_nil))) ⟨rg1, c1.1, hne, ln1, hpoly10⟩) x_int rfl) fun σ2 H2 I2 => ?_)
  have hstep := (divided_ok c1 hne rg1).2.1
  have hstl := (divided_ok c1 hne rg1).2.2.2
  have hpr : powerRests q.z poly = (restsF q.z poly (divided q.z (List.replicate q.z.toNat 0 ++ [1]) poly).2 (poly.length - 2)).map (pad (poly.length - 1)) := rfl
  generalize (divided q.z (List.replicate q.z.toNat 0 ++ [1]) poly).2 = step at I2 hstep hstl hpr
  have I2 : SI H H H2 σ2 [ii q.z, dt poly, ii ((poly.length - 1 : Nat) : Int), dt step, .u, .u, .u] [] := I2
  try dsimp only
  refine sq (s_setN I2 (n_lst (ds := [dI [1]]) (a_cons (x_tup (ds := [.int 1]) (a_cons x_int a_nil) (by decide)) a_nil) (by show 1 ≤ 100000; decide)) fun a σ3 H3 I3 => ?_)
  have I3 : SI H H H3 σ3 [ii q.z, dt poly, ii ((poly.length - 1 : Nat) : Int), dt step, .r a, .u, .u] [(a, .lst [dI [1]])] := I3
  try dsimp only
  refine sq (s_for_r1 (j := 5) (a_cons (x_sub (x_var I3 rfl) x_int) a_nil) (by omega) (fun i σ H' => SI H H H' σ [ii q.z, dt poly, ii ((poly.length - 1 : Nat) : Int), dt step, .r a, .u, .u] [(a, .lst ((restsF q.z poly step i).map dI))]) (fun H4 e => I3.ext e) (fun i σ4 H4 hi I4 => ?_) fun σ4 H4 I4 => ?_)
  · have I5 : SI H H H4 _ [ii q.z, dt poly, ii ((poly.length - 1 : Nat) : Int), dt step, .r a, ii (i : Int), .u] [(a, .lst ((restsF q.z poly step i).map dI))] := I4.setD 5 (Tp.int (i : Int))
    have hl := restsF_len q.z poly step i
    have hb := restsF_ok c1 h2 hstep i i (Nat.le_refl _)
    have e1 : (rawProduct q.z ((restsF q.z poly step i).getD i []) step).length ≤ 20000 := by
      unfold rawProduct
      refine Nat.le_trans (trim_le _) ?_
      rw [mulRows_len, List.length_replicate]; omega
    have r1 : ((restsF q.z poly step i).getD i []).length ≤ 10000 := by omega
    have r2 : step.length ≤ 10000 := by omega
    try dsimp only
    refine s_app (j := 0) I5 (x_ref I5 rfl) rfl (x_ixT (x_callF (q, rawProduct q.z ((restsF q.z poly step i).getD i []) step, poly) (a_cons (x_var I5 rfl) (a_cons (x_callF (q, (restsF q.z poly step i).getD i [], step) (a_cons (x_var I5 rfl) (a_cons (x_ixL (x_own (j := 0) I5 rfl (x_ref I5 rfl)) (x_neg x_int) (at_lastL hl)) (a_cons (x_var I5 rfl) a_nil))) ⟨hb.1.1, hstep.1, r1, r2⟩) (a_cons (x_var I5 rfl) a_nil)))
      ⟨(rawProduct_C _ _).1, c1.1, hne, e1, hpoly10⟩) x_int rfl) (by rw [List.length_map, hl]; omega) fun H6 I6 => ?_
    have I7 : SI H H H6 _ [ii q.z, dt poly, ii ((poly.length - 1 : Nat) : Int), dt step, .r a, .u, .u] [(a, .lst ((restsF q.z poly step i).map dI ++ [dI (divided q.z (rawProduct q.z ((restsF q.z poly step i).getD i []) step) poly).2]))] := I6.u 5
    have ee : (restsF q.z poly step (i + 1)).map dI = (restsF q.z poly step i).map dI ++ [dI (divided q.z (rawProduct q.z ((restsF q.z poly step i).getD i []) step) poly).2] := by
      show (restsF q.z poly step i ++ [_]).map dI = _
      rw [List.map_append]; rfl
    rw [ee]
    exact I7
  · rw [show (((poly.length - 1 : Nat) : Int) - 1).toNat = poly.length - 2 by omega] at I4
    have hl := restsF_len q.z poly step (poly.length - 2)
    generalize hR : restsF q.z poly step (poly.length - 2) = R at I4 hl hpr
    have hn : (R.map dI).length = R.length := List.length_map ..
    try dsimp only
    refine s_retN I4 (EvN.is (n_lc1 (j := 6) I4 (src_lst (x_own (j := 0) I4 rfl (x_ref I4 rfl))) (by rw [hn]; omega) (fun i => dI (R.getD i [])) itL (fun i => dI (pad (poly.length - 1) (R.getD i []))) fun i σ5 H5 hi I5 => ?_) ?_) k
    · have hb := restsF_ok c1 h2 hstep (poly.length - 2) i (by omega)
      rw [hR] at hb
      generalize R.getD i [] = r at I5 hb
      have I5 : SI H H H5 σ5 [ii q.z, dt poly, ii ((poly.length - 1 : Nat) : Int), dt step, .r a, .u, dt r] [(a, .lst (R.map dI))] := I5
      refine EvX.is (x_catT (x_var I5 rfl) (x_repT (x_tup (ds := [.int 0]) (a_cons x_int a_nil) (by decide)) (x_sub (x_var I5 rfl) (x_lenT (x_var I5 rfl))) (by rw [lenz]; omega) (by rw [lenz]; omega)) (by simp only [List.length_map, List.length_replicate]; omega)) ?_
      rw [lenz, pad_eq, show (((poly.length - 1 : Nat) : Int) - (r.length : Int)).toNat = poly.length - 1 - r.length by omega, rep_int, ← List.map_append]
    · rw [hn, map_dIs, map_rangeL R (pad (poly.length - 1)), ← hpr]
/-- the kernel of a table of columns -/
theorem x_kc {σ : L2.St} {H : Hp} {ta : TA} {E : XK} {q : P6} {high : Nat} {cols : List LI} (h : EvAs ta σ H [ii q.z, ii (high : Int), gs cols]) (h1 : ∀ c, c ∈ cols → c.length = high ∧ Rg q c) (h2 : high ≤ 10000) (h3 : cols.length ≤ 10000) :
    EvX (tCall (sp_kernel K) [] E (tCons (tCall (sp_columns_table K) [] E ta) tNil)) σ H (.d (dts (kernel q.z cols.length (rowsOf high cols)))) := fun H1 e1 Q k =>
  h H1 e1 _ fun vs H2 e2 hvs => by
    refine ⟨q, high, cols, by rw [List.append_nil]; exact hvs, ⟨fun c hc => (h1 c hc).1, h2, h3⟩, fun p H3 e3 hT => ?_⟩
    refine ⟨q, cols.length, rowsOf high cols, p, rfl, hT, ⟨fun r hr => ?_, h3, ?_⟩, fun v H4 e4 hv => k v H4 ((e2.trans e3).trans e4) ⟨v, rfl, hv⟩⟩
    · obtain ⟨a, _, rfl⟩ := List.mem_map.mp hr
      refine ⟨List.length_map .., fun x hx => ?_⟩
      obtain ⟨c, hc, rfl⟩ := List.mem_map.mp hx
      exact (h1 c hc).2.get a
    · unfold rowsOf
      rw [List.length_map, List.length_range]; exact h2
def sp_still_polys (K : PySem.W.Frag) : Sp := spF (fun x : P6 × LI => [ii x.1.z, dt x.2]) (fun x => IsC x.1 x.2 ∧ 2 ≤ x.2.length ∧ x.2.length ≤ 900) (fun x => dts (stillPolys x.1.z x.2))
abbrev st_still_polys : Stmt := topS 35
theorem sc_still_polys : FnScope ["prime", "poly", "degree", "rests", "columns", "at", "here", "worth", "row"] ["prime", "poly"] (defScope st_still_polys) := ⟨rfl, rfl, rfl, by decide +kernel, rfl, by decide +kernel, by decide +kernel⟩
theorem ok_still_polys {f aP : Addr} {fd : FuncData} (F : Fun K "still_polys" "still_polys" st_still_polys f fd) (T : Txt K mg aP) (c_kernel : Cal P w K mg base "kernel" 4 ["table"] (sp_kernel K)) (c_columns_table : Cal P w K mg base "columns_table" 4 ["prime", "high", "columns"] (sp_columns_table K)) (c_trimmed : Cal P w K mg base "trimmed" 1 ["worths"] (sp_trimmed K)) (c_power_rests : Cal P w K mg base "power_rests" 3 ["prime", "poly"] (sp_power_rests K)) : FnOk P w K mg base CX0 5 f fd ["prime", "poly"] (sp_still_polys K) := by
  refine F.ok sc_still_polys (fun vs H Q E h => ?_) (fun cdv A outer s H vs Q E hr h => ?_)
  · exact len_of (fun x => by first | rfl | (obtain ⟨_, _⟩ := x; rfl)) h
  obtain ⟨_, _, hsd, ⟨x, rfl, rfl, pre⟩, k⟩ := h
  have I := start_ok (N := ["prime", "poly", "degree", "rests", "columns", "at", "here", "worth", "row"]) hsd
  refine ⟨_, (pss_cons (ps_set (i := 2) sc_still_polys.nd rfl (by first | exact Or.inl rfl | exact Or.inr rfl) (pe_op op_sub (pe_callB (k_len K rfl) (by rfl) T.len_ (by decide +kernel) (pa_cons (pv 1) pa_nil)) pe_int)) (pss_cons (ps_set (i := 3) sc_still_polys.nd rfl (by first | exact Or.inl rfl | exact Or.inr rfl) (pe_callC c_power_rests (hr.mono (by decide)) (by rfl) (pa_cons (pv 0) (pa_cons (pv 1) pa_nil)))) (pss_cons (ps_set (i := 4) sc_still_polys.nd rfl (by first | exact Or.inl rfl | exact Or.inr rfl) (pe_lst pa_nil)) (pss_cons (ps_for PassesOwn.never rfl (pi_range1 (by rfl) T.range_ (pa_cons (pv 2) pa_nil)) (pg_name (i := 5) sc_still_polys.nd rfl (by first | exact Or.inl rfl | exact Or.inr rfl)) (pss_one (ps_expr (pe_bm PySem.F.plainAttrs_list PySem.F.slot_list_append PySem.F.type_list_append mt_append (pv 4) (pa_cons (pe_callTy (k_tuple K rfl) (by rfl) T.tuple_ (by decide +kernel) (pa_cons (pe_lc (own := [("here", 6), ("worth", 7)]) (g := (gTup K 2 (gCons (gName 6) (gCons (gName 7) gNil)))) (tt := tYes) rfl sc_still_polys.nd (pi_enumT (by rfl) T.enumerate_ (pa_cons (pe_ix (k_ixL K rfl) (pv 3) (pv 5) (fun _ _ => rfl)) pa_nil)) (blkOk_by (own := [("here", 6), ("worth", 7)]) (N := ["prime", "poly", "degree", "rests", "columns", "at", "here", "worth", "row"]) (sc := defScope st_still_polys) (by decide +kernel)) (fun _ _ _ _ _ => (pg_tup (by rfl) (pgs_cons (pg_name (i := 6) sc_still_polys.nd rfl (by first | exact Or.inl rfl | exact Or.inr rfl)) (pgs_cons (pg_name (i := 7) sc_still_polys.nd rfl (by first | exact Or.inl rfl | exact Or.inr rfl)) pgs_nil)))) (fun _ _ _ _ _ => pts_nil) (fun _ _ _ _ _ => (pe_op op_mod (pe_op op_sub (pv 7) (pe_callTy k_int (by rfl) T.int_ (by decide +kernel) (pa_cons (pe_cmpR op_eq (pv 5) (pv 6) (nomark _)) pa_nil))) (pv 0)))) pa_nil)) pa_nil))))) (pss_one (ps_ret (pe_callTy (k_tuple K rfl) (by rfl) T.tuple_ (by decide +kernel) (pa_cons (pe_lc (own := [("row", 8)]) (g := (gName 8)) (tt := tYes) rfl sc_still_polys.nd (k_pit K rfl (pe_callC c_kernel (hr.mono (by decide)) (by rfl) (pa_cons (pe_callC c_columns_table (hr.mono (by decide)) (by rfl) (pa_cons (pv 0) (pa_cons (pv 2) (pa_cons (pv 4) pa_nil)))) pa_nil))) (blkOk_by (own := [("row", 8)]) (N := ["prime", "poly", "degree", "rests", "columns", "at", "here", "worth", "row"]) (sc := defScope st_still_polys) (by decide +kernel)) (fun _ _ _ _ _ => (pg_name (i := 8) sc_still_polys.nd rfl (by first | exact Or.inl rfl | exact Or.inr rfl))) (fun _ _ _ _ _ => pts_nil) (fun _ _ _ _ _ => (pe_callC c_trimmed (hr.mono (by decide)) (by rfl) (pa_cons (pv 8) pa_nil)))) pa_nil)))))))), ?_⟩
  obtain ⟨q, poly⟩ := x
  obtain ⟨c1, h2, l1⟩ := pre
  have c1 : IsC q poly := c1
  have h2 : 2 ≤ poly.length := h2
  have l1 : poly.length ≤ 900 := l1
  have hq := p_bd q
  have I : SI H H H _ [ii q.z, dt poly, .u, .u, .u, .u, .u, .u, .u] [] := I
  try dsimp only
  refine sq (s_set I (EvX.is (x_sub (x_lenT (x_var I rfl)) x_int) (s' := ii ((poly.length - 1 : Nat) : Int)) (by rw [lenz]; congr 2; omega)) fun σ1 H1 I1 => ?_)
  have I1 : SI H H H1 σ1 [ii q.z, dt poly, ii ((poly.length - 1 : Nat) : Int), .u, .u, .u, .u, .u, .u] [] := I1
  try dsimp only
  refine sq (s_setN I1 (n_callL (q, poly) (a_cons (x_var I1 rfl) (a_cons (x_var I1 rfl) a_nil)) ⟨c1, h2, l1⟩) fun ra σ2 H2 I2 => ?_)
  obtain ⟨pl, pr⟩ := powerRests_ok c1 h2
  have hsc : stillCols q.z poly = (List.range (poly.length - 1)).map fun (a : Nat) => (List.range ((powerRests q.z poly).getD a []).length).map fun (h : Nat) => (((powerRests q.z poly).getD a []).getD h 0 - (if a = h then 1 else 0)) % q.z := rfl
  have hsp : stillPolys q.z poly = (kernel q.z (poly.length - 1) (rowsOf (poly.length - 1) (stillCols q.z poly))).map trim := rfl
  generalize stillCols q.z poly = SC at hsc hsp
  have I2 : SI H H H2 σ2 [ii q.z, dt poly, ii ((poly.length - 1 : Nat) : Int), .r ra, .u, .u, .u, .u, .u] [(ra, .lst ((powerRests q.z poly).map dI))] := I2
  generalize powerRests q.z poly = R at I2 pl pr hsc
  have hn : (R.map dI).length = R.length := List.length_map ..
  try dsimp only
  refine sq (s_setN I2 (n_lst (ds := []) a_nil (by decide)) fun ca σ3 H3 I3 => ?_)
  have I3 : SI H H H3 σ3 [ii q.z, dt poly, ii ((poly.length - 1 : Nat) : Int), .r ra, .r ca, .u, .u, .u, .u] [(ca, .lst []), (ra, .lst (R.map dI))] := I3
  try dsimp only
  refine sq (s_for_r1 (j := 5) (a_cons (x_var I3 rfl) a_nil) (by omega) (fun i σ H' => SI H H H' σ [ii q.z, dt poly, ii ((poly.length - 1 : Nat) : Int), .r ra, .r ca, .u, .u, .u, .u]
    [(ca, .lst (((List.range i).map fun (a : Nat) => (List.range (R.getD a []).length).map fun (h : Nat) => ((R.getD a []).getD h 0 - (if a = h then 1 else 0)) % q.z).map dI)), (ra, .lst (R.map dI))]) (fun H4 e => I3.ext e) (fun i σ4 H4 hi I4 => ?_) fun σ4 H4 I4 => ?_)
  · have hi : i < poly.length - 1 := by omega
    have I5 : SI H H H4 _ [ii q.z, dt poly, ii ((poly.length - 1 : Nat) : Int), .r ra, .r ca, ii (i : Int), .u, .u, .u] _ := I4.setD 5 (Tp.int (i : Int))
    obtain ⟨p1, p2, _⟩ := pr i hi
    try dsimp only
    refine s_app (j := 0) I5 (x_ref I5 rfl) rfl (EvX.is (x_tupL (EvN.x (n_lc2 (j := 6) (k := 7) I5 (src_enumT (x_ixL (x_own (j := 1) I5 rfl (x_ref I5 rfl)) (x_var I5 rfl) (at_dI (by omega)))) (by rw [len_int]; omega) (fun (h : Nat) => .int (((R.getD i []).getD h 0 - (if decide ((i : Int) = (h : Int)) = true then 1 else 0)) % q.z)) fun h d e σ6 H6 hh hd he I6 => ?_)))
      (s' := dt ((List.range (R.getD i []).length).map fun (h : Nat) => ((R.getD i []).getD h 0 - (if i = h then 1 else 0)) % q.z)) ?_) (by rw [List.length_map, List.length_map, List.length_range]; omega) fun H6 I6 => ?_
    · obtain ⟨_, rfl⟩ := get_int' he
      obtain rfl : PyData.int (h : Int) = d := Option.some.inj hd
      exact x_mod (x_sub (x_var I6 rfl) (x_intB (x_eqI (x_var I6 rfl) (x_var I6 rfl)))) (x_var I6 rfl) (by omega)
    · rw [len_int, map_ints]
      congr 3
      refine List.map_congr_left fun a _ => ?_
      by_cases h : i = a
      · rw [if_pos h, if_pos (decide_eq_true (by omega))]
      · rw [if_neg h, if_neg (by rw [decide_eq_false (by omega)]; decide)]
    · rw [List.range_succ, List.map_append, List.map_append]
      exact I6.u 5
  · rw [Int.toNat_natCast] at I4
    rw [← hsc] at I4
    have hcl : ∀ c, c ∈ SC → c.length = poly.length - 1 ∧ Rg q c := fun c hc => by
      rw [hsc] at hc
      obtain ⟨a, ha, rfl⟩ := List.mem_map.mp hc
      obtain ⟨p1, _, _⟩ := pr a (List.mem_range.mp ha)
      exact ⟨by rw [List.length_map, List.length_range, p1], map_rg _ _⟩
    have hscl : SC.length = poly.length - 1 := by rw [hsc, List.length_map, List.length_range]
    have hker := kernel_ok (q := q) (wide := poly.length - 1) (rows := rowsOf (poly.length - 1) SC) fun r hr => by
      obtain ⟨a, _, rfl⟩ := List.mem_map.mp hr
      refine ⟨by rw [List.length_map, hscl], fun x hx => ?_⟩
      obtain ⟨c, hc, rfl⟩ := List.mem_map.mp hx
      exact (hcl c hc).2.get a
    have hx := x_kc (K := K) (E := E0) (a_cons (x_var (i := 0) I4 rfl) (a_cons (x_var (i := 2) I4 rfl) (a_cons (x_own (j := 0) I4 rfl (x_ref (i := 4) I4 rfl)) a_nil))) hcl (by omega) (by omega)
    rw [hscl] at hx
    have hkl : (kernel q.z (poly.length - 1) (rowsOf (poly.length - 1) SC)).length ≤ 10000 := by
      show (redTurns q.z (poly.length - 1) _).found.length ≤ 10000
      exact Nat.le_trans (red_bound _).2.1 (by omega)
    generalize kernel q.z (poly.length - 1) (rowsOf (poly.length - 1) SC) = KS at hx hsp hker hkl
    have hkn : (KS.map dI).length = KS.length := List.length_map ..
    try dsimp only
    refine s_ret I4 (EvX.is (x_tupL (EvN.x (n_lc1 (j := 8) I4 (src_tup hx) (by rw [hkn]; omega) (fun i => dI (KS.getD i [])) itL (fun i => dI (trim (KS.getD i []))) fun i σ5 H5 hi I5 => ?_))) ?_) k
    · have hi : i < KS.length := by rw [hkn] at hi; exact hi
      have hle : (KS.getD i []).length ≤ 100000 := by
        have := (hker.1 _ (getD_mem (d := []) hi)).1
        omega
      exact x_callF (false, KS.getD i []) (a_cons (x_var I5 rfl) a_nil) hle
    · rw [hkn, map_dIs, map_rangeL KS trim, ← hsp]
end
end Wk
end
section
set_option Elab.async false
set_option linter.all false
set_option maxRecDepth 100000
set_option maxHeartbeats 4000000
/-! The defs, one by one: simple_factors. -/
namespace Wk
open PySem PySem.Spec PyProof.Rows L2 Evl Mw
theorem parts_len {q : P6} : ∀ {L : List LI}, (∀ l, l ∈ L → Part q l) → L.length + 1 ≤ len (prodP (L.map (toP q))) ∧ prodP (L.map (toP q)) ≠ 0
  | [], _ => by
    refine ⟨?_, ?_⟩
    · show 0 + 1 ≤ len (1 : Poly (Fq q))
      rw [len_one]; exact Nat.le_refl _
    · show (1 : Poly (Fq q)) ≠ 0
      intro z
      have := len_one (F := Fq q)
      rw [z, len_zero] at this
      omega
  | l :: L, h => by
    obtain ⟨h1, h2⟩ := parts_len (q := q) (L := L) fun x hx => h x (by simp [hx])
    have hp := h l (by simp)
    have e : prodP ((l :: L).map (toP q)) = toP q l * prodP (L.map (toP q)) := rfl
    have hl : 2 ≤ len (toP q l) := by rw [hp.1.len]; exact hp.2.2
    have hm := len_mul (f := toP q l) (g := prodP (L.map (toP q))) (by omega) (len_pos h2)
    rw [e]
    refine ⟨by rw [hm, List.length_cons]; omega, fun z => ?_⟩
    rw [z, len_zero] at hm
    have := len_pos h2
    omega
theorem flatMap_len {α β : Type} {g : α → List β} {c : Nat} (h : ∀ x, (g x).length ≤ c) : ∀ L : List α, (L.flatMap g).length ≤ L.length * c
  | [] => by simp
  | x :: L => by
    have := flatMap_len h L
    have h1 := h x
    rw [List.flatMap_cons, List.length_append, List.length_cons, Nat.add_mul]
    omega
section
variable {P : Program} {w : World} {K : PySem.W.Frag} {mg : Str → Option Value} {base : Heap}
def sp_simple_factors (K : PySem.W.Frag) : Sp := spL (fun x : P6 × LI => [ii x.1.z, dt x.2]) (fun x => Part x.1 x.2 ∧ x.2.length ≤ 900) (fun x => (simpleFactors x.1.z x.2).map dI)
abbrev st_simple_factors : Stmt := topS 36
theorem sc_simple_factors : FnScope ["prime", "poly", "still", "found", "one", "later", "part", "worth", "divisor"] ["prime", "poly"] (defScope st_simple_factors) := ⟨rfl, rfl, rfl, by decide +kernel, rfl, by decide +kernel, by decide +kernel⟩
theorem ok_simple_factors {f aP : Addr} {fd : FuncData} (F : Fun K "simple_factors" "simple_factors" st_simple_factors f fd) (T : Txt K mg aP) (c_common : Cal P w K mg base "common" 3 ["prime", "one", "other"] (sp_common K)) (c_minus : Cal P w K mg base "minus" 2 ["prime", "one", "other"] (sp_minus K)) (c_trimmed : Cal P w K mg base "trimmed" 1 ["worths"] (sp_trimmed K)) (c_still_polys : Cal P w K mg base "still_polys" 5 ["prime", "poly"] (sp_still_polys K)) : FnOk P w K mg base CX0 6 f fd ["prime", "poly"] (sp_simple_factors K) := by
  refine F.ok sc_simple_factors (fun vs H Q E h => ?_) (fun cdv A outer s H vs Q E hr h => ?_)
  · exact len_of (fun x => by first | rfl | (obtain ⟨_, _⟩ := x; rfl)) h
  obtain ⟨_, _, hsd, ⟨x, rfl, rfl, pre⟩, k⟩ := h
  have I := start_ok (N := ["prime", "poly", "still", "found", "one", "later", "part", "worth", "divisor"]) hsd
  refine ⟨_, (pss_cons (ps_set (i := 2) sc_simple_factors.nd rfl (by first | exact Or.inl rfl | exact Or.inr rfl) (pe_callC c_still_polys (hr.mono (by decide)) (by rfl) (pa_cons (pv 0) (pa_cons (pv 1) pa_nil)))) (pss_cons (ps_set (i := 3) sc_simple_factors.nd rfl (by first | exact Or.inl rfl | exact Or.inr rfl) (pe_lst (pa_cons (pv 1) pa_nil))) (pss_cons (ps_for PassesOwn.never rfl (k_pit K rfl (pv 2)) (pg_name (i := 4) sc_simple_factors.nd rfl (by first | exact Or.inl rfl | exact Or.inr rfl)) (pss_cons (ps_set (i := 5) sc_simple_factors.nd rfl (by first | exact Or.inl rfl | exact Or.inr rfl) (pe_lst pa_nil)) (pss_cons (ps_for PassesOwn.never rfl (k_pil K rfl (pv 3)) (pg_name (i := 6) sc_simple_factors.nd rfl (by first | exact Or.inl rfl | exact Or.inr rfl)) (pss_one (ps_for PassesOwn.never rfl (pi_range1 (by rfl) T.range_ (pa_cons (pv 0) pa_nil)) (pg_name (i := 7) sc_simple_factors.nd rfl (by first | exact Or.inl rfl | exact Or.inr rfl)) (pss_cons (ps_set (i := 8) sc_simple_factors.nd rfl (by first | exact Or.inl rfl | exact Or.inr rfl) (pe_callC c_common (hr.mono (by decide)) (by rfl) (pa_cons (pv 0) (pa_cons (pv 6) (pa_cons (pe_callC c_minus (hr.mono (by decide)) (by rfl) (pa_cons (pv 0) (pa_cons (pv 4) (pa_cons (pe_callC c_trimmed (hr.mono (by decide)) (by rfl) (pa_cons (pe_tup (pa_cons (pv 7) pa_nil)) pa_nil)) pa_nil)))) pa_nil))))) (pss_one (ps_if (pt_cmpR op_gt (pe_callB (k_len K rfl) (by rfl) T.len_ (by decide +kernel) (pa_cons (pv 8) pa_nil)) pe_int (nomark _)) (pss_one (ps_expr (pe_bm PySem.F.plainAttrs_list PySem.F.slot_list_append PySem.F.type_list_append mt_append (pv 5) (pa_cons (pv 8) pa_nil)))) pss_nil)))))) (pss_cons (ps_set (i := 3) sc_simple_factors.nd rfl (by first | exact Or.inl rfl | exact Or.inr rfl) (pv 5)) (pss_one (ps_if (pt_cmpR op_eq (pe_callB (k_len K rfl) (by rfl) T.len_ (by decide +kernel) (pa_cons (pv 3) pa_nil)) (pe_callB (k_len K rfl) (by rfl) T.len_ (by decide +kernel) (pa_cons (pv 2) pa_nil)) (nomark _)) (pss_one (ps_ret (pv 3))) pss_nil)))))) (pss_one (ps_ret (pv 3)))))), ?_⟩
  obtain ⟨q, poly⟩ := x
  obtain ⟨c1, l1⟩ := pre
  have c1 : Part q poly := c1
  have l1 : poly.length ≤ 900 := l1
  have hq := p_bd q
  have hqz : q.z.toNat ≤ 13 := by omega
  have I : SI H H H _ [ii q.z, dt poly, .u, .u, .u, .u, .u, .u, .u] [] := I
  try dsimp only
  refine sq (s_set I (x_callF (q, poly) (a_cons (x_var I rfl) (a_cons (x_var I rfl) a_nil)) ⟨c1.1, c1.2.2, l1⟩) fun σ1 H1 I1 => ?_)
  obtain ⟨hS, _⟩ := still_ok c1.1 c1.2.2
  have hsf : simpleFactors q.z poly = simpleGo q.z (stillPolys q.z poly).length (stillPolys q.z poly) [poly] := rfl
  have I1 : SI H H H1 σ1 [ii q.z, dt poly, .d (dts (stillPolys q.z poly)), .u, .u, .u, .u, .u, .u] [] := I1
  generalize stillPolys q.z poly = S at I1 hS hsf
  try dsimp only
  refine sq (s_setN I1 (n_lst (ds := [dI poly]) (a_cons (x_var I1 rfl) a_nil) (by show 1 ≤ 100000; decide)) fun f0 σ2 H2 I2 => ?_)
  have I2 : SI H H H2 σ2 [ii q.z, dt poly, .d (dts S), .r f0, .u, .u, .u, .u, .u] [(f0, .lst ([poly].map dI))] := I2
  try dsimp only
  refine sq (s_for_tup (g := gName 4) I2 (x_var I2 rfl) (fun B i σ H' => ∃ (F : List LI) (fa : Addr), simpleGo q.z S.length (S.drop i) F = simpleFactors q.z poly ∧ Parts q (toP q poly) F ∧ SI H B H' σ [ii q.z, dt poly, .d (dts S), .r fa, .u, .u, .u, .u, .u] [(fa, .lst (F.map dI))])
    (fun H3 t I3 => ⟨[poly], f0, hsf.symm, ⟨fun l hl => by rw [List.mem_singleton.mp hl]; exact c1, by show toP q poly * 1 = _; grind⟩, I3⟩) (fun B i σ H' p => by obtain ⟨F, fa, _, _, I3⟩ := p; exact I3.tb) (fun B i d v σ3 H3 hd p hv => ?_) fun B σ3 H3 p => ?_)
  · obtain ⟨hi, rfl⟩ := get_dI' hd
    obtain ⟨F, fa, hgo, hP, I3⟩ := p
    have hdrop : S.drop i = S.getD i [] :: S.drop (i + 1) := by
      rw [List.drop_eq_getElem_cons hi, List.getD_eq_getElem?_getD, List.getElem?_eq_getElem hi]; rfl
    have hone := hS _ (getD_mem (d := []) hi)
    generalize S.getD i [] = one at hv hdrop hone
    have I4 : SI H B H3 _ [ii q.z, dt poly, .d (dts S), .r fa, dt one, .u, .u, .u, .u] [(fa, .lst (F.map dI))] := I3.setD 4 hv
    have hF : F.length ≤ 900 := by
      have := (parts_len hP.part).1
      rw [hP.prod, c1.1.len] at this
      omega
    have hsb : ∀ part, (splitBy q.z one part).length ≤ 13 := fun part => by
      refine Nat.le_trans (List.length_filter_le _ _) ?_
      rw [List.length_map, List.length_range]; exact hqz
    show tSeq _ _ _ _ _
    try dsimp only
    refine sq (s_setN I4 (n_lst (ds := []) a_nil (by decide)) fun la σ5 H5 I5 => ?_)
    have I5 : SI H B H5 σ5 [ii q.z, dt poly, .d (dts S), .r fa, dt one, .r la, .u, .u, .u] [(la, .lst []), (fa, .lst (F.map dI))] := I5
    try dsimp only
    refine sq (s_for_own (g := gName 6) (ds := F.map dI) (x_ref I5 rfl) (fun j σ H' => SI H B H' σ [ii q.z, dt poly, .d (dts S), .r fa, dt one, .r la, .u, .u, .u] [(la, .lst (((F.take j).flatMap (splitBy q.z one)).map dI)), (fa, .lst (F.map dI))]) (fun H6 e => I5.ext e) (fun j σ H' I6 => I6.at (j := 1) rfl)
      (fun j d v σ6 H6 hd2 I6 hv2 => ?_) fun σ6 H6 I6 => ?_)
    · obtain ⟨hj, rfl⟩ := get_dI' hd2
      have hpart := hP.part _ (getD_mem (d := []) hj)
      have htake : F.take (j + 1) = F.take j ++ [F.getD j []] := by
        rw [List.take_add_one, List.getD_eq_getElem?_getD, List.getElem?_eq_getElem hj]; rfl
      have hdn : ((F.take j).flatMap (splitBy q.z one)).length ≤ 900 * 13 := by
        refine Nat.le_trans (flatMap_len hsb _) ?_
        rw [List.length_take]
        exact Nat.mul_le_mul_right _ (by omega)
      have hpl : (F.getD j []).length ≤ 900 := by
        have := (Dv.len (hP.dv (getD_mem (d := []) hj)) c1.2.1.ne).1
        rw [hpart.1.len, c1.1.len] at this
        omega
      generalize F.getD j [] = part at hv2 hpart htake hpl
      generalize hdone : (F.take j).flatMap (splitBy q.z one) = done at I6 hdn
      have I7 : SI H B H6 _ [ii q.z, dt poly, .d (dts S), .r fa, dt one, .r la, dt part, .u, .u] [(la, .lst (done.map dI)), (fa, .lst (F.map dI))] := I6.setD 6 hv2
      have hpne : part ≠ [] := fun e => by have := hpart.2.2; rw [e] at this; simp at this
      show tFor _ _ _ _ _ _
      try dsimp only
      refine s_for_r1 (j := 7) (a_cons (x_var I7 rfl) a_nil) (by omega) (fun n σ H' => SI H B H' σ [ii q.z, dt poly, .d (dts S), .r fa, dt one, .r la, dt part, .u, .u]
        [(la, .lst ((done ++ ((List.range n).map fun (w : Nat) => common q.z part (minus q.z one (trim [(w : Int)]))).filter fun d => decide (1 < d.length)).map dI)), (fa, .lst (F.map dI))]) (fun H8 e => by simpa using I7.ext e) (fun n σ8 H8 hn I8 => ?_) fun σ8 H8 I8 => ?_
      · have I9 : SI H B H8 _ [ii q.z, dt poly, .d (dts S), .r fa, dt one, .r la, dt part, ii (n : Int), .u] _ := I8.setD 7 (Tp.int (n : Int))
        have hmn := toP_minus (q := q) one (trim [(n : Int)])
        have hml : (minus q.z one (trim [(n : Int)])).length ≤ 10000 := by
          unfold minus
          refine Nat.le_trans (trim_le _) ?_
          rw [List.length_map, List.length_range]
          have := trim_le [(n : Int)]
          have h1 : [(n : Int)].length = 1 := rfl
          omega
        have h1k : ([(n : Int)] : LI).length ≤ 100000 := by show 1 ≤ 100000; decide
        have hol : one.length ≤ 10000 := by omega
        have htl : (trim [(n : Int)]).length ≤ 10000 := Nat.le_trans (trim_le _) (by show 1 ≤ 10000; decide)
        have hpl2 : part.length ≤ 10000 := by omega
        try dsimp only
        refine sq (s_set I9 (x_callF (q, part, minus q.z one (trim [(n : Int)])) (a_cons (x_var I9 rfl) (a_cons (x_var I9 rfl) (a_cons (x_callF (q, one, trim [(n : Int)]) (a_cons (x_var I9 rfl) (a_cons (x_var I9 rfl) (a_cons (x_callF (false, [(n : Int)]) (a_cons (x_tup (ds := [.int (n : Int)]) (a_cons (x_var I9 rfl) a_nil) (by show 1 ≤ 100000; decide)) a_nil) h1k) a_nil))) ⟨hol, htl⟩) a_nil)))
          ⟨hpart.1, hmn.2, .inl hpne, hpl2, hml⟩) fun σ10 H10 I10 => ?_)
        generalize hdv : common q.z part (minus q.z one (trim [(n : Int)])) = dv at I10
        have ef : ((List.range (n + 1)).map fun (w : Nat) => common q.z part (minus q.z one (trim [(w : Int)]))).filter (fun d => decide (1 < d.length)) = ((List.range n).map fun (w : Nat) => common q.z part (minus q.z one (trim [(w : Int)]))).filter (fun d => decide (1 < d.length)) ++ [dv].filter (fun d => decide (1 < d.length)) := by
          rw [List.range_succ, List.map_append, List.filter_append, ← hdv]; rfl
        rw [ef]
        have hfl : (((List.range n).map fun (w : Nat) => common q.z part (minus q.z one (trim [(w : Int)]))).filter fun d => decide (1 < d.length)).length ≤ n := by
          refine Nat.le_trans (List.length_filter_le _ _) ?_
          rw [List.length_map, List.length_range]; exact Nat.le_refl _
        generalize ((List.range n).map fun (w : Nat) => common q.z part (minus q.z one (trim [(w : Int)]))).filter (fun d => decide (1 < d.length)) = some_ at I10 hfl
        have I10 : SI H B H10 σ10 [ii q.z, dt poly, .d (dts S), .r fa, dt one, .r la, dt part, ii (n : Int), dt dv] [(la, .lst ((done ++ some_).map dI)), (fa, .lst (F.map dI))] := I10
        try dsimp only
        refine s_when (b := decide (1 < (dv.length : Int))) I10 (t_B (EvX.is (x_gt (x_lenT (x_var I10 rfl)) x_int) (by rw [lenz]))) (fun hb H11 I11 => ?_) fun hb H11 I11 => ?_
        · try dsimp only
          refine s_app (j := 0) I11 (x_ref I11 rfl) rfl (x_var I11 rfl) (by rw [List.length_map, List.length_append]; omega) fun H12 I12 => ?_
          have h1 : 1 < dv.length := by have := of_decide_eq_true hb; omega
          have e2 : ([dv].filter fun d => decide (1 < d.length)) = [dv] := by rw [List.filter_cons, if_pos (decide_eq_true h1)]; rfl
          rw [e2, ← List.append_assoc, List.map_append]
          exact (I12.u 7).u 8
        · have h1 : ¬ 1 < dv.length := by have := of_decide_eq_false hb; omega
          have e2 : ([dv].filter fun d => decide (1 < d.length)) = [] := by rw [List.filter_cons, if_neg (by simpa using h1)]; rfl
          rw [e2, List.append_nil]
          exact (I11.u 7).u 8
      · have e3 : (F.take (j + 1)).flatMap (splitBy q.z one) = done ++ splitBy q.z one part := by
          rw [htake, List.flatMap_append, hdone, List.flatMap_cons, List.flatMap_nil, List.append_nil]
        show SI H B H8 σ8 _ _
        rw [e3]
        exact I8.u 6
    · rw [List.length_map, List.take_length] at I6
      have hP2 := (splitAll_ok hone.1 hone.2.2 hP).1
      have hF2 : (splitAll q.z one F).length ≤ 900 := by
        have := (parts_len hP2.part).1
        rw [hP2.prod, c1.1.len] at this
        omega
      have hgo2 : simpleGo q.z S.length (S.drop i) F = if (splitAll q.z one F).length = S.length then splitAll q.z one F else simpleGo q.z S.length (S.drop (i + 1)) (splitAll q.z one F) := by rw [hdrop, simpleGo]
      have I6 : SI H B H6 σ6 [ii q.z, dt poly, .d (dts S), .r fa, dt one, .r la, .u, .u, .u] [(la, .lst ((splitAll q.z one F).map dI)), (fa, .lst (F.map dI))] := I6
      generalize splitAll q.z one F = G at I6 hP2 hgo2
      try dsimp only
      refine sq (s_setR I6 (x_ref (p := la) I6 rfl) fun σ7 H7 I7 => ?_)
      have I7 : SI H B H7 σ7 [ii q.z, dt poly, .d (dts S), .r la, dt one, .r la, .u, .u, .u] [(la, .lst (G.map dI)), (fa, .lst (F.map dI))] := I7
      try dsimp only
      refine s_when (b := decide (G.length = S.length)) I7 (t_B (EvX.is (x_eqI (x_lenL (x_own (j := 0) I7 rfl (x_ref I7 rfl))) (x_lenT (x_var I7 rfl))) (by rw [List.length_map, List.length_map]; congr 2; exact decide_eq_decide.mpr ⟨fun z => by omega, fun z => by omega⟩))) (fun hb H8 I8 => ?_) fun hb H8 I8 => ?_
      · have e : G.length = S.length := of_decide_eq_true hb
        rw [if_pos e] at hgo2
        have e2 : G = simpleFactors q.z poly := by rw [← hgo2, hgo]
        rw [e2] at I8
        try dsimp only
        exact s_retO (j := 0) I8 (x_ref I8 rfl) rfl k
      · have e : ¬ G.length = S.length := of_decide_eq_false hb
        rw [if_neg e] at hgo2
        exact ⟨G, la, by rw [← hgo2, hgo], hP2, ((I8.sub (.cons₂ _ (.cons _ .slnil))).u 4).u 5⟩
  · obtain ⟨F, fa, hgo, hP, I3⟩ := p
    rw [List.length_map, List.drop_length] at hgo
    have e2 : F = simpleFactors q.z poly := hgo
    rw [e2] at I3
    try dsimp only
    exact s_retO (j := 0) I3 (x_ref I3 rfl) rfl k
end
end Wk
end
section
set_option Elab.async false
set_option linter.all false
set_option maxRecDepth 100000
set_option maxHeartbeats 4000000
/-! The defs, one by one: raw_factors, factors. -/
namespace Wk
open PySem PySem.Spec PyProof.Rows L2 Evl Mw
theorem rgc_pos {n c : Nat} (hc : 1 ≤ c) (hc2 : c ≤ 1000) (hn : n ≤ 100000) : RgC 0 (n : Int) (c : Int) ((n + c - 1) / c) := by
  have hs : Builtin.Range.rangeSize 0 (n : Int) (c : Int) = (((n + c - 1) / c : Nat) : Int) := by
    rw [rangeSize_pos (by omega) (by omega), Int.natCast_ediv]
    congr 1
    omega
  have hle : (n + c - 1) / c ≤ n + c := Nat.le_trans (Nat.div_le_self _ _) (by omega)
  refine ⟨by omega, by omega, ?_, hs⟩
  unfold Builtin.Range.small
  rw [hs]
  simp only [Builtin.Range.rangeFitsLong, Bool.and_eq_true, Bool.or_eq_true, decide_eq_true_eq, beq_iff_eq]
  generalize (n + c - 1) / c = m at hle
  refine ⟨⟨⟨⟨?_, ?_⟩, ?_⟩, ?_⟩, .inr ?_⟩
  · omega
  · omega
  · omega
  · omega
  · rw [if_pos (by omega)]
    simp only [Bool.and_eq_true, decide_eq_true_eq]
    omega
theorem EvAs.is {ta : TA} {σ : L2.St} {H : Hp} {ss ss' : List Sl} (h : EvAs ta σ H ss) (e : ss = ss') : EvAs ta σ H ss' := e ▸ h
theorem timesInF_le (p : Int) (factor : LI) : ∀ (n : Nat) (poly : LI) (many : Nat), (timesInF p factor n poly many).1 ≤ many + n
  | 0, _, _ => Nat.le_refl _
  | n + 1, poly, many => by
    rw [timesInF]
    split
    · have := timesInF_le p factor n (divided p poly factor).1 (many + 1)
      omega
    · exact Nat.le_add_right _ _
section
variable {K : PySem.W.Frag} {H : Hp} {σ : L2.St}
theorem src_r3 {ta : TA} {n c : Nat} (h : EvAs ta σ H [ii 0, ii (n : Int), ii (c : Int)]) (hc : 1 ≤ c) (hc2 : c ≤ 1000) (hn : n ≤ 100000) : Src (iRng3 ta) σ H ((n + c - 1) / c) (fun i x _ => x = .int ((i * c : Nat) : Int)) := fun H1 e1 R r => h H1 e1 _ fun vs H2 e2 hv => by
  have ht : TpL H2 vs [.int 0, .int n, .int c] := SD.tpl (ds := [.int 0, .int n, .int c]) hv
  match vs, ht with
  | [_, _, _], .cons (.int _) (.cons (.int _) (.cons (.int _) _)) =>
    refine ⟨0, n, c, _, rfl, rgc_pos hc hc2 hn, r _ H2 _ _ e2 walk_rangeC (fun _ _ => trivial) fun i H3 x H4 hi e3 y => ?_⟩
    obtain ⟨rfl, rfl⟩ := y
    refine ⟨Ex.refl _, ?_⟩
    show V.int ((0 : Int) + (i : Nat) * (c : Int)) = V.int ((i * c : Nat) : Int)
    rw [Int.zero_add, Int.natCast_mul]
end
theorem find_at : ∀ {m : Dic} {i : Nat} {p : LI × Int}, (m.map (·.1)).Nodup → m[i]? = some p → m.find? (fun kv => decide (kv.1 = p.1)) = some p
  | [], i, p, _, h => by simp at h
  | x :: m, 0, p, _, h => by
    have e : x = p := Option.some.inj h
    subst e
    rw [List.find?_cons, decide_eq_true rfl]
  | x :: m, i + 1, p, nd, h => by
    have h : m[i]? = some p := h
    rw [List.map_cons, List.nodup_cons] at nd
    have hne : ¬ x.1 = p.1 := fun e => nd.1 (e ▸ List.mem_map.mpr ⟨p, List.mem_of_getElem? h, rfl⟩)
    rw [List.find?_cons, decide_eq_false hne]
    exact find_at nd.2 h
theorem putD_le (m : Dic) (k : LI) (v : Int) : (putDic m k v).length ≤ m.length + 1 := by
  unfold putDic
  split
  · rw [List.length_map]; exact Nat.le_succ _
  · rw [List.length_append]; exact Nat.le_refl _
theorem takes_le (p sc : Int) : ∀ (L : List LI) (s : LI × Dic), (L.foldl (takeOut p sc) s).2.length ≤ s.2.length + L.length
  | [], s => Nat.le_refl _
  | l :: L, s => by
    have := takes_le p sc L (takeOut p sc s l)
    have h1 : (takeOut p sc s l).2.length ≤ s.2.length + 1 := putD_le _ _ _
    rw [List.foldl_cons, List.length_cons]
    omega
section
variable {P : Program} {w : World} {K : PySem.W.Frag} {mg : Str → Option Value} {base : Heap}
def sp_raw_factors (K : PySem.W.Frag) : Sp := spF (fun x : P6 × LI => [ii x.1.z, dt x.2]) (fun x => IsC x.1 x.2 ∧ x.2 ≠ [] ∧ x.2.length ≤ 100) (fun x => dPs (rawFactors x.1.z x.2))
abbrev st_raw_factors : Stmt := topS 38
theorem sc_raw_factors : FnScope ["prime", "poly", "left", "scale", "found", "rise", "simple", "factor", "many", "at"] ["prime", "poly"] (defScope st_raw_factors) := ⟨rfl, rfl, rfl, by decide +kernel, rfl, by decide +kernel, by decide +kernel⟩
theorem ok_raw_factors {f aP : Addr} {fd : FuncData} (F : Fun K "raw_factors" "raw_factors" st_raw_factors f fd) (T : Txt K mg aP) (c_simple_factors : Cal P w K mg base "simple_factors" 6 ["prime", "poly"] (sp_simple_factors K)) (c_times_in : Cal P w K mg base "times_in" 3 ["prime", "poly", "factor"] (sp_times_in K)) (c_divided : Cal P w K mg base "divided" 2 ["prime", "one", "other"] (sp_divided K)) (c_common : Cal P w K mg base "common" 3 ["prime", "one", "other"] (sp_common K)) (c_slope : Cal P w K mg base "slope" 2 ["prime", "poly"] (sp_slope K)) (c_monic : Cal P w K mg base "monic" 2 ["prime", "poly"] (sp_monic K)) : FnOk P w K mg base CX0 7 f fd ["prime", "poly"] (sp_raw_factors K) := by
  refine F.ok sc_raw_factors (fun vs H Q E h => ?_) (fun cdv A outer s H vs Q E hr h => ?_)
  · exact len_of (fun x => by first | rfl | (obtain ⟨_, _⟩ := x; rfl)) h
  obtain ⟨_, _, hsd, ⟨x, rfl, rfl, pre⟩, k⟩ := h
  have I := start_ok (N := ["prime", "poly", "left", "scale", "found", "rise", "simple", "factor", "many", "at"]) hsd
  refine ⟨_, (pss_cons (ps_asg (pe_tup (pa_cons (pe_callC c_monic (hr.mono (by decide)) (by rfl) (pa_cons (pv 0) (pa_cons (pv 1) pa_nil))) (pa_cons pe_int (pa_cons pe_dnewT pa_nil)))) (pg_tup (by rfl) (pgs_cons (pg_name (i := 2) sc_raw_factors.nd rfl (by first | exact Or.inl rfl | exact Or.inr rfl)) (pgs_cons (pg_name (i := 3) sc_raw_factors.nd rfl (by first | exact Or.inl rfl | exact Or.inr rfl)) (pgs_cons (pg_name (i := 4) sc_raw_factors.nd rfl (by first | exact Or.inl rfl | exact Or.inr rfl)) pgs_nil))))) (pss_cons (ps_while PassesOwn.never (pt_cmpR op_gt (pe_callB (k_len K rfl) (by rfl) T.len_ (by decide +kernel) (pa_cons (pv 2) pa_nil)) pe_int (nomark _)) (pss_cons (ps_set (i := 5) sc_raw_factors.nd rfl (by first | exact Or.inl rfl | exact Or.inr rfl) (pe_callC c_slope (hr.mono (by decide)) (by rfl) (pa_cons (pv 0) (pa_cons (pv 2) pa_nil)))) (pss_one (ps_if (pt_cmpR (k_eqD K rfl hr.units) (pv 5) (pe_tup pa_nil) (nomark _)) (pss_one (ps_asg (pe_tup (pa_cons (pe_callTy (k_tuple K rfl) (by rfl) T.tuple_ (by decide +kernel) (pa_cons (pe_lc (own := [("at", 9)]) (g := (gName 9)) (tt := tYes) rfl sc_raw_factors.nd (pi_range3 (by rfl) T.range_ (pa_cons pe_int (pa_cons (pe_callB (k_len K rfl) (by rfl) T.len_ (by decide +kernel) (pa_cons (pv 2) pa_nil)) (pa_cons (pv 0) pa_nil)))) (blkOk_by (own := [("at", 9)]) (N := ["prime", "poly", "left", "scale", "found", "rise", "simple", "factor", "many", "at"]) (sc := defScope st_raw_factors) (by decide +kernel)) (fun _ _ _ _ _ => (pg_name (i := 9) sc_raw_factors.nd rfl (by first | exact Or.inl rfl | exact Or.inr rfl))) (fun _ _ _ _ _ => pts_nil) (fun _ _ _ _ _ => (pe_ix (k_ixT K rfl) (pv 2) (pv 9) (fun _ _ => rfl)))) pa_nil)) (pa_cons (pe_op op_mul (pv 3) (pv 0)) pa_nil))) (pg_tup (by rfl) (pgs_cons (pg_name (i := 2) sc_raw_factors.nd rfl (by first | exact Or.inl rfl | exact Or.inr rfl)) (pgs_cons (pg_name (i := 3) sc_raw_factors.nd rfl (by first | exact Or.inl rfl | exact Or.inr rfl)) pgs_nil))))) (pss_cons (ps_set (i := 6) sc_raw_factors.nd rfl (by first | exact Or.inl rfl | exact Or.inr rfl) (pe_ix (k_ixT K rfl) (pe_callC c_divided (hr.mono (by decide)) (by rfl) (pa_cons (pv 0) (pa_cons (pv 2) (pa_cons (pe_callC c_common (hr.mono (by decide)) (by rfl) (pa_cons (pv 0) (pa_cons (pv 2) (pa_cons (pv 5) pa_nil)))) pa_nil)))) pe_int (fun _ _ => rfl))) (pss_one (ps_for PassesOwn.never rfl (k_pil K rfl (pe_callC c_simple_factors (hr.mono (by decide)) (by rfl) (pa_cons (pv 0) (pa_cons (pv 6) pa_nil)))) (pg_name (i := 7) sc_raw_factors.nd rfl (by first | exact Or.inl rfl | exact Or.inr rfl)) (pss_cons (ps_asg (pe_callC c_times_in (hr.mono (by decide)) (by rfl) (pa_cons (pv 0) (pa_cons (pv 2) (pa_cons (pv 7) pa_nil)))) (pg_tup (by rfl) (pgs_cons (pg_name (i := 8) sc_raw_factors.nd rfl (by first | exact Or.inl rfl | exact Or.inr rfl)) (pgs_cons (pg_name (i := 2) sc_raw_factors.nd rfl (by first | exact Or.inl rfl | exact Or.inr rfl)) pgs_nil)))) (pss_one (ps_dput (hu_of hr) (pv 4) (pv 7) (pe_op op_add (pe_dget2 (hu_of hr) (pv 4) (pv 7) pe_int ⟨rfl, rfl, rfl, rfl⟩) (pe_op op_mul (pv 8) (pv 3))) rfl)))))))))) (pss_one (ps_ret (pe_callTy (k_tuple K rfl) (by rfl) T.tuple_ (by decide +kernel) (pa_cons (pe_callB (k_sort K rfl hr.units) (by rfl) T.sorted_ (by decide +kernel) (pa_cons (pe_lock (pe_lc (own := [("factor", 7)]) (g := (gName 7)) (tt := tYes) rfl sc_raw_factors.nd (pi_keys (pv 4)) (blkOk_by (own := [("factor", 7)]) (N := ["prime", "poly", "left", "scale", "found", "rise", "simple", "factor", "many", "at"]) (sc := defScope st_raw_factors) (by decide +kernel)) (fun _ _ _ _ _ => (pg_name (i := 7) sc_raw_factors.nd rfl (by first | exact Or.inl rfl | exact Or.inr rfl))) (fun _ _ _ _ _ => pts_nil) (fun _ _ _ _ _ => (pe_tup (pa_cons (pv 7) (pa_cons (pe_dget (hu_of hr) (pv 4) (pv 7) (fun _ _ => rfl)) pa_nil)))))) pa_nil)) pa_nil)))))), ?_⟩
  obtain ⟨q, poly⟩ := x
  obtain ⟨c1, hne, l1⟩ := pre
  have c1 : IsC q poly := c1
  have hne : poly ≠ [] := hne
  have l1 : poly.length ≤ 100 := l1
  have hq := p_bd q
  have hqz : q.z.toNat = q.n := by show ((q.n : Int)).toNat = _; omega
  have hqn : q.n ≤ 13 := q.most
  have hq2 : 2 ≤ q.n := q.two
  have I : SI H H H _ [ii q.z, dt poly, .u, .u, .u, .u, .u, .u, .u, .u] [] := I
  obtain ⟨m1, m2, m3⟩ := monic_ok c1 hne
  have l10 : poly.length ≤ 10000 := by omega
  try dsimp only
  refine sq (s_tup3 I (x_callF (q, poly) (a_cons (x_var I rfl) (a_cons (x_var I rfl) a_nil)) ⟨hne, l10⟩) x_int fun d σ1 H1 I1 => ?_)
  have I1 : SI H H H1 σ1 [ii q.z, dt poly, dt (monic q.z poly), ii 1, .r d, .u, .u, .u, .u, .u] [(d, .raw (.dT (dtK [])))] := I1
  have hrd : rawDic q.z poly = rawF q.z poly.length (monic q.z poly) 1 [] := rfl
  have hrf : rawFactors q.z poly = (rawDic q.z poly).mergeSort leP := rfl
  have hgood := (rawDic_ok c1 hne).1
  try dsimp only
  refine sq (s_while (fun m σ' H' => ∃ (left : LI) (sc n : Nat) (found : Dic), left.length = m ∧ left.length ≤ n ∧ left.length ≤ 100 ∧ IsC q left ∧ Mon (toP q left) ∧ GoodD q found ∧ 1 ≤ sc ∧ found.length + 100 * left.length ≤ 100 * poly.length ∧ rawF q.z n left (sc : Int) found = rawDic q.z poly ∧
      SI H H H' σ' [ii q.z, dt poly, dt left, ii (sc : Int), .r d, .u, .u, .u, .u, .u] [(d, .raw (.dT (dtK found)))]) (monic q.z poly).length
    ⟨monic q.z poly, 1, poly.length, [], rfl, by omega, by omega, m1, m2, GoodD.nil, Nat.le_refl _, by rw [m3]; simp, hrd.symm, I1⟩ fun m σ2 H2 ⟨left, sc, n, found, hm, hn, hl, cl, ml, gf, hsc, hfl, he, I2⟩ => ?_)
  refine ⟨decide (1 < (left.length : Int)), t_B (EvX.is (x_gt (x_lenT (x_var I2 rfl)) x_int) (by rw [lenz])), fun hb H3 e3 => ?_, fun hb H3 e3 => ?_⟩
  · have h1 : 1 < left.length := by have := of_decide_eq_true hb; omega
    have I3 := I2.ext e3
    have lne : left ≠ [] := fun z => by rw [z] at h1; simp at h1
    cases n with
    | zero => omega
    | succ n =>
      rw [rawF, if_pos h1] at he
      refine ⟨fun σ' H' => ∃ (left' : LI) (sc' : Nat) (found' : Dic), left'.length < left.length ∧ IsC q left' ∧ Mon (toP q left') ∧ GoodD q found' ∧ 1 ≤ sc' ∧ found'.length + 100 * left'.length ≤ 100 * poly.length ∧ rawF q.z n left' (sc' : Int) found' = rawDic q.z poly ∧
        SI H H H' σ' [ii q.z, dt poly, dt left', ii (sc' : Int), .r d, .u, .u, .u, .u, .u] [(d, .raw (.dT (dtK found')))], fun σ4 H4 ⟨left', sc', found', a1, a2, a3, a4, a5, a6, a7, I4⟩ => ⟨left'.length, by omega, left', sc', n, found', rfl, by omega, by omega, a2, a3, a4, a5, a6, a7, I4⟩, ?_⟩
      have hl10 : left.length ≤ 10000 := by omega
      try dsimp only
      refine sq (s_set I3 (x_callF (q, left) (a_cons (x_var I3 rfl) (a_cons (x_var I3 rfl) a_nil)) ⟨cl.1, hl10⟩) fun σ4 H4 I4 => ?_)
      have I4 : SI H H H4 σ4 [ii q.z, dt poly, dt left, ii (sc : Int), .r d, dt (slope q.z left), .u, .u, .u, .u] [(d, .raw (.dT (dtK found)))] := I4
      try dsimp only
      refine s_if (b := decide (slope q.z left = [])) I4 (t_B (x_isE (x_var I4 rfl) x_e)) (fun hs H5 I5 => ?_) fun hs H5 I5 => ?_
      · have hs : slope q.z left = [] := of_decide_eq_true hs
        rw [if_pos hs] at he
        obtain ⟨e1, e2, e4, _⟩ := everyPth_ok cl ml h1 hs
        have hsrc := src_r3 (n := left.length) (c := q.n) (EvAs.is (a_cons (x_int (n := 0)) (a_cons (x_lenT (K := K) (x_var (i := 2) I5 rfl)) (a_cons (x_var (i := 0) I5 rfl) a_nil))) (by rw [lenz])) (by omega) (by omega) (by omega)
        try dsimp only
        refine s_pair I5 (x_tup (ds := [dI (everyPth q.z left), .int ((sc : Int) * q.z)]) (a_cons (EvX.is (x_tupL (EvN.x (n_lc1 (j := 9) I5 hsrc (Nat.le_trans (Nat.div_le_self _ _) (by omega)) (fun i => .int ((i * q.n : Nat) : Int)) (fun i x H' _ e => by rw [e]; exact .int _) (fun i => .int (left.getD (i * q.n) 0)) fun i σ6 H6 hi I6 => ?_))) ?_)
          (a_cons (x_mul (x_var I5 rfl) (x_var I5 rfl) (.inr (by omega))) a_nil)) (by show 2 ≤ 100000; decide)) fun σ6 H6 I6 => ?_
        · have hi2 : i * q.n < left.length := by
            have h9 : i + 1 ≤ (left.length + q.n - 1) / q.n := hi
            have := (Nat.le_div_iff_mul_le (by omega)).mp h9
            rw [Nat.add_mul] at this
            omega
          exact x_ixT (x_var I6 rfl) (x_var I6 rfl) (at_int hi2)
        · rw [map_ints]
          unfold everyPth
          rw [hqz]
        · refine ⟨everyPth q.z left, sc * q.n, found, e4, e1, e2, gf, Nat.le_trans hsc (Nat.le_mul_of_pos_right _ (by omega)), by omega, ?_, ?_⟩
          · rw [Int.natCast_mul]; exact he
          · rw [Int.natCast_mul]
            exact I6.u 5
      · have hs : slope q.z left ≠ [] := of_decide_eq_false hs
        rw [if_neg hs] at he
        obtain ⟨p1, p2, p3, p4, p5⟩ := simple_ok cl ml hs
        obtain ⟨f1, f2⟩ := simpleFactors_ok p1 p2
        have hsl := (toP_slope (q := q) left).2
        have hsll : (slope q.z left).length ≤ 10000 := by
          unfold slope
          refine Nat.le_trans (trim_le _) ?_
          rw [List.length_drop, List.length_map, List.length_range]; omega
        have hcl : (common q.z left (slope q.z left)).length ≤ 10000 := by
          have h7 := (common_ok cl hsl (.inl lne)).2
          have := (Dv.len h7.2.1 ml.ne).1
          rw [p4.len, cl.len] at this
          omega
        have hl20 : left.length ≤ 20000 := by omega
        try dsimp only
        refine sq (s_set I5 (x_ixT (x_callF (q, left, common q.z left (slope q.z left)) (a_cons (x_var I5 rfl) (a_cons (x_var I5 rfl) (a_cons (x_callF (q, left, slope q.z left) (a_cons (x_var I5 rfl) (a_cons (x_var I5 rfl) (a_cons (x_var I5 rfl) a_nil))) ⟨cl, hsl, .inl lne, hl10, hsll⟩) a_nil))) ⟨cl.1, p4.1, p5, hl20, hcl⟩) x_int rfl) fun σ6 H6 I6 => ?_)
        have hspl : (divided q.z left (common q.z left (slope q.z left))).1.length ≤ left.length := by
          have := (Dv.len p3 ml.ne).1
          rwa [p1.1.len, cl.len] at this
        simp only at he
        generalize (divided q.z left (common q.z left (slope q.z left))).1 = simple at I6 p1 p2 p3 f1 f2 he hspl
        have I6 : SI H H H6 σ6 [ii q.z, dt poly, dt left, ii (sc : Int), .r d, dt (slope q.z left), dt simple, .u, .u, .u] [(d, .raw (.dT (dtK found)))] := I6
        have hLl := (parts_len f1.part).1
        rw [f1.prod, p1.1.len] at hLl
        have hLne : simpleFactors q.z simple ≠ [] := fun e => by
          have := f1.prod
          rw [e] at this
          have h3 : len (toP q simple) = 1 := by rw [← this]; exact len_one
          rw [p1.1.len] at h3
          have := p1.2.2
          omega
        have nd : ((simpleFactors q.z simple).map (toP q)).Nodup := SqF.nodup (by rw [f1.prod]; exact p2) fun x hx => by
          obtain ⟨l, hl, rfl⟩ := List.mem_map.mp hx
          rw [(f1.part l hl).1.len]; exact (f1.part l hl).2.2
        have hsp9 : simple.length ≤ 900 := by omega
        have hnew := n_callL (σ := σ6) (H := H6) (E := E0) (args := fun x : P6 × LI => [ii x.1.z, dt x.2]) (pre := fun x => Part x.1 x.2 ∧ x.2.length ≤ 900) (res := fun x => (simpleFactors x.1.z x.2).map dI) (q, simple) (a_cons (x_var (i := 0) I6 rfl) (a_cons (x_var (i := 6) I6 rfl) a_nil)) ⟨p1, hsp9⟩
        have hnew : EvN _ σ6 H6 ((simpleFactors q.z simple).map dI) := hnew
        generalize simpleFactors q.z simple = L at hnew he f1 f2 hLl hLne nd
        have hpart : ∀ i, ∀ l, l ∈ L.take i → Part q l ∧ Irr (toP q l) := fun i l hl => ⟨f1.part l (List.mem_of_mem_take hl), f2 l (List.mem_of_mem_take hl)⟩
        have hstep := fun i => takeAll_ok (q := q) hsc (L.take i) left found (hpart i) (nd.sublist ((List.take_sublist i L).map _)) cl ml gf fun l hl => (f1.dv (List.mem_of_mem_take hl)).trans p3
        try dsimp only
        refine s_for_new (g := gName 7) I6 hnew (fun p i σ H' => SI H H H' σ [ii q.z, dt poly, dt ((L.take i).foldl (takeOut q.z (sc : Int)) (left, found)).1, ii (sc : Int), .r d, dt (slope q.z left), dt simple, .u, .u, .u] [(p, .lst (L.map dI)), (d, .raw (.dT (dtK ((L.take i).foldl (takeOut q.z (sc : Int)) (left, found)).2)))])
          (fun p H7 I7 => I7) (fun p i σ H' I7 => I7.at (j := 0) rfl) (fun p i dd v σ7 H7 hd I7 hv => ?_) fun p σ7 H7 I7 => ?_
        · obtain ⟨hi, rfl⟩ := get_dI' hd
          have htk : L.take (i + 1) = L.take i ++ [L.getD i []] := by
            rw [List.take_add_one, List.getD_eq_getElem?_getD, List.getElem?_eq_getElem hi]; rfl
          have hfac := f1.part _ (getD_mem (d := []) hi)
          have hfl2 : ((L.take i).foldl (takeOut q.z (sc : Int)) (left, found)).2.length ≤ found.length + (L.take i).length := takes_le q.z (sc : Int) (L.take i) (left, found)
          obtain ⟨t1, t2, t3, t4, t5, _⟩ := hstep i
          have hfc : (L.getD i []).length ≤ 10000 := by
            have := (Dv.len (f1.dv (getD_mem (d := []) hi)) p1.2.1.ne).1
            rw [hfac.1.len, p1.1.len] at this
            omega
          rw [htk, List.foldl_append]
          rw [List.length_take] at hfl2
          generalize (L.take i).foldl (takeOut q.z (sc : Int)) (left, found) = s at I7 t1 t2 t3 t4 t5 hfl2
          generalize L.getD i [] = factor at hv hfac hfc
          have I8 : SI H H H7 _ [ii q.z, dt poly, dt s.1, ii (sc : Int), .r d, dt (slope q.z left), dt simple, dt factor, .u, .u] [(p, .lst (L.map dI)), (d, .raw (.dT (dtK s.2)))] := I7.setD 7 hv
          have sne : s.1 ≠ [] := fun z => t2.ne (t1.zero_iff.mpr z)
          have sl10 : s.1.length ≤ 10000 := by omega
          have htl := (timesIn_ok hfac t1 sne).2.2.2.1
          show tSeq _ _ _ _ _
          try dsimp only
          refine sq (s_pair I8 (x_callF (q, s.1, factor) (a_cons (x_var I8 rfl) (a_cons (x_var I8 rfl) (a_cons (x_var I8 rfl) a_nil))) ⟨t1, hfac, sne, sl10, hfc⟩) fun σ9 H9 I9 => ?_)
          have hmany : (timesIn q.z s.1 factor).1 ≤ 10000 := by
            have := timesInF_le q.z factor s.1.length s.1 0
            show (timesInF _ _ _ _ _).1 ≤ 10000
            omega
          have eto : [factor].foldl (takeOut q.z (sc : Int)) s = ((timesIn q.z s.1 factor).2, putDic s.2 factor (getDic s.2 factor + ((timesIn q.z s.1 factor).1 : Int) * (sc : Int))) := rfl
          rw [eto]
          have I9 : SI H H H9 σ9 [ii q.z, dt poly, dt (timesIn q.z s.1 factor).2, ii (sc : Int), .r d, dt (slope q.z left), dt simple, dt factor, ii ((timesIn q.z s.1 factor).1 : Int), .u] [(p, .lst (L.map dI)), (d, .raw (.dT (dtK s.2)))] := I9
          generalize timesIn q.z s.1 factor = t at I9 htl hmany
          try dsimp only
          refine s_dput (j := 1) I9 (x_add (x_dget2 (x_ref I9 rfl) (x_var I9 rfl) x_int (I9.at (j := 1) rfl |> Rd.of)) (x_mul (x_var I9 rfl) (x_var I9 rfl) (.inl (by omega)))) (x_ref I9 rfl) rfl (x_var I9 rfl) (by omega) fun H10 I10 => ?_
          exact ((I10.u 7).u 8)
        · rw [List.length_map, List.take_length] at I7
          obtain ⟨t1, t2, t3, t4, t5, t6⟩ := hstep L.length
          rw [List.take_length] at t1 t2 t3 t4 t5 t6
          have hfl2 : (L.foldl (takeOut q.z (sc : Int)) (left, found)).2.length ≤ found.length + L.length := takes_le q.z (sc : Int) L (left, found)
          generalize L.foldl (takeOut q.z (sc : Int)) (left, found) = s at I7 t1 t2 t3 t4 t5 t6 hfl2 he
          refine ⟨s.1, sc, s.2, t6 hLne, t1, t2, t3, hsc, ?_, he, ((I7.sub (.cons _ (List.Sublist.refl _))).u 5).u 6⟩
          have := t6 hLne
          omega
  · have h1 : ¬ 1 < left.length := by have := of_decide_eq_false hb; omega
    have I3 := I2.ext e3
    have e5 : found = rawDic q.z poly := by
      rw [← he]
      cases n with
      | zero => rfl
      | succ n => rw [rawF, if_neg h1]
    rw [← e5] at hrf hgood
    have hfd : H3 d = some (.dT (dtK found)) := I3.at (j := 0) rfl
    have hlen : (found.map fun p => dI p.1).length = found.length := List.length_map ..
    try dsimp only
    refine s_ret I3 (EvX.is (x_tupL (EvN.x (EvN.is (n_sortL (EvN.x (EvN.is (n_lock hfd trivial fun od H4 e4 => ?_) (es := found.map dP) rfl)) (all_dP _) (srt_dP _) (dpt_dP _)) (sort_dP found)))) ?_) k
    · have I4 := (I3.ext e4).put (j := 0) (o' := .raw (.frz od (.dT (dtK found)))) (h' := .frz od (.dT (dtK found))) rfl (fun xs z => by rw [e4 _ _ hfd] at z; cases z) upd_same
      have I4 : SI H H (upd H4 d (.frz od (.dT (dtK found)))) σ2 [ii q.z, dt poly, dt left, ii (sc : Int), .r d, .u, .u, .u, .u, .u] [(d, .raw (.frz od (.dT (dtK found))))] := I4
      refine EvN.is (n_lc1 (j := 7) I4 (src_keys (x_ref I4 rfl) upd_same) (by omega) (fun i => dI (found.getD i ([], 0)).1) (fun i x H' hi hit => ?_) (fun i => dP (found.getD i ([], 0))) fun i σ5 H5 hi I5 => ?_) ?_
      · obtain ⟨dd, h7, h8⟩ := hit
        rw [List.getElem?_map, List.getElem?_eq_getElem hi] at h7
        have h7 : dI (found[i]).1 = dd := Option.some.inj h7
        rw [List.getD_eq_getElem?_getD, List.getElem?_eq_getElem hi]
        show Tp H' x (dI (found[i]).1)
        rw [h7]; exact h8
      · have hat : found[i]? = some (found.getD i ([], 0)) := by rw [List.getD_eq_getElem?_getD, List.getElem?_eq_getElem hi]; rfl
        have hfind := find_at hgood.2 hat
        generalize found.getD i ([], 0) = kv at I5 hfind
        refine x_tup (ds := [dI kv.1, .int kv.2]) (a_cons (x_var I5 rfl) (a_cons (x_dget (m := found) (k := kv.1) (x_ref I5 rfl) (x_var I5 rfl) (.inr ⟨od, I5.at (j := 0) rfl⟩) (by rw [hfind]; rfl)) a_nil)) (by show 2 ≤ 100000; decide)
      · refine List.ext_getElem (by simp) fun i h8 h9 => ?_
        have h9' : i < found.length := by simpa using h9
        rw [List.getElem_map, List.getElem_map, List.getElem_range, List.getD_eq_getElem?_getD, List.getElem?_eq_getElem h9']
        rfl
    · rw [← hrf]
def sp_factors (K : PySem.W.Frag) : Sp := spF (fun x : P6 × LI => [ii x.1.z, dt x.2]) (fun x => IsC x.1 x.2 ∧ x.2 ≠ [] ∧ x.2.length ≤ 100) (fun x => dPs (rawFactors x.1.z x.2))
abbrev st_factors : Stmt := topS 39
theorem sc_factors : FnScope ["prime", "poly"] ["prime", "poly"] (defScope st_factors) := ⟨rfl, rfl, rfl, by decide +kernel, rfl, by decide +kernel, by decide +kernel⟩
theorem ok_factors {f aP : Addr} {fd : FuncData} (F : Fun K "factors" "factors" st_factors f fd) (T : Txt K mg aP) (c_raw_factors : Cal P w K mg base "raw_factors" 7 ["prime", "poly"] (sp_raw_factors K)) (c_check_polynomial : Cal P w K mg base "check_polynomial" 5 ["prime", "thing"] (sp_check_polynomial K)) (c_check_prime : Cal P w K mg base "check_prime" 3 ["thing"] (sp_check_prime K)) : FnOk P w K mg base CX0 8 f fd ["prime", "poly"] (sp_factors K) := by
  refine F.ok sc_factors (fun vs H Q E h => ?_) (fun cdv A outer s H vs Q E hr h => ?_)
  · exact len_of (fun x => by first | rfl | (obtain ⟨_, _⟩ := x; rfl)) h
  obtain ⟨_, _, hsd, ⟨x, rfl, rfl, pre⟩, k⟩ := h
  have I := start_ok (N := ["prime", "poly"]) hsd
  refine ⟨_, (pss_cons (ps_expr (pe_callC c_check_prime (hr.mono (by decide)) (by rfl) (pa_cons (pv 0) pa_nil))) (pss_cons (ps_expr (pe_callC c_check_polynomial (hr.mono (by decide)) (by rfl) (pa_cons (pv 0) (pa_cons (pv 1) pa_nil)))) (pss_cons (ps_if (pt_cmpR (k_eqD K rfl hr.units) (pv 1) (pe_tup pa_nil) (nomark _)) (pss_one ps_never) pss_nil) (pss_one (ps_ret (pe_callC c_raw_factors (hr.mono (by decide)) (by rfl) (pa_cons (pv 0) (pa_cons (pv 1) pa_nil)))))))), ?_⟩
  obtain ⟨q, poly⟩ := x
  obtain ⟨c1, hne, l1⟩ := pre
  have hne : poly ≠ [] := hne
  have l1 : poly.length ≤ 100 := l1
  have l10 : poly.length ≤ 10000 := by omega
  have I : SI H H H _ [ii q.z, dt poly] [] := I
  try dsimp only
  refine sq (s_drop I (x_callF q (a_cons (x_var I rfl) a_nil) trivial) fun H1 I1 => ?_)
  try dsimp only
  refine sq (s_drop I1 (x_callF (q, poly) (a_cons (x_var I1 rfl) (a_cons (x_var I1 rfl) a_nil)) ⟨c1, l10⟩) fun H2 I2 => ?_)
  try dsimp only
  refine sq (s_when (b := decide (poly = [])) I2 (t_B (x_isE (x_var I2 rfl) x_e)) (fun hb => absurd (of_decide_eq_true hb) hne) fun _ H3 I3 => ?_)
  try dsimp only
  exact s_ret I3 (x_callF (q, poly) (a_cons (x_var I3 rfl) (a_cons (x_var I3 rfl) a_nil)) ⟨c1, hne, l1⟩) k
end
end Wk
end
section
set_option Elab.async false
set_option linter.all false
set_option maxRecDepth 100000
set_option maxHeartbeats 4000000
/-! The law's own defs, one by one: cut, product, left, monics, is_prime, is_poly. -/
namespace Wk
open PySem PySem.Spec PyProof.Rows L2 Evl Mw
section
variable {P : Program} {w : World} {K : PySem.W.Frag} {mg : Str → Option Value} {base : Heap}
theorem lay_li (l : LI) : SeqAt.shaped (.list (l.map PyData.int)) = true := by
  unfold SeqAt.shaped
  rw [PyData.canLay0, lay_ints, PyData.depth, dep_ints]; rfl
theorem x_neLE {σ : L2.St} {H : Hp} {ta tb : TE} {l : LI} (ha : EvX ta σ H (gi l)) (hb : EvX tb σ H (.g [])) : EvX (tOp (rNeD K) ta tb) σ H (.d (.bool (!decide (l = [])))) := by
  have h := x_neS (K := K) (a := .list (l.map .int)) (b := .list (([] : LI).map PyData.int)) ha hb (.inr ⟨_, rfl, rfl⟩) (.inr ⟨_, rfl, rfl⟩) (lay_li l) (lay_li [])
  have e : PyData.eqv (.list (l.map .int)) (.list (([] : LI).map PyData.int)) = decide (l = []) := by rw [PyData.eqv]; exact eqv_ints l []
  rw [e] at h
  exact h
def sp_law_cut (K : PySem.W.Frag) : Sp := spF (fun x : Bool × LI => [if x.1 = true then gi x.2 else dt x.2]) (fun x => x.2.length ≤ 100000) (fun x => dI (trim x.2))
abbrev st_law_cut : Stmt := topS 44
theorem sc_law_cut : FnScope ["_law_worths", "_law_found"] ["_law_worths"] (defScope st_law_cut) := ⟨rfl, rfl, rfl, by decide +kernel, rfl, by decide +kernel, by decide +kernel⟩
theorem ok_law_cut {f aP : Addr} {fd : FuncData} (F : Fun K "_law_cut" "_law_cut" st_law_cut f fd) (T : Txt K mg aP)  : FnOk P w K mg base CX0 1 f fd ["_law_worths"] (sp_law_cut K) := by
  refine F.ok sc_law_cut (fun vs H Q E h => ?_) (fun cdv A outer s H vs Q E hr h => ?_)
  · exact len_of (fun x => by first | rfl | (obtain ⟨_, _⟩ := x; rfl)) h
  obtain ⟨_, _, hsd, ⟨x, rfl, rfl, pre⟩, k⟩ := h
  have I := start_ok (N := ["_law_worths", "_law_found"]) hsd
  refine ⟨_, (pss_cons (ps_set (i := 1) sc_law_cut.nd rfl (by first | exact Or.inl rfl | exact Or.inr rfl) (pe_callTy (k_list K rfl) (by rfl) T.list_ (by decide +kernel) (pa_cons (pv 0) pa_nil))) (pss_cons (ps_while PassesOwn.never (PW.pt (pw_and (pt_cmpR (k_neD K rfl hr.units) (pv 1) (pe_lst pa_nil) (nomark _)) (pw_and1 (pt_cmpR op_eq (pe_ix (k_ixL K rfl) (pv 1) (pe_un un_neg pe_int) (fun _ _ => rfl)) pe_int (nomark _))))) (pss_one (ps_expr (pe_bm0 PySem.F.plainAttrs_list PySem.F.slot_list_pop PySem.F.type_list_pop mt_pop (pv 1))))) (pss_one (ps_ret (pe_callTy (k_tuple K rfl) (by rfl) T.tuple_ (by decide +kernel) (pa_cons (pv 1) pa_nil)))))), ?_⟩
  obtain ⟨b, l⟩ := x
  have I : SI H H H _ [if b = true then gi l else dt l, .u] [] := I
  have hlist : ∀ {te : TE} {σ : L2.St} {H1 : Hp}, EvX te σ H1 (if b = true then gi l else dt l) → EvN (tCB (rListS K) (tCons te tNil)) σ H1 (l.map .int) := fun {te σ H1} h => by
    cases b with
    | true => exact n_listL h
    | false => exact n_listT h
  have hv : EvX (tVar 0) (L2.start ["_law_worths", "_law_found"] vs) H (if b = true then gi l else dt l) := by
    cases b with
    | true => exact x_giv I rfl
    | false => exact x_var I rfl
  try dsimp only
  refine sq (s_setN I (hlist hv) fun a σ1 H1 I1 => ?_)
  have I1 : SI H H H1 σ1 [if b = true then gi l else dt l, .r a] [(a, .lst (l.map .int))] := I1
  try dsimp only
  refine sq (s_while (fun m σ' H' => ∃ l' : LI, l'.length = m ∧ trim l' = trim l ∧ SI H H H' σ' [if b = true then gi l else dt l, .r a] [(a, .lst (l'.map .int))]) l.length ⟨l, rfl, rfl, I1⟩ fun m σ2 H2 ⟨l', hm, ht, I2⟩ => ?_)
  refine ⟨!decide (l' = []) && decide (lastI l' = 0), ?_, fun hb H3 e3 => ?_, fun hb H3 e3 => ?_⟩
  · refine t_and (t_B (x_neLE (x_own (j := 0) I2 rfl (x_ref I2 rfl)) (EvN.x (n_lst (ds := []) a_nil (by decide))))) fun hp => ?_
    have hn : l' ≠ [] := fun z => by rw [decide_eq_true z] at hp; exact nomatch hp
    exact t_B (x_eqI (x_ixL (x_own (j := 0) I2 rfl (x_ref I2 rfl)) (x_neg x_int) (at_last hn)) x_int)
  · rw [Bool.and_eq_true, Bool.not_eq_true'] at hb
    have hn : l' ≠ [] := of_decide_eq_false hb.1
    have h0 : lastI l' = 0 := of_decide_eq_true hb.2
    have I3 := I2.ext e3
    refine ⟨fun σ' H' => SI H H H' σ' [if b = true then gi l else dt l, .r a] [(a, .lst (l'.dropLast.map .int))], fun σ4 H4 I4 => ⟨l'.dropLast.length, ?_, l'.dropLast, rfl, (trim_drop hn h0).trans ht, I4⟩, ?_⟩
    · have := List.length_pos_iff.mpr hn
      rw [List.length_dropLast]; omega
    · try dsimp only
      refine s_pop I3 (x_ref I3 rfl) (j := 0) rfl (fun z => hn (List.map_eq_nil_iff.mp z)) fun H4 I4 => ?_
      have I4 : SI H H H4 σ2 _ [(a, .lst (l'.map PyData.int).dropLast)] := I4
      rw [← List.map_dropLast] at I4
      exact I4
  · have I3 := I2.ext e3
    have hs : trim l' = l' := trim_same fun hn z => by
      rw [decide_eq_false hn, decide_eq_true z] at hb
      exact nomatch hb
    try dsimp only
    refine s_ret I3 (EvX.is (x_tupL (x_own (j := 0) I3 rfl (x_ref I3 rfl))) ?_) k
    show Sl.d (dI l') = Sl.d (dI (trim l))
    rw [← ht, hs]
def sp_law_product (K : PySem.W.Frag) : Sp := spF (fun x : P6 × LI × LI => [ii x.1.z, dt x.2.1, dt x.2.2]) (fun x => Rg x.1 x.2.1 ∧ Rg x.1 x.2.2 ∧ x.2.1.length ≤ 10000 ∧ x.2.2.length ≤ 10000) (fun x => dI (lawProduct x.1.z x.2.1 x.2.2))
abbrev st_law_product : Stmt := topS 45
theorem sc_law_product : FnScope ["_law_prime", "_law_one", "_law_other", "_law_found", "_law_k", "_law_j"] ["_law_prime", "_law_one", "_law_other"] (defScope st_law_product) := ⟨rfl, rfl, rfl, by decide +kernel, rfl, by decide +kernel, by decide +kernel⟩
theorem ok_law_product {f aP : Addr} {fd : FuncData} (F : Fun K "_law_product" "_law_product" st_law_product f fd) (T : Txt K mg aP) (c_law_cut : Cal P w K mg base "_law_cut" 1 ["_law_worths"] (sp_law_cut K)) : FnOk P w K mg base CX0 2 f fd ["_law_prime", "_law_one", "_law_other"] (sp_law_product K) := by
  refine F.ok sc_law_product (fun vs H Q E h => ?_) (fun cdv A outer s H vs Q E hr h => ?_)
  · exact len_of (fun x => by first | rfl | (obtain ⟨_, _⟩ := x; rfl)) h
  obtain ⟨_, _, hsd, ⟨x, rfl, rfl, pre⟩, k⟩ := h
  have I := start_ok (N := ["_law_prime", "_law_one", "_law_other", "_law_found", "_law_k", "_law_j"]) hsd
  refine ⟨_, (pss_cons (ps_if (PW.pt (pw_or (pt_cmpR (k_eqD K rfl hr.units) (pv 1) (pe_tup pa_nil) (nomark _)) (pw_or1 (pt_cmpR (k_eqD K rfl hr.units) (pv 2) (pe_tup pa_nil) (nomark _))))) (pss_one (ps_ret (pe_tup pa_nil))) pss_nil) (pss_cons (ps_set (i := 3) sc_law_product.nd rfl (by first | exact Or.inl rfl | exact Or.inr rfl) (pe_op op_rep (pe_lst (pa_cons pe_int pa_nil)) (pe_op op_sub (pe_op op_add (pe_callB (k_len K rfl) (by rfl) T.len_ (by decide +kernel) (pa_cons (pv 1) pa_nil)) (pe_callB (k_len K rfl) (by rfl) T.len_ (by decide +kernel) (pa_cons (pv 2) pa_nil))) pe_int))) (pss_cons (ps_for PassesOwn.never rfl (pi_range1 (by rfl) T.range_ (pa_cons (pe_callB (k_len K rfl) (by rfl) T.len_ (by decide +kernel) (pa_cons (pv 1) pa_nil)) pa_nil)) (pg_name (i := 4) sc_law_product.nd rfl (by first | exact Or.inl rfl | exact Or.inr rfl)) (pss_one (ps_for PassesOwn.never rfl (pi_range1 (by rfl) T.range_ (pa_cons (pe_callB (k_len K rfl) (by rfl) T.len_ (by decide +kernel) (pa_cons (pv 2) pa_nil)) pa_nil)) (pg_name (i := 5) sc_law_product.nd rfl (by first | exact Or.inl rfl | exact Or.inr rfl)) (pss_one (ps_asg (pe_op op_mod (pe_callTy k_int (by rfl) T.int_ (by decide +kernel) (pa_cons (pe_op op_add (pe_ix (k_ixL K rfl) (pv 3) (pe_op op_add (pv 4) (pv 5)) (fun _ _ => rfl)) (pe_op op_mul (pe_ix (k_ixT K rfl) (pv 1) (pv 4) (fun _ _ => rfl)) (pe_ix (k_ixT K rfl) (pv 2) (pv 5) (fun _ _ => rfl)))) pa_nil)) (pv 0)) (pg_sub (pv 3) (pe_op op_add (pv 4) (pv 5)) set_list)))))) (pss_one (ps_ret (pe_callC c_law_cut (hr.mono (by decide)) (by rfl) (pa_cons (pv 3) pa_nil))))))), ?_⟩
  obtain ⟨q, one, other⟩ := x
  obtain ⟨r1, r2, l1, l2⟩ := pre
  have r1 : Rg q one := r1
  have r2 : Rg q other := r2
  have l1 : one.length ≤ 10000 := l1
  have l2 : other.length ≤ 10000 := l2
  have hq := p_bd q
  have I : SI H H H _ [ii q.z, dt one, dt other, .u, .u, .u] [] := I
  try dsimp only
  refine sq (s_when (b := decide (one = []) || decide (other = [])) I (t_or (t_B (x_isE (x_var I rfl) x_e)) fun _ => t_B (x_isE (x_var I rfl) x_e)) (fun hb H1 I1 => ?_) fun hb H1 I1 => ?_)
  · try dsimp only
    refine s_ret I1 (EvX.is x_e ?_) k
    have : one = [] ∨ other = [] := by
      rcases Bool.or_eq_true_iff.mp hb with z | z
      · exact .inl (of_decide_eq_true z)
      · exact .inr (of_decide_eq_true z)
    show Sl.d (dI []) = Sl.d (dI (lawProduct q.z one other))
    unfold lawProduct
    rw [if_pos this]
  have hne : one ≠ [] ∧ other ≠ [] := by
    rw [Bool.or_eq_false_iff] at hb
    exact ⟨of_decide_eq_false hb.1, of_decide_eq_false hb.2⟩
  have hp1 := List.length_pos_iff.mpr hne.1
  have hp2 := List.length_pos_iff.mpr hne.2
  have hres : lawProduct q.z one other = trim (mulRows q.z one other one.length (List.replicate (one.length + other.length - 1) 0)) := by
    unfold lawProduct
    rw [if_neg fun z => z.elim hne.1 hne.2]
  try dsimp only
  refine sq (s_setN I1 (EvN.is (n_rep (EvN.x (n_lst (ds := [.int 0]) (a_cons x_int a_nil) (by decide))) (x_sub (x_add (x_lenT (x_var I1 rfl)) (x_lenT (x_var I1 rfl))) x_int) (by rw [lenz, lenz]; omega) (by rw [lenz, lenz]; omega)) (es := (List.replicate (one.length + other.length - 1) (0 : Int)).map .int) (by rw [lenz, lenz, ← rep_int]; congr 1; omega)) fun a σ2 H2 I2 => ?_)
  have I2 : SI H H H2 σ2 [ii q.z, dt one, dt other, .r a, .u, .u] [(a, .lst ((List.replicate (one.length + other.length - 1) (0 : Int)).map .int))] := I2
  try dsimp only
  refine sq (s_for_r1 (j := 4) (n := (one.length : Int)) (by rw [← lenz one]; exact a_cons (x_lenT (x_var I2 rfl)) a_nil) (by omega) (fun i σ H' => SI H H H' σ [ii q.z, dt one, dt other, .r a, .u, .u] [(a, .lst ((mulRows q.z one other i (List.replicate (one.length + other.length - 1) (0 : Int))).map .int))]) (fun H3 e => I2.ext e) (fun i σ3 H3 hi I3 => ?_) fun σ3 H3 I3 => ?_)
  · have hi : i < one.length := by omega
    have I4 : SI H H H3 _ [ii q.z, dt one, dt other, .r a, ii (i : Int), .u] _ := I3.setD 4 (Tp.int (i : Int))
    try dsimp only
    refine s_for_r1 (j := 5) (n := (other.length : Int)) (by rw [← lenz other]; exact a_cons (x_lenT (x_var I4 rfl)) a_nil) (by omega) (fun n σ H' => SI H H H' σ [ii q.z, dt one, dt other, .r a, ii (i : Int), .u] [(a, .lst ((addRow q.z i (one.getD i 0) other n (mulRows q.z one other i (List.replicate (one.length + other.length - 1) (0 : Int)))).map .int))]) (fun H5 e => I4.ext e) (fun n σ5 H5 hn I5 => ?_) fun σ5 H5 I5 => ?_
    · have hn : n < other.length := by omega
      have I6 : SI H H H5 _ [ii q.z, dt one, dt other, .r a, ii (i : Int), ii (n : Int)] _ := I5.setD 5 (Tp.int (n : Int))
      have hlen : i + n < (addRow q.z i (one.getD i 0) other n (mulRows q.z one other i (List.replicate (one.length + other.length - 1) (0 : Int)))).length := by
        rw [addRow_len, mulRows_len, List.length_replicate]; omega
      try dsimp only
      refine s_put I6 (x_mod (x_intI (x_add (x_ixL (x_own (j := 0) I6 rfl (x_ref I6 rfl)) (x_add (x_var I6 rfl) (x_var I6 rfl)) (at_int' (i := i + n) (by omega) hlen)) (x_mul (x_ixT (x_var I6 rfl) (x_var I6 rfl) (at_int hi)) (x_ixT (x_var I6 rfl) (x_var I6 rfl) (at_int hn)) (small13 (r1.get i) _)))) (x_var I6 rfl) (by omega)) (x_ref I6 rfl) (j := 0) rfl (x_add (x_var I6 rfl) (x_var I6 rfl)) (n := i + n) (by omega) (by rw [len_int]; exact hlen) fun H7 I7 => ?_
      rw [addRow_succ]
      have I7 : SI H H H7 _ [ii q.z, dt one, dt other, .r a, ii (i : Int), ii (n : Int)] [(a, .lst (((addRow q.z i (one.getD i 0) other n (mulRows q.z one other i (List.replicate (one.length + other.length - 1) (0 : Int)))).map PyData.int).set (i + n) _))] := I7
      rw [map_set] at I7
      exact I7.u 5
    · rw [Int.toNat_natCast] at I5
      show SI H H H5 σ5 _ _
      rw [mulRows_succ]
      exact I5.u 4
  · rw [Int.toNat_natCast] at I3
    have hlen2 : (mulRows q.z one other one.length (List.replicate (one.length + other.length - 1) (0 : Int))).length ≤ 100000 := by rw [mulRows_len, List.length_replicate]; omega
    try dsimp only
    refine s_ret I3 (EvX.is (x_callF (true, mulRows q.z one other one.length (List.replicate (one.length + other.length - 1) (0 : Int))) (a_cons (x_own (j := 0) I3 rfl (x_ref I3 rfl)) a_nil) hlen2) ?_) k
    show Sl.d (dI (trim _)) = Sl.d (dI (lawProduct q.z one other))
    rw [hres]
def sp_law_left (K : PySem.W.Frag) : Sp := spF (fun x : P6 × LI × LI => [ii x.1.z, dt x.2.1, dt x.2.2]) (fun x => Rg x.1 x.2.1 ∧ Rg x.1 x.2.2 ∧ x.2.2 ≠ [] ∧ x.2.1.length ≤ 10000 ∧ x.2.2.length ≤ 10000) (fun x => dI (lawLeft x.1.z x.2.1 x.2.2))
abbrev st_law_left : Stmt := topS 46
theorem sc_law_left : FnScope ["_law_prime", "_law_poly_here", "_law_by", "_law_found", "_law_factor", "_law_at", "_law_k"] ["_law_prime", "_law_poly_here", "_law_by"] (defScope st_law_left) := ⟨rfl, rfl, rfl, by decide +kernel, rfl, by decide +kernel, by decide +kernel⟩
theorem ok_law_left {f aP : Addr} {fd : FuncData} (F : Fun K "_law_left" "_law_left" st_law_left f fd) (T : Txt K mg aP) (c_law_cut : Cal P w K mg base "_law_cut" 1 ["_law_worths"] (sp_law_cut K)) : FnOk P w K mg base CX0 2 f fd ["_law_prime", "_law_poly_here", "_law_by"] (sp_law_left K) := by
  refine F.ok sc_law_left (fun vs H Q E h => ?_) (fun cdv A outer s H vs Q E hr h => ?_)
  · exact len_of (fun x => by first | rfl | (obtain ⟨_, _⟩ := x; rfl)) h
  obtain ⟨_, _, hsd, ⟨x, rfl, rfl, pre⟩, k⟩ := h
  have I := start_ok (N := ["_law_prime", "_law_poly_here", "_law_by", "_law_found", "_law_factor", "_law_at", "_law_k"]) hsd
  refine ⟨_, (pss_cons (ps_set (i := 3) sc_law_left.nd rfl (by first | exact Or.inl rfl | exact Or.inr rfl) (pe_callTy (k_list K rfl) (by rfl) T.list_ (by decide +kernel) (pa_cons (pv 1) pa_nil))) (pss_cons (ps_while PassesOwn.never (pt_cmpR op_ge (pe_callB (k_len K rfl) (by rfl) T.len_ (by decide +kernel) (pa_cons (pv 3) pa_nil)) (pe_callB (k_len K rfl) (by rfl) T.len_ (by decide +kernel) (pa_cons (pv 2) pa_nil)) (nomark _)) (pss_cons (ps_par (by rfl) sc_law_left.nd (i := 4) (j := 5) rfl rfl (by decide) rfl rfl (pa_cons (pe_ix (k_ixL K rfl) (pv 3) (pe_un un_neg pe_int) (fun _ _ => rfl)) (pa_cons (pe_op op_sub (pe_callB (k_len K rfl) (by rfl) T.len_ (by decide +kernel) (pa_cons (pv 3) pa_nil)) (pe_callB (k_len K rfl) (by rfl) T.len_ (by decide +kernel) (pa_cons (pv 2) pa_nil))) pa_nil)) (by rfl)) (pss_cons (ps_for PassesOwn.never rfl (pi_range1 (by rfl) T.range_ (pa_cons (pe_callB (k_len K rfl) (by rfl) T.len_ (by decide +kernel) (pa_cons (pv 2) pa_nil)) pa_nil)) (pg_name (i := 6) sc_law_left.nd rfl (by first | exact Or.inl rfl | exact Or.inr rfl)) (pss_one (ps_asg (pe_op op_mod (pe_callTy k_int (by rfl) T.int_ (by decide +kernel) (pa_cons (pe_op op_sub (pe_ix (k_ixL K rfl) (pv 3) (pe_op op_add (pv 5) (pv 6)) (fun _ _ => rfl)) (pe_op op_mul (pv 4) (pe_ix (k_ixT K rfl) (pv 2) (pv 6) (fun _ _ => rfl)))) pa_nil)) (pv 0)) (pg_sub (pv 3) (pe_op op_add (pv 5) (pv 6)) set_list)))) (pss_one (ps_expr (pe_bm0 PySem.F.plainAttrs_list PySem.F.slot_list_pop PySem.F.type_list_pop mt_pop (pv 3))))))) (pss_one (ps_ret (pe_callC c_law_cut (hr.mono (by decide)) (by rfl) (pa_cons (pv 3) pa_nil)))))), ?_⟩
  obtain ⟨q, poly, m⟩ := x
  obtain ⟨r1, r2, hne, l1, l2⟩ := pre
  have r1 : Rg q poly := r1
  have r2 : Rg q m := r2
  have hne : m ≠ [] := hne
  have l1 : poly.length ≤ 10000 := l1
  have l2 : m.length ≤ 10000 := l2
  have hq := p_bd q
  have hp := List.length_pos_iff.mpr hne
  have I : SI H H H _ [ii q.z, dt poly, dt m, .u, .u, .u, .u] [] := I
  try dsimp only
  refine sq (s_setN I (n_listT (x_var I rfl)) fun a σ1 H1 I1 => ?_)
  have I1 : SI H H H1 σ1 [ii q.z, dt poly, dt m, .r a, .u, .u, .u] [(a, .lst (poly.map .int))] := I1
  try dsimp only
  refine sq (s_while (fun t σ' H' => ∃ (f : LI) (n : Nat), f.length = t ∧ f.length ≤ n ∧ f.length ≤ 10000 ∧ Rg q f ∧ lawLeftF q.z m n f = lawLeft q.z poly m ∧ SI H H H' σ' [ii q.z, dt poly, dt m, .r a, .u, .u, .u] [(a, .lst (f.map .int))]) poly.length ⟨poly, poly.length, rfl, Nat.le_refl _, l1, r1, rfl, I1⟩ fun t σ2 H2 ⟨f, n, hf, hn, hf2, rf, he, I2⟩ => ?_)
  refine ⟨decide ((m.length : Int) ≤ (f.length : Int)), t_B (EvX.is (x_ge (x_lenL (x_own (j := 0) I2 rfl (x_ref I2 rfl))) (x_lenT (x_var I2 rfl))) (by rw [lenz, lenz])), fun hb H3 e3 => ?_, fun hb H3 e3 => ?_⟩
  · have hle : m.length ≤ f.length := by have := of_decide_eq_true hb; omega
    have I3 := I2.ext e3
    have fne : f ≠ [] := fun z => by rw [z] at hle; simp at hle; exact hne hle
    cases n with
    | zero => exact absurd (List.length_eq_zero_iff.mp (Nat.le_zero.mp hn)) fne
    | succ n =>
      rw [lawLeftF, if_pos hle] at he
      have hsl : (subRow q.z (f.length - m.length) (lastI f) m m.length f).dropLast.length = f.length - 1 := by rw [List.length_dropLast, subRow_len]
      have hsr : Rg q (subRow q.z (f.length - m.length) (lastI f) m m.length f).dropLast := fun x hx => subRow_rg rf _ x (List.mem_of_mem_take (List.dropLast_eq_take ▸ hx))
      refine ⟨fun σ' H' => SI H H H' σ' [ii q.z, dt poly, dt m, .r a, .u, .u, .u] [(a, .lst ((subRow q.z (f.length - m.length) (lastI f) m m.length f).dropLast.map .int))], fun σ4 H4 I4 => ⟨_, by omega, _, n, hsl, by omega, by omega, hsr, he, I4⟩, ?_⟩
      try dsimp only
      refine sq (s_par I3 (a_cons (x_ixL (x_own (j := 0) I3 rfl (x_ref I3 rfl)) (x_neg x_int) (at_last fne)) (a_cons (EvX.is (x_sub (x_lenL (x_own (j := 0) I3 rfl (x_ref I3 rfl))) (x_lenT (x_var I3 rfl))) (s' := ii ((f.length - m.length : Nat) : Int)) (by rw [lenz, lenz]; congr 2; omega)) a_nil)) fun σ4 H4 I4 => ?_)
      have hlb : 0 ≤ lastI f ∧ lastI f < q.z := rf.get _
      generalize lastI f = c at *
      have hpl : f.length - m.length + m.length ≤ f.length := by omega
      generalize f.length - m.length = pl at *
      have I4 : SI H H H4 σ4 [ii q.z, dt poly, dt m, .r a, ii c, ii (pl : Int), .u] [(a, .lst (f.map .int))] := I4
      try dsimp only
      refine sq (s_for_r1 (j := 6) (n := (m.length : Int)) (by rw [← lenz m]; exact a_cons (x_lenT (x_var I4 rfl)) a_nil) (by omega) (fun n σ H' => SI H H H' σ [ii q.z, dt poly, dt m, .r a, ii c, ii (pl : Int), .u] [(a, .lst ((subRow q.z pl c m n f).map .int))]) (fun H5 e => I4.ext e) (fun n σ5 H5 hn I5 => ?_) fun σ5 H5 I5 => ?_)
      · have hn : n < m.length := by omega
        have I6 : SI H H H5 _ [ii q.z, dt poly, dt m, .r a, ii c, ii (pl : Int), ii (n : Int)] _ := I5.setD 6 (Tp.int (n : Int))
        have hlen : pl + n < (subRow q.z pl c m n f).length := by rw [subRow_len]; omega
        try dsimp only
        refine s_put I6 (x_mod (x_intI (x_sub (x_ixL (x_own (j := 0) I6 rfl (x_ref I6 rfl)) (x_add (x_var I6 rfl) (x_var I6 rfl)) (at_int' (i := pl + n) (by omega) hlen)) (x_mul (x_var I6 rfl) (x_ixT (x_var I6 rfl) (x_var I6 rfl) (at_int hn)) (small13 hlb _)))) (x_var I6 rfl) (by omega)) (x_ref I6 rfl) (j := 0) rfl (x_add (x_var I6 rfl) (x_var I6 rfl)) (n := pl + n) (by omega) (by rw [len_int]; exact hlen) fun H7 I7 => ?_
        rw [subRow_succ]
        have I7 : SI H H H7 _ [ii q.z, dt poly, dt m, .r a, ii c, ii (pl : Int), ii (n : Int)] [(a, .lst (((subRow q.z pl c m n f).map PyData.int).set (pl + n) _))] := I7
        rw [map_set] at I7
        exact I7.u 6
      · rw [Int.toNat_natCast] at I5
        have hsn : subRow q.z pl c m m.length f ≠ [] := fun z => by
          have := subRow_len q.z pl c m f m.length
          rw [z] at this
          have h2 : f.length ≠ 0 := fun z => fne (List.eq_nil_of_length_eq_zero z)
          exact h2 this.symm
        try dsimp only
        refine s_pop I5 (x_ref I5 rfl) (j := 0) rfl (fun z => hsn (List.map_eq_nil_iff.mp z)) fun H6 I6 => ?_
        have I6 : SI H H H6 σ5 _ [(a, .lst ((subRow q.z pl c m m.length f).map PyData.int).dropLast)] := I6
        rw [← List.map_dropLast] at I6
        exact (I6.u 4).u 5
  · have hle : ¬ m.length ≤ f.length := by have := of_decide_eq_false hb; omega
    have I3 := I2.ext e3
    have he2 : trim f = lawLeft q.z poly m := by
      rw [← he]
      cases n with
      | zero => rfl
      | succ n => rw [lawLeftF, if_neg hle]
    have hf3 : f.length ≤ 100000 := by omega
    try dsimp only
    refine s_ret I3 (EvX.is (x_callF (true, f) (a_cons (x_own (j := 0) I3 rfl (x_ref I3 rfl)) a_nil) hf3) ?_) k
    show Sl.d (dI (trim f)) = Sl.d (dI (lawLeft q.z poly m))
    rw [he2]
end
end Wk
end
section
set_option Elab.async false
set_option linter.all false
set_option maxRecDepth 100000
set_option maxHeartbeats 4000000
/-! The law's own defs, one by one: monics, is_prime, is_poly, told_right, together. -/
namespace Wk
open PySem PySem.Spec PyProof.Rows L2 Evl Mw
theorem monicsF_len {q : P6} : ∀ d, (monicsF q.z d).length ≤ 13 ^ d
  | 0 => Nat.le_refl _
  | d + 1 => by
    have h := monicsF_len (q := q) d
    have hq := p_bd q
    show ((monicsF q.z d).flatMap _).length ≤ _
    refine Nat.le_trans (flatMap_len (c := 13) (fun x => ?_) _) ?_
    · rw [List.length_map, List.length_range]; omega
    · rw [Nat.pow_succ]
      exact Nat.mul_le_mul_right _ h
theorem pow13 {d : Nat} (h : d ≤ 3) : 13 ^ d ≤ 2197 := Nat.le_trans (Nat.pow_le_pow_right (by decide) h) (by decide)
section
variable {P : Program} {w : World} {K : PySem.W.Frag} {mg : Str → Option Value} {base : Heap}
def sp_law_monics (K : PySem.W.Frag) : Sp := spL (fun x : P6 × Nat => [ii x.1.z, ii (x.2 : Int)]) (fun x => x.2 ≤ 3) (fun x => (lawMonics x.1.z x.2).map dI)
abbrev st_law_monics : Stmt := topS 47
theorem sc_law_monics : FnScope ["_law_prime", "_law_degree", "_law_found", "_law_turn", "_law_longer", "_law_some", "_law_worth"] ["_law_prime", "_law_degree"] (defScope st_law_monics) := ⟨rfl, rfl, rfl, by decide +kernel, rfl, by decide +kernel, by decide +kernel⟩
theorem ok_law_monics {f aP : Addr} {fd : FuncData} (F : Fun K "_law_monics" "_law_monics" st_law_monics f fd) (T : Txt K mg aP)  : FnOk P w K mg base CX0 1 f fd ["_law_prime", "_law_degree"] (sp_law_monics K) := by
  refine F.ok sc_law_monics (fun vs H Q E h => ?_) (fun cdv A outer s H vs Q E hr h => ?_)
  · exact len_of (fun x => by first | rfl | (obtain ⟨_, _⟩ := x; rfl)) h
  obtain ⟨_, _, hsd, ⟨x, rfl, rfl, pre⟩, k⟩ := h
  have I := start_ok (N := ["_law_prime", "_law_degree", "_law_found", "_law_turn", "_law_longer", "_law_some", "_law_worth"]) hsd
  refine ⟨_, (pss_cons (ps_set (i := 2) sc_law_monics.nd rfl (by first | exact Or.inl rfl | exact Or.inr rfl) (pe_lst (pa_cons (pe_tup pa_nil) pa_nil))) (pss_cons (ps_for PassesOwn.never rfl (pi_range1 (by rfl) T.range_ (pa_cons (pv 1) pa_nil)) (pg_name (i := 3) sc_law_monics.nd rfl (by first | exact Or.inl rfl | exact Or.inr rfl)) (pss_cons (ps_set (i := 4) sc_law_monics.nd rfl (by first | exact Or.inl rfl | exact Or.inr rfl) (pe_lst pa_nil)) (pss_cons (ps_for PassesOwn.never rfl (k_pil K rfl (pv 2)) (pg_name (i := 5) sc_law_monics.nd rfl (by first | exact Or.inl rfl | exact Or.inr rfl)) (pss_one (ps_expr (pe_bm PySem.F.plainAttrs_list PySem.F.slot_list_extend PySem.F.type_list_extend mt_extend (pv 4) (pa_cons (pe_lc (own := [("_law_worth", 6)]) (g := (gName 6)) (tt := tYes) rfl sc_law_monics.nd (pi_range1 (by rfl) T.range_ (pa_cons (pv 0) pa_nil)) (blkOk_by (own := [("_law_worth", 6)]) (N := ["_law_prime", "_law_degree", "_law_found", "_law_turn", "_law_longer", "_law_some", "_law_worth"]) (sc := defScope st_law_monics) (by decide +kernel)) (fun _ _ _ _ _ => (pg_name (i := 6) sc_law_monics.nd rfl (by first | exact Or.inl rfl | exact Or.inr rfl))) (fun _ _ _ _ _ => pts_nil) (fun _ _ _ _ _ => (pe_op (k_catA K rfl) (pv 5) (pe_tup (pa_cons (pv 6) pa_nil))))) pa_nil))))) (pss_one (ps_set (i := 2) sc_law_monics.nd rfl (by first | exact Or.inl rfl | exact Or.inr rfl) (pv 4)))))) (pss_one (ps_ret (pe_lc (own := [("_law_some", 5)]) (g := (gName 5)) (tt := tYes) rfl sc_law_monics.nd (k_pil K rfl (pv 2)) (blkOk_by (own := [("_law_some", 5)]) (N := ["_law_prime", "_law_degree", "_law_found", "_law_turn", "_law_longer", "_law_some", "_law_worth"]) (sc := defScope st_law_monics) (by decide +kernel)) (fun _ _ _ _ _ => (pg_name (i := 5) sc_law_monics.nd rfl (by first | exact Or.inl rfl | exact Or.inr rfl))) (fun _ _ _ _ _ => pts_nil) (fun _ _ _ _ _ => (pe_op (k_catA K rfl) (pv 5) (pe_tup (pa_cons pe_int pa_nil))))))))), ?_⟩
  obtain ⟨q, d⟩ := x
  have hd3 : d ≤ 3 := pre
  have hq := p_bd q
  have I : SI H H H _ [ii q.z, ii (d : Int), .u, .u, .u, .u, .u] [] := I
  try dsimp only
  refine sq (s_setN I (n_lst (ds := [dI []]) (a_cons x_e a_nil) (by show 1 ≤ 100000; decide)) fun f0 σ1 H1 I1 => ?_)
  have I1 : SI H H H1 σ1 [ii q.z, ii (d : Int), .r f0, .u, .u, .u, .u] [(f0, .lst ((monicsF q.z 0).map dI))] := I1
  try dsimp only
  refine sq (s_for_r1 (j := 3) (a_cons (x_var I1 rfl) a_nil) (by omega) (fun i σ H' => ∃ fa : Addr, SI H H H' σ [ii q.z, ii (d : Int), .r fa, .u, .u, .u, .u] [(fa, .lst ((monicsF q.z i).map dI))]) (fun H2 e => ⟨f0, I1.ext e⟩) (fun i σ2 H2 hi p => ?_) fun σ2 H2 p => ?_)
  · obtain ⟨fa, I2⟩ := p
    have hlen := Nat.le_trans (monicsF_len (q := q) i) (pow13 (by omega))
    have ef : monicsF q.z (i + 1) = (monicsF q.z i).flatMap fun s => (List.range q.z.toNat).map fun (w : Nat) => s ++ [(w : Int)] := rfl
    rw [ef]
    have hrl : ∀ r, r ∈ monicsF q.z i → r.length = i := fun r hr => (monicsF_ok (q := q) i r hr).1
    generalize monicsF q.z i = F at I2 hlen hrl
    have I3 : SI H H H2 _ [ii q.z, ii (d : Int), .r fa, ii (i : Int), .u, .u, .u] [(fa, .lst (F.map dI))] := I2.setD 3 (Tp.int (i : Int))
    try dsimp only
    refine sq (s_setN I3 (n_lst (ds := []) a_nil (by decide)) fun la σ4 H4 I4 => ?_)
    have I4 : SI H H H4 σ4 [ii q.z, ii (d : Int), .r fa, ii (i : Int), .r la, .u, .u] [(la, .lst []), (fa, .lst (F.map dI))] := I4
    try dsimp only
    refine sq (s_for_own (g := gName 5) (ds := F.map dI) (x_ref I4 rfl) (fun j σ H' => SI H H H' σ [ii q.z, ii (d : Int), .r fa, ii (i : Int), .r la, .u, .u] [(la, .lst (((F.take j).flatMap fun s => (List.range q.z.toNat).map fun (w : Nat) => s ++ [(w : Int)]).map dI)), (fa, .lst (F.map dI))]) (fun H5 e => I4.ext e) (fun j σ H' I5 => I5.at (j := 1) rfl)
      (fun j dd v σ5 H5 hd I5 hv => ?_) fun σ5 H5 I5 => ?_)
    · obtain ⟨hj, rfl⟩ := get_dI' hd
      have htake : F.take (j + 1) = F.take j ++ [F.getD j []] := by
        rw [List.take_add_one, List.getD_eq_getElem?_getD, List.getElem?_eq_getElem hj]; rfl
      have hsl := hrl _ (getD_mem (d := []) hj)
      rw [htake, List.flatMap_append, List.flatMap_cons, List.flatMap_nil, List.append_nil, List.map_append]
      have hdn : ((F.take j).flatMap fun s => (List.range q.z.toNat).map fun (w : Nat) => s ++ [(w : Int)]).length ≤ 2197 * 13 := by
        refine Nat.le_trans (flatMap_len (c := 13) (fun x => ?_) _) ?_
        · rw [List.length_map, List.length_range]; omega
        · rw [List.length_take]
          exact Nat.mul_le_mul_right _ (by omega)
      generalize ((F.take j).flatMap fun s => (List.range q.z.toNat).map fun (w : Nat) => s ++ [(w : Int)]) = done at I5 hdn
      generalize F.getD j [] = some_ at hv hsl
      have I6 : SI H H H5 _ [ii q.z, ii (d : Int), .r fa, ii (i : Int), .r la, dt some_, .u] [(la, .lst (done.map dI)), (fa, .lst (F.map dI))] := I5.setD 5 hv
      show tDrop _ _ _ _
      try dsimp only
      refine s_ext (j := 0) I6 (x_ref I6 rfl) rfl (EvN.is (n_lc1 (j := 6) I6 (src_r1 (a_cons (x_var I6 rfl) a_nil) (by omega)) (by omega) (fun n => .int (n : Int)) itR (fun (n : Nat) => dI (some_ ++ [(n : Int)])) fun n σ7 H7 hn I7 => ?_) (es := ((List.range q.z.toNat).map fun (w : Nat) => some_ ++ [(w : Int)]).map dI) (map_dIs _ _)) (by simp only [List.length_map, List.length_range]; omega) fun H7 I7 => I7.u 5
      refine EvX.is (x_catT (x_var I7 rfl) (x_tup (ds := [.int (n : Int)]) (a_cons (x_var I7 rfl) a_nil) (by show 1 ≤ 100000; decide)) (by rw [len_int, hsl]; show i + 1 ≤ 100000; omega)) ?_
      show Sl.d (.tuple _) = Sl.d (.tuple ((some_ ++ [(n : Int)]).map PyData.int))
      rw [List.map_append]; rfl
    · rw [List.length_map, List.take_length] at I5
      try dsimp only
      refine s_setR I5 (x_ref (p := la) I5 rfl) fun σ6 H6 I6 => ?_
      exact ⟨la, ((I6.sub (.cons₂ _ (.cons _ .slnil))).u 3).u 4⟩
  · obtain ⟨fa, I2⟩ := p
    rw [Int.toNat_natCast] at I2
    have hlen := Nat.le_trans (monicsF_len (q := q) d) (pow13 hd3)
    have hlm : lawMonics q.z d = (monicsF q.z d).map fun s => s ++ [1] := rfl
    have hrl : ∀ r, r ∈ monicsF q.z d → r.length = d := fun r hr => (monicsF_ok (q := q) d r hr).1
    generalize monicsF q.z d = F at I2 hlen hlm hrl
    have hn : (F.map dI).length = F.length := List.length_map ..
    try dsimp only
    refine s_retN I2 (EvN.is (n_lc1 (j := 5) I2 (src_lst (x_own (j := 0) I2 rfl (x_ref I2 rfl))) (by rw [hn]; omega) (fun i => dI (F.getD i [])) itL (fun i => dI (F.getD i [] ++ [1])) fun i σ5 H5 hi I5 => ?_) ?_) k
    · have hi : i < F.length := by rw [hn] at hi; exact hi
      have hsl := hrl _ (getD_mem (d := []) hi)
      refine EvX.is (x_catT (x_var I5 rfl) (x_tup (ds := [.int 1]) (a_cons x_int a_nil) (by decide)) (by rw [len_int, hsl]; show d + 1 ≤ 100000; omega)) ?_
      show Sl.d (.tuple _) = Sl.d (.tuple ((F.getD i [] ++ [1]).map PyData.int))
      rw [List.map_append]; rfl
    · rw [hn, map_dIs, map_rangeL F (fun s => s ++ [1]), ← hlm]
def sp_law_is_prime (K : PySem.W.Frag) : Sp := spF (fun x : P6 × LI => [ii x.1.z, dt x.2]) (fun x => IsC x.1 x.2 ∧ Irr (toP x.1 x.2) ∧ x.2.length ≤ 8) (fun _ => .bool true)
abbrev st_law_is_prime : Stmt := topS 48
theorem sc_law_is_prime : FnScope ["_law_prime", "_law_poly_here", "_law_degree", "_law_by"] ["_law_prime", "_law_poly_here"] (defScope st_law_is_prime) := ⟨rfl, rfl, rfl, by decide +kernel, rfl, by decide +kernel, by decide +kernel⟩
theorem ok_law_is_prime {f aP : Addr} {fd : FuncData} (F : Fun K "_law_is_prime" "_law_is_prime" st_law_is_prime f fd) (T : Txt K mg aP) (c_law_monics : Cal P w K mg base "_law_monics" 1 ["_law_prime", "_law_degree"] (sp_law_monics K)) (c_law_left : Cal P w K mg base "_law_left" 2 ["_law_prime", "_law_poly_here", "_law_by"] (sp_law_left K)) : FnOk P w K mg base CX0 3 f fd ["_law_prime", "_law_poly_here"] (sp_law_is_prime K) := by
  refine F.ok sc_law_is_prime (fun vs H Q E h => ?_) (fun cdv A outer s H vs Q E hr h => ?_)
  · exact len_of (fun x => by first | rfl | (obtain ⟨_, _⟩ := x; rfl)) h
  obtain ⟨_, _, hsd, ⟨x, rfl, rfl, pre⟩, k⟩ := h
  have I := start_ok (N := ["_law_prime", "_law_poly_here", "_law_degree", "_law_by"]) hsd
  refine ⟨_, (pss_cons (ps_for PassesOwn.never rfl (pi_range2 (by rfl) T.range_ (pa_cons pe_int (pa_cons (pe_op op_add (pe_op op_fdiv (pe_op op_sub (pe_callB (k_len K rfl) (by rfl) T.len_ (by decide +kernel) (pa_cons (pv 1) pa_nil)) pe_int) pe_int) pe_int) pa_nil))) (pg_name (i := 2) sc_law_is_prime.nd rfl (by first | exact Or.inl rfl | exact Or.inr rfl)) (pss_one (ps_if (pt_val (pe_callB (k_any K rfl rfl) (by rfl) T.any_ (by decide +kernel) (pa_cons (pe_lc (own := [("_law_by", 3)]) (g := (gName 3)) (tt := tYes) rfl sc_law_is_prime.nd (k_pil K rfl (pe_callC c_law_monics (hr.mono (by decide)) (by rfl) (pa_cons (pv 0) (pa_cons (pv 2) pa_nil)))) (blkOk_by (own := [("_law_by", 3)]) (N := ["_law_prime", "_law_poly_here", "_law_degree", "_law_by"]) (sc := defScope st_law_is_prime) (by decide +kernel)) (fun _ _ _ _ _ => (pg_name (i := 3) sc_law_is_prime.nd rfl (by first | exact Or.inl rfl | exact Or.inr rfl))) (fun _ _ _ _ _ => pts_nil) (fun _ _ _ _ _ => (pe_cmpR (k_eqD K rfl hr.units) (pe_callC c_law_left (hr.mono (by decide)) (by rfl) (pa_cons (pv 0) (pa_cons (pv 1) (pa_cons (pv 3) pa_nil)))) (pe_tup pa_nil) (nomark _)))) pa_nil))) (pss_one (ps_ret pe_bl)) pss_nil))) (pss_one (ps_ret (pe_cmpR op_gt (pe_callB (k_len K rfl) (by rfl) T.len_ (by decide +kernel) (pa_cons (pv 1) pa_nil)) pe_int (nomark _))))), ?_⟩
  obtain ⟨q, l⟩ := x
  obtain ⟨c1, hi, l1⟩ := pre
  have c1 : IsC q l := c1
  have hi : Irr (toP q l) := hi
  have l1 : l.length ≤ 8 := l1
  have hq := p_bd q
  have h2 : 2 ≤ l.length := by rw [← c1.len]; exact hi.1
  have I : SI H H H _ [ii q.z, dt l, .u, .u] [] := I
  try dsimp only
  refine sq (s_for_r2 (j := 2) (lo := 1) (n := ((l.length : Int) - 1) / 2 + 1) (by rw [← lenz l]; exact a_cons x_int (a_cons (x_add (x_fdiv (x_sub (x_lenT (x_var I rfl)) x_int) x_int ⟨by decide, by decide⟩) x_int) a_nil)) (by omega) (fun i σ H' => SI H H H' σ [ii q.z, dt l, .u, .u] []) (fun H2 e => I.ext e) (fun i σ2 H2 hi2 I2 => ?_) fun σ2 H2 I2 => ?_)
  · have I3 : SI H H H2 _ [ii q.z, dt l, ii (1 + (i : Int)), .u] [] := I2.setD 2 (Tp.int (1 + (i : Int)))
    rw [show (1 : Int) + (i : Int) = ((i + 1 : Nat) : Int) by omega] at I3 ⊢
    have hdeg : i + 1 ≤ (l.length - 1) / 2 := by omega
    have hd3 : i + 1 ≤ 3 := by omega
    have hml : (lawMonics q.z (i + 1)).length ≤ 2197 := by
      unfold lawMonics
      rw [List.length_map]
      exact Nat.le_trans (monicsF_len _) (pow13 hd3)
    have hm : ∀ m, m ∈ lawMonics q.z (i + 1) → m.length = i + 1 + 1 ∧ Rg q m ∧ lawLeft q.z l m ≠ [] := fun m hm => ⟨(monics_ok hm).1, (monics_ok hm).2.1, prime_left c1 hi (by omega) hdeg hm⟩
    have hcall : ∀ {σ : L2.St} {H9 : Hp} {ta : TA}, EvAs ta σ H9 [ii q.z, ii ((i + 1 : Nat) : Int)] → EvN (tCall (sp_law_monics K) [] E0 ta) σ H9 ((lawMonics q.z (i + 1)).map dI) := fun h => n_callL (q, i + 1) h hd3
    generalize lawMonics q.z (i + 1) = M at hml hm hcall
    have hn : (M.map dI).length = M.length := List.length_map ..
    try dsimp only
    refine s_when (b := false) I3 (t_B (EvX.is (x_any (EvN.x (EvN.is (n_lc1 (j := 3) I3 (src_lst (EvN.x (hcall (a_cons (x_var I3 rfl) (a_cons (x_var I3 rfl) a_nil))))) (by rw [hn]; omega) (fun i => dI (M.getD i [])) itL (fun i => .bool (decide (lawLeft q.z l (M.getD i []) = []))) fun i σ5 H5 hi5 I5 => ?_)
      (es := ((List.range M.length).map fun i => decide (lawLeft q.z l (M.getD i []) = [])).map PyData.bool) (by rw [hn, map_bools])))) ?_)) (fun e => nomatch e) fun _ H4 I4 => I4.u 2
    · have hmm := hm _ (getD_mem (d := []) (by rw [hn] at hi5; exact hi5))
      have hl10 : l.length ≤ 10000 := by omega
      have hb10 : (M.getD i []).length ≤ 10000 := by rw [hmm.1]; omega
      have hbn : M.getD i [] ≠ [] := fun z => by have := hmm.1; rw [z] at this; exact nomatch this
      exact x_isE (x_callF (q, l, M.getD i []) (a_cons (x_var I5 rfl) (a_cons (x_var I5 rfl) (a_cons (x_var I5 rfl) a_nil))) ⟨c1.1, hmm.2.1, hbn, hl10, hb10⟩) x_e
    · congr 2
      rw [List.any_eq_false]
      intro b hb
      obtain ⟨i, hi6, rfl⟩ := List.mem_map.mp hb
      have hmm := hm _ (getD_mem (d := []) (List.mem_range.mp hi6))
      show ¬ decide _ = true
      rw [decide_eq_false hmm.2.2]; decide
  · try dsimp only
    refine s_ret I2 (EvX.is (x_gt (x_lenT (x_var I2 rfl)) x_int) ?_) k
    rw [lenz, decide_eq_true (by omega)]
def sp_law_is_poly (K : PySem.W.Frag) : Sp := spF (fun x : P6 × LI => [dt x.2, ii x.1.z]) (fun x => IsC x.1 x.2 ∧ x.2.length ≤ 10000) (fun _ => .bool true)
abbrev st_law_is_poly : Stmt := topS 50
theorem sc_law_is_poly : FnScope ["_law_told", "_law_prime", "_law_worth"] ["_law_told", "_law_prime"] (defScope st_law_is_poly) := ⟨rfl, rfl, rfl, by decide +kernel, rfl, by decide +kernel, by decide +kernel⟩
theorem ok_law_is_poly {f aP : Addr} {fd : FuncData} (F : Fun K "_law_is_poly" "_law_is_poly" st_law_is_poly f fd) (T : Txt K mg aP) (c_law_cut : Cal P w K mg base "_law_cut" 1 ["_law_worths"] (sp_law_cut K)) : FnOk P w K mg base CX0 2 f fd ["_law_told", "_law_prime"] (sp_law_is_poly K) := by
  refine F.ok sc_law_is_poly (fun vs H Q E h => ?_) (fun cdv A outer s H vs Q E hr h => ?_)
  · exact len_of (fun x => by first | rfl | (obtain ⟨_, _⟩ := x; rfl)) h
  obtain ⟨_, _, hsd, ⟨x, rfl, rfl, pre⟩, k⟩ := h
  have I := start_ok (N := ["_law_told", "_law_prime", "_law_worth"]) hsd
  refine ⟨_, (pss_cons (ps_if (PW.pt (pw_or (pt_not (pt_val (pe_callB (k_isi K rfl) (by rfl) T.isinstance_ (by decide +kernel) (pa_cons (pv 0) (pa_cons (pe_bltn (v := .ty "tuple") (by rfl) T.tuple_ (by decide +kernel) rfl) pa_nil))))) (pw_or1 (pt_cmpR (k_neD K rfl hr.units) (pv 0) (pe_callC c_law_cut (hr.mono (by decide)) (by rfl) (pa_cons (pv 0) pa_nil)) (nomark _))))) (pss_one (ps_ret pe_bl)) pss_nil) (pss_one (ps_ret (pe_callB (k_all K rfl rfl) (by rfl) T.all_ (by decide +kernel) (pa_cons (pe_lc (own := [("_law_worth", 2)]) (g := (gName 2)) (tt := tYes) rfl sc_law_is_poly.nd (k_pit K rfl (pv 0)) (blkOk_by (own := [("_law_worth", 2)]) (N := ["_law_told", "_law_prime", "_law_worth"]) (sc := defScope st_law_is_poly) (by decide +kernel)) (fun _ _ _ _ _ => (pg_name (i := 2) sc_law_is_poly.nd rfl (by first | exact Or.inl rfl | exact Or.inr rfl))) (fun _ _ _ _ _ => pts_nil) (fun _ _ _ _ _ => (pe_and (pe_callB (k_isi K rfl) (by rfl) T.isinstance_ (by decide +kernel) (pa_cons (pv 2) (pa_cons (pe_bltn (v := .ty "int") (by rfl) T.int_ (by decide +kernel) rfl) pa_nil))) (pe_and (pe_not (pe_callB (k_isi K rfl) (by rfl) T.isinstance_ (by decide +kernel) (pa_cons (pv 2) (pa_cons (pe_bltn (v := .ty "bool") (by rfl) T.bool_ (by decide +kernel) rfl) pa_nil)))) (pe_one (pe_chain op_le op_lt pe_int (pv 2) (pv 1))))))) pa_nil))))), ?_⟩
  obtain ⟨q, l⟩ := x
  obtain ⟨c1, l1⟩ := pre
  have c1 : IsC q l := c1
  have l1 : l.length ≤ 10000 := l1
  have l1k : l.length ≤ 100000 := by omega
  have I : SI H H H _ [dt l, ii q.z, .u] [] := I
  try dsimp only
  refine sq (s_when (b := false) I (EvT.is (t_or (t_not (t_B (isi_tup (T := "tuple") (b := true) (x_var I rfl) (by decide +kernel)))) fun _ => t_B (x_neT (x_var I rfl) (x_callF (false, l) (a_cons (x_var I rfl) a_nil) l1k))) (by rw [decide_eq_true c1.trim.symm]; rfl)) (fun e => nomatch e) fun _ H1 I1 => ?_)
  try dsimp only
  refine s_ret I1 (EvX.is (x_all (EvN.x (EvN.is (n_lc1 (j := 2) I1 (src_tup (x_var I1 rfl)) (by rw [len_int]; omega) (fun i => .int (l.getD i 0)) itI (fun i => .bool (true && (!false && (decide (0 ≤ l.getD i 0) && decide (l.getD i 0 < q.z))))) fun i σ2 H2 hi I2 =>
    x_andV (isi_int (T := "int") (b := true) (x_var I2 rfl) (by decide +kernel)) fun _ => x_andV (x_notV (isi_int (T := "bool") (b := false) (x_var I2 rfl) (by decide +kernel))) fun _ => x_chain x_int (x_var I2 rfl) (x_var I2 rfl))
    (es := ((List.range l.length).map fun i => (true && (!false && (decide (0 ≤ l.getD i 0) && decide (l.getD i 0 < q.z))))).map PyData.bool) (by rw [len_int, map_bools])))) ?_) k
  congr 2
  rw [List.all_eq_true]
  intro b hb
  obtain ⟨i, _, rfl⟩ := List.mem_map.mp hb
  have := c1.1.get i
  show (true && (!false && (decide _ && decide _))) = true
  rw [decide_eq_true this.1, decide_eq_true this.2]; rfl
end
end Wk
end
section
set_option Elab.async false
set_option linter.all false
set_option maxRecDepth 100000
set_option maxHeartbeats 4000000
/-! The law's own defs, one by one: together, told_right. -/
namespace Wk
open PySem PySem.Spec PyProof.Rows L2 Evl Mw
open Lean.Grind in
theorem get_dP {m : Dic} {i : Nat} (h : i < m.length) : (m.map dP)[i]? = some (dP (m.getD i ([], 0))) := by
  rw [List.getElem?_map, List.getElem?_eq_getElem h, List.getD_eq_getElem?_getD, List.getElem?_eq_getElem h]; rfl
theorem get_dP' {m : Dic} {i : Nat} {d : PD} (h : (m.map dP)[i]? = some d) : i < m.length ∧ d = dP (m.getD i ([], 0)) := by
  have hi : i < m.length := by
    have := (List.getElem?_eq_some_iff.mp h).1
    simpa using this
  rw [get_dP hi] at h
  exact ⟨hi, (Option.some.inj h).symm⟩
theorem itP {m : Dic} : ∀ i x H', i < (m.map dP).length → ItD (m.map dP) i x H' → Tp H' x (dP (m.getD i ([], 0))) := fun i x H' _ ⟨d, h1, h2⟩ => by rw [(get_dP' h1).2] at h2; exact h2
theorem find_key {m : Dic} {k : LI} (h : k ∈ m.map (·.1)) : (m.find? fun kv => decide (kv.1 = k)).map (·.2) = some (getDic m k) := by
  unfold getDic
  cases e : m.find? fun kv => decide (kv.1 = k) with
  | some p => rfl
  | none =>
    obtain ⟨p, hp, rfl⟩ := List.mem_map.mp h
    have := List.find?_eq_none.mp e p hp
    exact absurd (decide_eq_true rfl) this
theorem adds_le : ∀ (L d : Dic), (L.foldl addDic d).length ≤ d.length + L.length
  | [], d => Nat.le_refl _
  | x :: L, d => by
    have := adds_le L (addDic d x)
    have h1 : (addDic d x).length ≤ d.length + 1 := putD_le _ _ _
    rw [List.foldl_cons, List.length_cons]
    omega
theorem len_dP (m : Dic) : (m.map dP).length = m.length := List.length_map ..
section
variable {P : Program} {w : World} {K : PySem.W.Frag} {mg : Str → Option Value} {base : Heap}
def sp_law_together (K : PySem.W.Frag) : Sp := spF (fun x : P6 × Dic × Dic => [.d (dPs x.2.1), .d (dPs x.2.2)]) (fun x => GoodD x.1 x.2.1 ∧ GoodD x.1 x.2.2 ∧ x.2.1.length ≤ 1000 ∧ x.2.2.length ≤ 1000) (fun x => dPs (together x.2.1 x.2.2))
abbrev st_law_together : Stmt := topS 52
theorem sc_law_together : FnScope ["_law_told", "_law_more", "_law_found", "_law_some", "_law_power"] ["_law_told", "_law_more"] (defScope st_law_together) := ⟨rfl, rfl, rfl, by decide +kernel, rfl, by decide +kernel, by decide +kernel⟩
theorem ok_law_together {f aP : Addr} {fd : FuncData} (F : Fun K "_law_together" "_law_together" st_law_together f fd) (T : Txt K mg aP)  : FnOk P w K mg base CX0 1 f fd ["_law_told", "_law_more"] (sp_law_together K) := by
  refine F.ok sc_law_together (fun vs H Q E h => ?_) (fun cdv A outer s H vs Q E hr h => ?_)
  · exact len_of (fun x => by first | rfl | (obtain ⟨_, _⟩ := x; rfl)) h
  obtain ⟨_, _, hsd, ⟨x, rfl, rfl, pre⟩, k⟩ := h
  have I := start_ok (N := ["_law_told", "_law_more", "_law_found", "_law_some", "_law_power"]) hsd
  refine ⟨_, (pss_cons (ps_set (i := 2) sc_law_together.nd rfl (by first | exact Or.inl rfl | exact Or.inr rfl) pe_dnewT) (pss_cons (ps_for PassesOwn.never rfl (k_pit K rfl (pe_op (k_catA K rfl) (pv 0) (pv 1))) (pg_tup (by rfl) (pgs_cons (pg_name (i := 3) sc_law_together.nd rfl (by first | exact Or.inl rfl | exact Or.inr rfl)) (pgs_cons (pg_name (i := 4) sc_law_together.nd rfl (by first | exact Or.inl rfl | exact Or.inr rfl)) pgs_nil))) (pss_one (ps_dput (hu_of hr) (pv 2) (pv 3) (pe_op op_add (pe_dget2 (hu_of hr) (pv 2) (pv 3) pe_int ⟨rfl, rfl, rfl, rfl⟩) (pv 4)) rfl))) (pss_one (ps_ret (pe_callTy (k_tuple K rfl) (by rfl) T.tuple_ (by decide +kernel) (pa_cons (pe_lc (own := [("_law_some", 3)]) (g := (gName 3)) (tt := tYes) rfl sc_law_together.nd (k_pil K rfl (pe_callB (cr_sortedK rfl hr.units) (by rfl) T.sorted_ (by decide +kernel) (pa_cons (pv 2) pa_nil))) (blkOk_by (own := [("_law_some", 3)]) (N := ["_law_told", "_law_more", "_law_found", "_law_some", "_law_power"]) (sc := defScope st_law_together) (by decide +kernel)) (fun _ _ _ _ _ => (pg_name (i := 3) sc_law_together.nd rfl (by first | exact Or.inl rfl | exact Or.inr rfl))) (fun _ _ _ _ _ => pts_nil) (fun _ _ _ _ _ => (pe_tup (pa_cons (pv 3) (pa_cons (pe_dget (hu_of hr) (pv 2) (pv 3) (fun _ _ => rfl)) pa_nil))))) pa_nil)))))), ?_⟩
  obtain ⟨q, a, b⟩ := x
  obtain ⟨ga, gb, l1, l2⟩ := pre
  have ga : GoodD q a := ga
  have gb : GoodD q b := gb
  have l1 : a.length ≤ 1000 := l1
  have l2 : b.length ≤ 1000 := l2
  have I : SI H H H _ [.d (dPs a), .d (dPs b), .u, .u, .u] [] := I
  try dsimp only
  refine sq (s_dnew I fun d σ1 H1 I1 => ?_)
  have I1 : SI H H H1 σ1 [.d (dPs a), .d (dPs b), .r d, .u, .u] [(d, .raw (.dT (dtK [])))] := I1
  try dsimp only
  refine sq (s_for_tup (g := gTup K 2 (gCons (gName 3) (gCons (gName 4) gNil))) I1 (EvX.is (x_catT (x_var I1 rfl) (x_var I1 rfl) (by rw [len_dP, len_dP]; omega)) (s' := .d (dPs (a ++ b))) (by show Sl.d (.tuple _) = Sl.d (.tuple ((a ++ b).map dP)); rw [List.map_append]))
    (fun B i σ H' => SI H B H' σ [.d (dPs a), .d (dPs b), .r d, .u, .u] [(d, .raw (.dT (dtK (((a ++ b).take i).foldl addDic []))))]) (fun H2 t I2 => I2) (fun B i σ H' I2 => I2.tb) (fun B i dd v σ2 H2 hd I2 hv => ?_) fun B σ2 H2 I2 => ?_)
  · obtain ⟨hi, rfl⟩ := get_dP' hd
    have htk : (a ++ b).take (i + 1) = (a ++ b).take i ++ [(a ++ b).getD i ([], 0)] := by
      rw [List.take_add_one, List.getD_eq_getElem?_getD, List.getElem?_eq_getElem hi]; rfl
    have hle := adds_le ((a ++ b).take i) []
    rw [List.length_take] at hle
    rw [htk, List.foldl_append]
    generalize (a ++ b).getD i ([], 0) = x at hv
    have hle2 : (((a ++ b).take i).foldl addDic []).length < 100000 := by
      have : (a ++ b).length = a.length + b.length := List.length_append
      have h0 : ([] : Dic).length = 0 := rfl
      omega
    generalize ((a ++ b).take i).foldl addDic [] = m at I2 hle2
    cases hv with
    | @tup p xs _ h1 h2 =>
      cases h2 with
      | @cons v1 _ _ _ hx h3 =>
        cases h3 with
        | @cons v2 _ _ _ hy h4 =>
          cases h4
          refine ⟨_, _, rfl, .inl (.inl h1), rfl, _, _, rfl, _, [], rfl, rfl, ?_⟩
          have I3 : SI H B H2 _ [.d (dPs a), .d (dPs b), .r d, dt x.1, ii x.2] [(d, .raw (.dT (dtK m)))] := (I2.setD 3 hx).setD 4 hy
          try dsimp only
          refine s_dput (j := 0) I3 (x_add (x_dget2 (x_ref I3 rfl) (x_var I3 rfl) x_int (I3.at (j := 0) rfl |> Rd.of)) (x_var I3 rfl)) (x_ref I3 rfl) rfl (x_var I3 rfl) hle2 fun H4 I4 => ?_
          exact ((I4.u 3).u 4)
  · rw [len_dP, List.take_length] at I2
    have htg : together a b = ((((a ++ b).foldl addDic []).map (·.1)).mergeSort leL).map fun k => (k, getDic ((a ++ b).foldl addDic []) k) := rfl
    have hg : GoodD q ((a ++ b).foldl addDic []) := by
      rw [List.foldl_append]
      obtain ⟨r1, r2⟩ := foldl_addDic_ok a [] ga GoodD.nil
      exact (foldl_addDic_ok b _ gb r1).1
    have hle := adds_le (a ++ b) []
    have hle2 : ((a ++ b).foldl addDic []).length ≤ 2000 := by
      have : (a ++ b).length = a.length + b.length := List.length_append
      have h0 : ([] : Dic).length = 0 := rfl
      omega
    generalize (a ++ b).foldl addDic [] = m at I2 htg hg hle2
    have hkey : (m.map fun p => dI p.1) = (m.map (·.1)).map dI := by rw [List.map_map]; rfl
    have hne : ∀ l, l ∈ m.map (·.1) → l ≠ [] := fun l hl => by
      obtain ⟨p, hp, rfl⟩ := List.mem_map.mp hl
      intro z
      have h1 := (hg.1 p hp).2.1.1
      rw [(hg.1 p hp).1.len, z] at h1
      simp at h1
    have hfd : H2 d = some (.dT (dtK m)) := I2.at (j := 0) rfl
    have hsrt := n_sortK (a := d) (m := m) (x_ref (i := 2) (p := d) I2 rfl) hfd (by rw [hkey]; exact all_dI _) (by rw [hkey]; exact srt_dI hne) (fun p _ => by rw [dep_dI]; decide)
    rw [hkey, sort_dI] at hsrt
    have hmem : ∀ k, k ∈ (m.map (·.1)).mergeSort leL → k ∈ m.map (·.1) := fun k hk => (List.mem_mergeSort).mp hk
    have hkl : ((m.map (·.1)).mergeSort leL).length ≤ 2000 := by rw [List.length_mergeSort, List.length_map]; exact hle2
    generalize (m.map (·.1)).mergeSort leL = KS at hsrt htg hmem hkl
    have hn : (KS.map dI).length = KS.length := List.length_map ..
    try dsimp only
    refine s_ret I2 (EvX.is (x_tupL (EvN.x (n_lc1 (j := 3) I2 (src_lst (EvN.x hsrt)) (by rw [hn]; omega) (fun i => dI (KS.getD i [])) itL (fun i => dP (KS.getD i [], getDic m (KS.getD i []))) fun i σ3 H3 hi I3 => ?_))) ?_) k
    · have hk := hmem _ (getD_mem (d := []) (by rw [hn] at hi; exact hi))
      exact x_tup (ds := [dI (KS.getD i []), .int (getDic m (KS.getD i []))]) (a_cons (x_var I3 rfl) (a_cons (x_dget (m := m) (x_ref I3 rfl) (x_var I3 rfl) (.inl (I3.at (j := 0) rfl)) (find_key hk)) a_nil)) (by show 2 ≤ 100000; decide)
    · show Sl.d (.tuple _) = Sl.d (dPs (together a b))
      rw [htg, hn, map_rangeL KS (fun k => dP (k, getDic m k))]
      show Sl.d (.tuple _) = Sl.d (.tuple ((KS.map fun k => (k, getDic m k)).map dP))
      rw [List.map_map]
      rfl
theorem len_pow {q : P6} {p : Poly (Fq q)} (h : 2 ≤ len p) : ∀ n : Nat, n + 1 ≤ len (p ^ n)
  | 0 => by rw [Lean.Grind.Semiring.pow_zero, len_one]; exact Nat.le_refl _
  | n + 1 => by
    have ih := len_pow h n
    rw [Lean.Grind.Semiring.pow_succ, Mw.len_mul (by omega) (by omega)]
    omega
theorem srt_same {m : Dic} (h : SrtD m) : m.mergeSort leP = m := List.mergeSort_of_pairwise (h.imp fun {x y} hxy => by
  unfold leP
  rw [if_neg fun e => by rw [e, ltL_irrefl] at hxy; exact nomatch hxy]
  exact hxy)
theorem cut_last {l : LI} (h : l ≠ []) : cutD (l.map PyData.int) (some (-1)) none = [.int (lastI l)] := by
  obtain ⟨m, a, rfl⟩ : ∃ m a, l = m ++ [a] := ⟨l.dropLast, l.getLast h, (List.dropLast_concat_getLast h).symm⟩
  rw [lastI_snoc]
  unfold cutD
  rw [HT.sIx_none]
  have e : HT.sIx ((m ++ [a]).map PyData.int).length 0 (some (-1)) = m.length := by
    unfold HT.sIx
    simp only
    rw [if_pos (by decide), List.length_map, List.length_append, List.length_singleton]
    omega
  rw [e, List.map_append, List.drop_append_of_le_length (by rw [List.length_map]; exact Nat.le_refl _), List.drop_of_length_le (by rw [List.length_map]; exact Nat.le_refl _), List.nil_append]
  refine List.take_of_length_le ?_
  simp
def sp_law_told_right (K : PySem.W.Frag) : Sp := spF (fun x : P6 × LI × Dic => [ii x.1.z, dt x.2.1, .d (dPs x.2.2)]) (fun x => IsC x.1 x.2.1 ∧ x.2.1 ≠ [] ∧ x.2.1.length ≤ 8 ∧ GoodD x.1 x.2.2 ∧ SrtD x.2.2 ∧ Poly.C (cf x.1 (lastI x.2.1)) * prodD x.1 x.2.2 = toP x.1 x.2.1 ∧ x.2.2.length ≤ 1000) (fun _ => .bool true)
abbrev st_law_told_right : Stmt := topS 51
theorem sc_law_told_right : FnScope ["_law_prime", "_law_poly_here", "_law_told", "_law_whole", "_law_some", "_law_power", "_law_turn", "_law_pair", "_law_k"] ["_law_prime", "_law_poly_here", "_law_told"] (defScope st_law_told_right) := ⟨rfl, rfl, rfl, by decide +kernel, rfl, by decide +kernel, by decide +kernel⟩
theorem ok_law_told_right {f aP : Addr} {fd : FuncData} (F : Fun K "_law_told_right" "_law_told_right" st_law_told_right f fd) (T : Txt K mg aP) (c_law_product : Cal P w K mg base "_law_product" 2 ["_law_prime", "_law_one", "_law_other"] (sp_law_product K)) (c_law_is_prime : Cal P w K mg base "_law_is_prime" 3 ["_law_prime", "_law_poly_here"] (sp_law_is_prime K)) (c_law_is_poly : Cal P w K mg base "_law_is_poly" 2 ["_law_told", "_law_prime"] (sp_law_is_poly K)) : FnOk P w K mg base CX0 4 f fd ["_law_prime", "_law_poly_here", "_law_told"] (sp_law_told_right K) := by
  refine F.ok sc_law_told_right (fun vs H Q E h => ?_) (fun cdv A outer s H vs Q E hr h => ?_)
  · exact len_of (fun x => by first | rfl | (obtain ⟨_, _⟩ := x; rfl)) h
  obtain ⟨_, _, hsd, ⟨x, rfl, rfl, pre⟩, k⟩ := h
  have I := start_ok (N := ["_law_prime", "_law_poly_here", "_law_told", "_law_whole", "_law_some", "_law_power", "_law_turn", "_law_pair", "_law_k"]) hsd
  refine ⟨_, (pss_cons (ps_if (PW.pt (pw_or (pt_not (pt_val (pe_callB (k_isi K rfl) (by rfl) T.isinstance_ (by decide +kernel) (pa_cons (pv 2) (pa_cons (pe_bltn (v := .ty "tuple") (by rfl) T.tuple_ (by decide +kernel) rfl) pa_nil))))) (pw_or1 (pt_not (pt_val (pe_callB (k_all K rfl rfl) (by rfl) T.all_ (by decide +kernel) (pa_cons (pe_lc (own := [("_law_pair", 7)]) (g := (gName 7)) (tt := tYes) rfl sc_law_told_right.nd (k_pit K rfl (pv 2)) (blkOk_by (own := [("_law_pair", 7)]) (N := ["_law_prime", "_law_poly_here", "_law_told", "_law_whole", "_law_some", "_law_power", "_law_turn", "_law_pair", "_law_k"]) (sc := defScope st_law_told_right) (by decide +kernel)) (fun _ _ _ _ _ => (pg_name (i := 7) sc_law_told_right.nd rfl (by first | exact Or.inl rfl | exact Or.inr rfl))) (fun _ _ _ _ _ => pts_nil) (fun _ _ _ _ _ => (pe_and (pe_callB (k_isi K rfl) (by rfl) T.isinstance_ (by decide +kernel) (pa_cons (pv 7) (pa_cons (pe_bltn (v := .ty "tuple") (by rfl) T.tuple_ (by decide +kernel) rfl) pa_nil))) (pe_one (pe_cmpR op_eq (pe_callB (k_len K rfl) (by rfl) T.len_ (by decide +kernel) (pa_cons (pv 7) pa_nil)) pe_int (nomark _)))))) pa_nil))))))) (pss_one (ps_ret pe_bl)) pss_nil) (pss_cons (ps_if (PW.pt (pw_or (pt_cmpR (k_neD K rfl hr.units) (pe_callTy (k_list K rfl) (by rfl) T.list_ (by decide +kernel) (pa_cons (pv 2) pa_nil)) (pe_callB (k_sort K rfl hr.units) (by rfl) T.sorted_ (by decide +kernel) (pa_cons (pv 2) pa_nil)) (nomark _)) (pw_or1 (pt_cmpR op_gt (pe_callB (k_len K rfl) (by rfl) T.len_ (by decide +kernel) (pa_cons (pe_lc (own := [("_law_k", 8)]) (g := (gName 8)) rfl sc_law_told_right.nd (pi_range2 (by rfl) T.range_ (pa_cons pe_int (pa_cons (pe_callB (k_len K rfl) (by rfl) T.len_ (by decide +kernel) (pa_cons (pv 2) pa_nil)) pa_nil))) (blkOk_by (own := [("_law_k", 8)]) (N := ["_law_prime", "_law_poly_here", "_law_told", "_law_whole", "_law_some", "_law_power", "_law_turn", "_law_pair", "_law_k"]) (sc := defScope st_law_told_right) (by decide +kernel)) (fun _ _ _ _ _ => (pg_name (i := 8) sc_law_told_right.nd rfl (by first | exact Or.inl rfl | exact Or.inr rfl))) (fun _ _ _ _ _ => pts_one (pt_cmpR (k_eqD K rfl hr.units) (pe_ix (k_ixT K rfl) (pe_ix (k_ixT K rfl) (pv 2) (pv 8) (fun _ _ => rfl)) pe_int (fun _ _ => rfl)) (pe_ix (k_ixT K rfl) (pe_ix (k_ixT K rfl) (pv 2) (pe_op op_sub (pv 8) pe_int) (fun _ _ => rfl)) pe_int (fun _ _ => rfl)) (nomark _))) (fun _ _ _ _ _ => pe_int)) pa_nil)) pe_int (nomark _))))) (pss_one (ps_ret pe_bl)) pss_nil) (pss_cons (ps_set (i := 3) sc_law_told_right.nd rfl (by first | exact Or.inl rfl | exact Or.inr rfl) (pe_tup (pa_cons (pe_ix (k_ixT K rfl) (pv 1) (pe_un un_neg pe_int) (fun _ _ => rfl)) pa_nil))) (pss_cons (ps_for PassesOwn.never rfl (k_pit K rfl (pv 2)) (pg_tup (by rfl) (pgs_cons (pg_name (i := 4) sc_law_told_right.nd rfl (by first | exact Or.inl rfl | exact Or.inr rfl)) (pgs_cons (pg_name (i := 5) sc_law_told_right.nd rfl (by first | exact Or.inl rfl | exact Or.inr rfl)) pgs_nil))) (pss_cons (ps_if (PW.pt (pw_or (pt_not (pt_val (pe_callC c_law_is_poly (hr.mono (by decide)) (by rfl) (pa_cons (pv 4) (pa_cons (pv 0) pa_nil))))) (pw_or (pt_not (pt_val (pe_callB (k_isi K rfl) (by rfl) T.isinstance_ (by decide +kernel) (pa_cons (pv 5) (pa_cons (pe_bltn (v := .ty "int") (by rfl) T.int_ (by decide +kernel) rfl) pa_nil))))) (pw_or (pt_val (pe_callB (k_isi K rfl) (by rfl) T.isinstance_ (by decide +kernel) (pa_cons (pv 5) (pa_cons (pe_bltn (v := .ty "bool") (by rfl) T.bool_ (by decide +kernel) rfl) pa_nil)))) (pw_or1 (pt_cmpR op_lt (pv 5) pe_int (nomark _))))))) (pss_one (ps_ret pe_bl)) pss_nil) (pss_cons (ps_if (PW.pt (pw_or (pt_cmpR (k_neD K rfl hr.units) (pe_slice (k_slA K rfl) (pv 4) (po_some (pe_un un_neg pe_int)) po_none) (pe_tup (pa_cons pe_int pa_nil)) (nomark _)) (pw_or1 (pt_not (pt_val (pe_callC c_law_is_prime (hr.mono (by decide)) (by rfl) (pa_cons (pv 0) (pa_cons (pv 4) pa_nil)))))))) (pss_one (ps_ret pe_bl)) pss_nil) (pss_one (ps_for PassesOwn.never rfl (pi_range1 (by rfl) T.range_ (pa_cons (pv 5) pa_nil)) (pg_name (i := 6) sc_law_told_right.nd rfl (by first | exact Or.inl rfl | exact Or.inr rfl)) (pss_one (ps_set (i := 3) sc_law_told_right.nd rfl (by first | exact Or.inl rfl | exact Or.inr rfl) (pe_callC c_law_product (hr.mono (by decide)) (by rfl) (pa_cons (pv 0) (pa_cons (pv 3) (pa_cons (pv 4) pa_nil))))))))))) (pss_one (ps_ret (pe_cmpR (k_eqD K rfl hr.units) (pv 3) (pv 1) (nomark _)))))))), ?_⟩
  obtain ⟨q, poly, m⟩ := x
  obtain ⟨c1, hne, l1, gd, sd, hpr, lm⟩ := pre
  have c1 : IsC q poly := c1
  have hne : poly ≠ [] := hne
  have l1 : poly.length ≤ 8 := l1
  have gd : GoodD q m := gd
  have sd : SrtD m := sd
  have hpr : Poly.C (cf q (lastI poly)) * prodD q m = toP q poly := hpr
  have lm : m.length ≤ 1000 := lm
  have hq := p_bd q
  have hpne : toP q poly ≠ 0 := fun z => hne (c1.zero_iff.mp z)
  have I : SI H H H _ [ii q.z, dt poly, .d (dPs m), .u, .u, .u, .u, .u, .u] [] := I
  try dsimp only
  refine sq (s_when (b := false) I (EvT.is (t_or (t_not (t_B (isi_tup (T := "tuple") (b := true) (x_var I rfl) (by decide +kernel)))) fun _ => t_not (t_B (x_all (EvN.x (EvN.is (n_lc1 (j := 7) I (src_tup (x_var I rfl)) (by rw [len_dP]; omega) (fun i => dP (m.getD i ([], 0))) itP (fun i => .bool (true && decide (((2 : Nat) : Int) = 2))) fun i σ2 H2 hi I2 =>
    x_andV (isi_tup (T := "tuple") (b := true) (x_var I2 rfl) (by decide +kernel)) fun _ => EvX.is (x_eqI (x_lenT (x_var I2 rfl)) x_int) rfl)
    (es := ((List.range m.length).map fun i => (true && decide (((2 : Nat) : Int) = 2))).map PyData.bool) (by rw [len_dP, map_bools])))))) (by
      have : (((List.range m.length).map fun i => (true && decide (((2 : Nat) : Int) = 2))).all id) = true := by
        rw [List.all_eq_true]
        intro b hb
        obtain ⟨_, _, rfl⟩ := List.mem_map.mp hb
        rfl
      rw [this]; rfl)) (fun e => nomatch e) fun _ H1 I1 => ?_)
  have hsort := n_sortT (K := K) (x_var (i := 2) I1 rfl) (all_dP m) (srt_dP m) (dpt_dP m)
  rw [sort_dP, srt_same sd] at hsort
  have hdiff : ∀ i, i < ((m.length : Int) - 1).toNat → decide ((m.getD (i + 1) ([], 0)).1 = (m.getD i ([], 0)).1) = false := fun i hi => by
    have h1 : i < m.length := by omega
    have h2 : i + 1 < m.length := by omega
    have := List.pairwise_iff_getElem.mp sd i (i + 1) h1 h2 (by omega)
    refine decide_eq_false fun e => ?_
    rw [List.getD_eq_getElem?_getD, List.getD_eq_getElem?_getD, List.getElem?_eq_getElem h1, List.getElem?_eq_getElem h2] at e
    have e : m[i + 1].1 = m[i].1 := e
    rw [e, ltL_irrefl] at this
    exact nomatch this
  have hfilt : (((List.range ((m.length : Int) - 1).toNat).filter fun i => decide ((m.getD (i + 1) ([], 0)).1 = (m.getD i ([], 0)).1)).map fun _ => PyData.int 1) = [] := by
    rw [List.filter_eq_nil_iff.mpr fun i hi => by rw [hdiff i (List.mem_range.mp hi)]; decide]; rfl
  try dsimp only
  refine sq (s_when (b := false) I1 (EvT.is (t_or (t_B (x_neS (K := K) (a := .list (m.map dP)) (b := .list (m.map dP)) (EvN.x (n_listT (K := K) (x_var (i := 2) I1 rfl))) (EvN.x hsort) (.inr ⟨_, rfl, rfl⟩) (.inr ⟨_, rfl, rfl⟩) (sh_lPs m) (sh_lPs m))) fun _ =>
    t_B (x_gt (x_lenL (EvN.x (EvN.is (n_lcF (j := 8) I1 (src_r2 (lo := 1) (n := (m.length : Int)) (by rw [← len_dP m]; exact a_cons x_int (a_cons (x_lenT (x_var I1 rfl)) a_nil)) (by omega)) (by omega) (fun i => .int (1 + (i : Int))) (fun i x H' _ e => by rw [e]; exact .int _) (fun i => decide ((m.getD (i + 1) ([], 0)).1 = (m.getD i ([], 0)).1)) (fun _ => .int 1)
      (fun i σ2 H2 hi I2 => ?_) fun i σ2 H2 hi _ I2 => x_int) hfilt))) x_int)) (by rw [eqv_lPs]; rfl)) (fun e => nomatch e) fun _ H2 I2 => ?_)
  · have a1 : atI (m.map dP) (1 + (i : Int)) = some (dP (m.getD (i + 1) ([], 0))) := by
      rw [show (1 : Int) + (i : Int) = ((i + 1 : Nat) : Int) by omega]
      exact L2.atI_nat (get_dP (by omega))
    have a2 : atI (m.map dP) (1 + (i : Int) - 1) = some (dP (m.getD i ([], 0))) := by
      rw [show (1 : Int) + (i : Int) - 1 = ((i : Nat) : Int) by omega]
      exact L2.atI_nat (get_dP (by omega))
    exact t_B (x_eqT (x_ixT (x_ixT (x_var I2 rfl) (x_var I2 rfl) a1) x_int rfl) (x_ixT (x_ixT (x_var I2 rfl) (x_sub (x_var I2 rfl) x_int) a2) x_int rfl))
  try dsimp only
  refine sq (s_set I2 (x_tup (ds := [.int (lastI poly)]) (a_cons (x_ixT (x_var I2 rfl) (x_neg x_int) (at_last hne)) a_nil) (by show 1 ≤ 100000; decide)) fun σ3 H3 I3 => ?_)
  have I3 : SI H H H3 σ3 [ii q.z, dt poly, .d (dPs m), dt [lastI poly], .u, .u, .u, .u, .u] [] := I3
  have hlb : 0 ≤ lastI poly ∧ lastI poly < q.z := c1.1.get _
  have hcW : IsC q [lastI poly] := ⟨fun x hx => by rw [List.mem_singleton.mp hx]; exact hlb, fun _ => c1.2 hne⟩
  try dsimp only
  refine sq (s_for_tup (g := gTup K 2 (gCons (gName 4) (gCons (gName 5) gNil))) I3 (x_var I3 rfl) (fun B i σ H' => ∃ W : LI, IsC q W ∧ toP q W = Poly.C (cf q (lastI poly)) * prodD q (m.take i) ∧ SI H B H' σ [ii q.z, dt poly, .d (dPs m), dt W, .u, .u, .u, .u, .u] [])
    (fun H4 t I4 => ⟨[lastI poly], hcW, by rw [toP_const]; show _ = _ * (1 : Poly (Fq q)); grind, I4⟩) (fun B i σ H' p => by obtain ⟨W, _, _, I4⟩ := p; exact I4.tb) (fun B i dd v σ4 H4 hd p hv => ?_) fun B σ4 H4 p => ?_)
  · obtain ⟨hi, rfl⟩ := get_dP' hd
    obtain ⟨W, cW, eW, I4⟩ := p
    have htk : m.take (i + 1) = m.take i ++ [m.getD i ([], 0)] := by
      rw [List.take_add_one, List.getD_eq_getElem?_getD, List.getElem?_eq_getElem hi]; rfl
    have hdr : m = m.take (i + 1) ++ m.drop (i + 1) := (List.take_append_drop _ _).symm
    obtain ⟨gx1, gx2, gx3, gx4⟩ := gd.1 _ (getD_mem (d := ([], 0)) hi)
    have hpm : prodD q m = prodD q (m.take i) * (toP q (m.getD i ([], 0)).1 ^ (m.getD i ([], 0)).2.toNat * prodD q (m.drop (i + 1))) := by
      conv => lhs; rw [hdr, htk]
      rw [prodD_append, prodD_append]
      show prodD q (m.take i) * (toP q (m.getD i ([], 0)).1 ^ (m.getD i ([], 0)).2.toNat * (1 : Poly (Fq q))) * _ = _
      grind
    have hpt : prodD q (m.take (i + 1)) = prodD q (m.take i) * toP q (m.getD i ([], 0)).1 ^ (m.getD i ([], 0)).2.toNat := by
      rw [htk, prodD_append]
      show prodD q (m.take i) * (toP q (m.getD i ([], 0)).1 ^ (m.getD i ([], 0)).2.toNat * (1 : Poly (Fq q))) = _
      grind
    generalize m.getD i ([], 0) = x at hv gx1 gx2 gx3 gx4 hpm hpt
    have xl2 : 2 ≤ x.1.length := by rw [← gx1.len]; exact gx2.1
    have xne : x.1 ≠ [] := fun z => by rw [z] at xl2; simp at xl2
    have hdvp : ∀ n : Nat, n ≤ x.2.toNat → Dv (Poly.C (cf q (lastI poly)) * prodD q (m.take i) * toP q x.1 ^ n) (toP q poly) := fun n hn => by
      refine ⟨toP q x.1 ^ (x.2.toNat - n) * prodD q (m.drop (i + 1)), ?_⟩
      rw [← hpr, hpm]
      have : toP q x.1 ^ x.2.toNat = toP q x.1 ^ n * toP q x.1 ^ (x.2.toNat - n) := by
        rw [← Lean.Grind.Semiring.pow_add, show n + (x.2.toNat - n) = x.2.toNat by omega]
      rw [this]; grind
    have hpow : x.2.toNat ≤ 8 := by
      have h1 : Dv (toP q x.1 ^ x.2.toNat) (toP q poly) := by
        obtain ⟨y, hy⟩ := hdvp _ (Nat.le_refl _)
        exact ⟨Poly.C (cf q (lastI poly)) * prodD q (m.take i) * y, by rw [hy]; grind⟩
      have h2 := (Dv.len h1 hpne).1
      have h3 := len_pow gx2.1 x.2.toNat
      rw [c1.len] at h2
      omega
    have hxl : x.1.length ≤ 8 := by
      have h1 : Dv (toP q x.1) (toP q poly) := by
        obtain ⟨y, hy⟩ := hdvp 1 (by omega)
        exact ⟨Poly.C (cf q (lastI poly)) * prodD q (m.take i) * y, by rw [hy, Lean.Grind.Semiring.pow_succ, Lean.Grind.Semiring.pow_zero]; grind⟩
      have h2 := (Dv.len h1 hpne).1
      rw [c1.len, gx1.len] at h2
      omega
    have xl10 : x.1.length ≤ 10000 := by omega
    have hl1 : lastI x.1 = 1 := by
      have h1 : Mw.lead (toP q x.1) = 1 := gx3
      rw [gx1.lead_eq, ← cf_one] at h1
      have hb := gx1.1.get (x.1.length - 1)
      exact cf_inj h1 hb.1 hb.2 (by omega) (by omega)
    cases hv with
    | @tup p xs _ h1 h2 =>
      cases h2 with
      | @cons v1 _ _ _ hx h3 =>
        cases h3 with
        | @cons v2 _ _ _ hy h4 =>
          cases h4
          refine ⟨_, _, rfl, .inl (.inl h1), rfl, _, _, rfl, _, [], rfl, rfl, ?_⟩
          have I5 : SI H B H4 _ [ii q.z, dt poly, .d (dPs m), dt W, dt x.1, ii x.2, .u, .u, .u] [] := (I4.setD 4 hx).setD 5 hy
          show tSeq _ _ _ _ _
          try dsimp only
          refine sq (s_when (b := false) I5 (EvT.is (t_or (t_not (t_B (x_callF (q, x.1) (a_cons (x_var I5 rfl) (a_cons (x_var I5 rfl) a_nil)) ⟨gx1, xl10⟩))) fun _ => t_or (t_not (t_B (isi_int (T := "int") (b := true) (x_var I5 rfl) (by decide +kernel)))) fun _ => t_or (t_B (isi_int (T := "bool") (b := false) (x_var I5 rfl) (by decide +kernel))) fun _ => t_B (x_lt (x_var I5 rfl) x_int)) (by rw [decide_eq_false (show ¬ x.2 < 1 by omega)]; rfl)) (fun e => nomatch e) fun _ H6 I6 => ?_)
          have hsl := x_slT (K := K) (x_var (i := 4) I6 rfl) (p_some (x_neg (x_int (n := 1)))) p_none
          rw [cut_last xne, hl1] at hsl
          try dsimp only
          refine sq (s_when (b := false) I6 (EvT.is (t_or (t_B (x_neT (K := K) (a := [1]) (b := [1]) hsl (x_tup (ds := [.int 1]) (a_cons x_int a_nil) (by decide)))) fun _ => t_not (t_B (x_callF (q, x.1) (a_cons (x_var I6 rfl) (a_cons (x_var I6 rfl) a_nil)) ⟨gx1, gx2, hxl⟩))) rfl) (fun e => nomatch e) fun _ H7 I7 => ?_)
          try dsimp only
          refine s_for_r1 (j := 6) (n := x.2) (a_cons (x_var I7 rfl) a_nil) (by omega) (fun n σ H' => ∃ W' : LI, IsC q W' ∧ toP q W' = Poly.C (cf q (lastI poly)) * prodD q (m.take i) * toP q x.1 ^ n ∧ SI H B H' σ [ii q.z, dt poly, .d (dPs m), dt W', dt x.1, ii x.2, .u, .u, .u] [])
            (fun H8 e => ⟨W, cW, by rw [eW, Lean.Grind.Semiring.pow_zero]; grind, I7.ext e⟩) (fun n σ8 H8 hn p => ?_) fun σ8 H8 p => ?_
          · obtain ⟨W', cW', eW', I8⟩ := p
            have I9 : SI H B H8 _ [ii q.z, dt poly, .d (dPs m), dt W', dt x.1, ii x.2, ii (n : Int), .u, .u] [] := I8.setD 6 (Tp.int (n : Int))
            have hwl : W'.length ≤ 10000 := by
              have h2 := (Dv.len (hdvp n (by omega)) hpne).1
              rw [← eW', cW'.len, c1.len] at h2
              omega
            try dsimp only
            refine s_set I9 (x_callF (q, W', x.1) (a_cons (x_var I9 rfl) (a_cons (x_var I9 rfl) (a_cons (x_var I9 rfl) a_nil))) ⟨cW'.1, gx1.1, hwl, xl10⟩) fun σ10 H10 I10 => ?_
            obtain ⟨o1, o2⟩ := lawProduct_ok cW' gx1
            refine ⟨lawProduct q.z W' x.1, o1, ?_, I10.u 6⟩
            rw [o2, eW', Lean.Grind.Semiring.pow_succ]; grind
          · obtain ⟨W', cW', eW', I8⟩ := p
            exact ⟨W', cW', by rw [eW', hpt]; grind, (I8.u 4).u 5⟩
  · obtain ⟨W, cW, eW, I4⟩ := p
    rw [len_dP, List.take_length] at eW
    have e : W = poly := cW.inj c1 (eW.trans hpr)
    try dsimp only
    refine s_ret I4 (EvX.is (x_eqT (x_var I4 rfl) (x_var I4 rfl)) ?_) k
    rw [decide_eq_true e]
end
end Wk
end
section
set_option Elab.async false
set_option linter.all false
set_option maxRecDepth 100000
set_option maxHeartbeats 4000000
/-! The law's own defs, one by one: the pot that is drawn from. -/
namespace Wk
open PySem PySem.Spec PyProof.Rows L2 Evl Mw
/-- all but p stays -/
def Exq (p : Addr) (H H' : Hp) : Prop := ∀ b o, b ≠ p → H b = some o → H' b = some o
theorem Exq.refl (p : Addr) (H : Hp) : Exq p H H := fun _ _ _ h => h
theorem Exq.trans {p : Addr} {H H1 H2 : Hp} (a : Exq p H H1) (b : Exq p H1 H2) : Exq p H H2 := fun x o n h => b x o n (a x o n h)
theorem Ex.q {p : Addr} {H H' : Hp} (e : Ex H H') : Exq p H H' := fun b o _ h => e b o h
abbrev potL (c : Addr) (n : Nat) (b d e : Int) : List V := [.ref c, .int (n : Int), .int b, .int d, .int e]
/-- the pot at p, its cells at c -/
def Pot (H : Hp) (p c : Addr) : Prop := ∃ (cs : LI) (n : Nat) (b d e : Int), H p = some (.lst (potL c n b d e)) ∧ H c = some (.lst (cs.map V.int)) ∧ c ≠ p
theorem Pot.ext {H H' : Hp} {p c : Addr} (x : Ex H H') (h : Pot H p c) : Pot H' p c := by
  obtain ⟨cs, n, b, d, e, h1, h2, h3⟩ := h
  exact ⟨cs, n, b, d, e, x _ _ h1, x _ _ h2, h3⟩
theorem Pot.nt {H : Hp} {p c : Addr} (h : Pot H p c) : ∀ xs, H p ≠ some (.tup xs) := fun xs z => by
  obtain ⟨cs, n, b, d, e, h1, _, _⟩ := h
  rw [h1] at z; cases z
theorem Pot.ne {H : Hp} {p c t : Addr} {l : LI} (h : Pot H p c) (ht : H t = some (.lst (l.map V.int))) : t ≠ p := fun z => by
  obtain ⟨cs, n, b, d, e, h1, _, _⟩ := h
  rw [z, h1] at ht
  injection ht with ht
  injection ht with ht
  cases l with
  | nil => cases ht
  | cons x l =>
    rw [List.map_cons] at ht
    injection ht with h5 _
    cases h5
/-- the heap without p -/
def HX (p : Addr) (H : Hp) : Hp := fun b => if b = p then none else H b
theorem HX.ex (p : Addr) (H : Hp) : Ex (HX p H) H := fun b o h => by
  unfold HX at h
  split at h
  · cases h
  · exact h
theorem HX.none (p : Addr) (H : Hp) : HX p H p = none := if_pos rfl
theorem HX.q {p : Addr} {H H' : Hp} (e : Ex (HX p H) H') : Exq p H H' := fun b o n h => e b o (by unfold HX; rw [if_neg n]; exact h)
section
variable {K : PySem.W.Frag} {H0 Hb H H' : Hp} {σ : L2.St} {sl : List Sl} {ob : List (Addr × Ob)} {ta tb te ti tm : TE} {s : Sl} {d : PD} {ds : List PD} {D : Ends} {t u tz : TS} {p c a : Addr} {xs : List V}
theorem SI.exq (I : SI H0 Hb H σ sl ob) (e : Exq p H H') (h0 : H0 p = none) (hp : p ∉ ob.map (·.1)) (hn : ∀ xs, H p ≠ some (.tup xs)) : SI H0 Hb H' σ sl ob := by
  have te : TE' H H' := fun b xs hb => e b _ (fun z => hn xs (z ▸ hb)) hb
  refine ⟨fun b o hb => e b o (fun z => by rw [z, h0] at hb; cases hb) (I.ex b o hb), I.tb.trans te, I.sd.mono te, I.fr, fun q hq => ?_, I.nd⟩
  have hne : q.1 ≠ p := fun z => hp (z ▸ List.mem_map.mpr ⟨q, hq, rfl⟩)
  have ho := I.ok q hq
  cases h : q.2 with
  | lst ds =>
    rw [h] at ho
    obtain ⟨xs, h1, h2⟩ := ho
    exact ⟨xs, e _ _ hne h1, h2.m te⟩
  | raw o =>
    rw [h] at ho
    exact e _ _ hne ho
theorem x_vr {i : Nat} (h : σ[i]? = some (some (.ref p))) : EvX (tVar i) σ H (.r p) := fun H1 _ _ q => ⟨_, h, q _ H1 (Ex.refl H1) rfl⟩
theorem x_vi {i : Nat} {z : Int} (h : σ[i]? = some (some (.int z))) : EvX (tVar i) σ H (ii z) := fun H1 _ _ q => ⟨_, h, q _ H1 (Ex.refl H1) ⟨_, rfl, .int z⟩⟩
theorem x_ixR {v : V} {i : Int} (ho : EvX ta σ H (.r a)) (hH : H a = some (.lst xs)) (hi : EvX ti σ H (ii i)) (hv : atI xs i = some v) (hs : ∀ H', s.ok H' H' (some v)) : EvX (tOp (rIxL K) ta ti) σ H s := fun H1 e1 Q q =>
  ho H1 e1 _ fun x H2 e2 hx => hi.int H2 (e1.trans e2) _ fun H3 e3 => by
    have hx : some x = some (V.ref a) := hx
    cases hx
    exact ⟨a, xs, i, v, rfl, rfl, .inl (.inl (e3 _ _ (e2 _ _ (e1 _ _ hH)))), hv, q v H3 (e2.trans e3) (hs H3)⟩
theorem x_sees (h : EvX te σ H (.r c)) (hH : H c = some (.lst xs)) (ht : TpL H xs ds) : EvX te σ H (.g ds) := fun H1 e1 Q q => h H1 e1 Q fun v H2 e2 hv => by
  have hv : some v = some (V.ref c) := hv
  exact q v H2 e2 ⟨c, xs, hv, e2 _ _ (e1 _ _ hH), (ht.m (te_ex e1)).m (te_ex e2)⟩
theorem s_putR {j n : Nat} {i z : Int} (I : SI H0 Hb H σ sl ob) (h : EvX te σ H (ii z)) (ho : EvX ta σ H (.r a)) (hj : ob[j]? = some (a, .raw (.lst xs))) (hi : EvX ti σ H (ii i)) (hn : i = (n : Int)) (hl : n < xs.length)
    (k : ∀ H', SI H0 Hb H' σ sl (ob.set j (a, .raw (.lst (xs.set n (.int z))))) → D.nx σ H') : tAsg te (gSub ta ti rSetL) D σ H := h.int H (Ex.refl H) _ fun H1 e1 => ho H1 e1 _ fun v H2 e2 hv => hi.int H2 (e1.trans e2) _ fun H3 e3 => by
  have hv : some v = some (V.ref a) := hv
  cases hv
  have I3 := ((I.ext e1).ext e2).ext e3
  have h3 : H3 a = some (.lst xs) := I3.at hj
  refine ⟨a, xs, i, n, rfl, rfl, h3, by rw [hn]; exact ixN_nat hl, ?_⟩
  exact k _ (I3.put hj (not_tup h3) upd_same)
theorem s_retI (I : SI H0 Hb H σ sl ob) (h : EvX te σ H (.d d)) (k : ∀ v H1, SI H0 Hb H1 σ sl ob → Tp H1 v d → D.rt v H1) : tRet te D σ H :=
  h H (Ex.refl H) _ fun v H1 e1 ⟨w, e2, hw⟩ => by cases e2; exact k v H1 (I.ext e1) hw
theorem s_mid (M : L2.St → Hp → Prop) (h : ∀ N : L2.St → Hp → Prop, (∀ σ' H', M σ' H' → N σ' H') → t { D with nx := N } σ H) (h2 : ∀ σ' H', M σ' H' → tz D σ' H') : tSeq t tz D σ H := h _ h2
/-- if te == z, te an int that R tells of -/
theorem m_ifeq {z : Int} {R : Int → Hp → Prop} (h : ∀ Q : VK, (∀ r H', R r H' → Q (.int r) H') → te σ H Q) (h1 : ∀ r H', R r H' → r = z → t D σ H') (h2 : ∀ r H', R r H' → r ≠ z → u D σ H') : tIfS (tTest (tOp rEq te (tC (.int z)))) t u D σ H :=
  h _ fun r H' hr => ⟨rfl, _, rfl, by
    show if decide (V.int r = V.int z) = true then t D σ H' else u D σ H'
    by_cases e : r = z
    · rw [if_pos (decide_eq_true (by rw [e]))]; exact h1 r H' hr e
    · rw [if_neg (by rw [decide_eq_false (fun q => e (by injection q))]; decide)]; exact h2 r H' hr e⟩
end
section
variable {P : Program} {w : World} {K : PySem.W.Frag} {mg : Str → Option Value} {base : Heap}
def sp_law_draw (K : PySem.W.Frag) : Sp := fun vs H Q _ => ∃ (p c : Addr) (many : Int), vs = [.ref p, .int many] ∧ Pot H p c ∧ (0 < many ∧ many ≤ 1000) ∧ ∀ (r : Int) H', 0 ≤ r → r < many → Exq p H H' → Pot H' p c → Q (.int r) H'
abbrev st_law_draw : Stmt := topS 42
theorem sc_law_draw : FnScope ["_law_pot_here", "_law_many", "_law_cell", "_law_digit", "_law_number"] ["_law_pot_here", "_law_many"] (defScope st_law_draw) := ⟨rfl, rfl, rfl, by decide +kernel, rfl, by decide +kernel, by decide +kernel⟩
theorem ok_law_draw {f aP : Addr} {fd : FuncData} (F : Fun K "_law_draw" "_law_draw" st_law_draw f fd) (T : Txt K mg aP)  : FnOk P w K mg base CX0 1 f fd ["_law_pot_here", "_law_many"] (sp_law_draw K) := by
  refine F.ok sc_law_draw (fun vs H Q E h => ?_) (fun cdv A outer s H vs Q E hr h => ?_)
  · obtain ⟨p, c, many, rfl, _⟩ := h
    rfl
  obtain ⟨p, c, many, rfl, ⟨cs, n, b, dd, ee, hp, hc, hcp⟩, ⟨hm1, hm2⟩, k⟩ := h
  have I : SI (HX p H) H H (L2.start ["_law_pot_here", "_law_many", "_law_cell", "_law_digit", "_law_number"] [.ref p, .int many]) [.r p, ii many, .u, .u, .u] [(p, .raw (.lst (potL c n b dd ee)))] :=
    ⟨HX.ex p H, TE'.refl H, ⟨rfl, ⟨_, rfl, .int many⟩, trivial, trivial, trivial, trivial⟩, (fun q hq => by rw [List.mem_singleton.mp hq]; exact HX.none p H), (fun q hq => by rw [List.mem_singleton.mp hq]; exact hp), by simp⟩
  have hcX : (HX p H) c = some (.lst (cs.map V.int)) := by unfold HX; rw [if_neg hcp]; exact hc
  have done : ∀ {H2 : Hp} {σ2 : L2.St} {sl2 : List Sl} {n2 : Nat} {b2 d2 e2 r : Int} {v : V}, SI (HX p H) H H2 σ2 sl2 [(p, .raw (.lst (potL c n2 b2 d2 e2)))] → Tp H2 v (.int r) → 0 ≤ r → r < many → Q v H2 := fun {H2 σ2 sl2 n2 b2 d2 e2 r v} J hv h0 h1 => by
    cases hv
    exact k r H2 h0 h1 (HX.q J.ex) ⟨cs, n2, b2, d2, e2, J.at (j := 0) rfl, J.ex _ _ hcX, hcp⟩
  refine ⟨_, (pss_cons (ps_if (PW.pt (pw_and (pt_cmpR op_eq (pe_ix (k_ixL K rfl) (pv 0) pe_int (fun _ _ => rfl)) pe_int (nomark _)) (pw_and1 (pt_cmpR op_lt (pe_ix (k_ixL K rfl) (pv 0) pe_int (fun _ _ => rfl)) (pe_callB (k_len K rfl) (by rfl) T.len_ (by decide +kernel) (pa_cons (pe_ix (k_ixL K rfl) (pv 0) pe_int (fun _ _ => rfl)) pa_nil)) (nomark _))))) (pss_cons (ps_set (i := 2) sc_law_draw.nd rfl (by first | exact Or.inl rfl | exact Or.inr rfl) (pe_ix (k_ixL K rfl) (pe_ix (k_ixL K rfl) (pv 0) pe_int (fun _ _ => rfl)) (pe_ix (k_ixL K rfl) (pv 0) pe_int (fun _ _ => rfl)) (fun _ _ => rfl))) (pss_cons (ps_asg (pe_op op_add (pe_ix (k_ixL K rfl) (pv 0) pe_int (fun _ _ => rfl)) pe_int) (pg_sub (pv 0) pe_int set_list)) (pss_cons (ps_asg (pe_op op_mod (pe_callTy k_int (by rfl) T.int_ (by decide +kernel) (pa_cons (pe_op op_add (pe_op op_add (pe_op op_mul (pe_ix (k_ixL K rfl) (pv 0) pe_int (fun _ _ => rfl)) pe_int) (pv 2)) pe_int) pa_nil)) pe_int) (pg_sub (pv 0) pe_int set_list)) (pss_one (ps_if (pt_cmpR op_ge (pv 2) (pe_op op_pow pe_int pe_int) (nomark _)) (pss_one (ps_asg (pv 2) (pg_sub (pv 0) pe_int set_list))) pss_nil))))) pss_nil) (pss_cons (ps_if (pt_cmpR op_gt (pe_ix (k_ixL K rfl) (pv 0) pe_int (fun _ _ => rfl)) pe_int (nomark _)) (pss_cons (ps_set (i := 3) sc_law_draw.nd rfl (by first | exact Or.inl rfl | exact Or.inr rfl) (pe_op op_mod (pe_callTy k_int (by rfl) T.int_ (by decide +kernel) (pa_cons (pe_ix (k_ixL K rfl) (pv 0) pe_int (fun _ _ => rfl)) pa_nil)) (pv 1))) (pss_cons (ps_asg (pe_op op_fdiv (pe_ix (k_ixL K rfl) (pv 0) pe_int (fun _ _ => rfl)) (pv 1)) (pg_sub (pv 0) pe_int set_list)) (pss_one (ps_ret (pv 3))))) pss_nil) (pss_cons (ps_asg (pe_op op_add (pe_ix (k_ixL K rfl) (pv 0) pe_int (fun _ _ => rfl)) pe_int) (pg_sub (pv 0) pe_int set_list)) (pss_cons (ps_set (i := 4) sc_law_draw.nd rfl (by first | exact Or.inl rfl | exact Or.inr rfl) (pe_op op_mod (pe_callTy k_int (by rfl) T.int_ (by decide +kernel) (pa_cons (pe_op op_mul (pe_callTy k_int (by rfl) T.int_ (by decide +kernel) (pa_cons (pe_op op_add (pe_ix (k_ixL K rfl) (pv 0) pe_int (fun _ _ => rfl)) (pe_op op_mul pe_int (pe_ix (k_ixL K rfl) (pv 0) pe_int (fun _ _ => rfl)))) pa_nil)) pe_int) pa_nil)) pe_int)) (pss_cons (ps_set (i := 4) sc_law_draw.nd rfl (by first | exact Or.inl rfl | exact Or.inr rfl) (pe_op op_mod (pe_callTy k_int (by rfl) T.int_ (by decide +kernel) (pa_cons (pe_op op_mul (pv 4) (pe_op op_add (pe_op op_fdiv (pv 4) pe_int) pe_int)) pa_nil)) pe_int)) (pss_cons (ps_set (i := 4) sc_law_draw.nd rfl (by first | exact Or.inl rfl | exact Or.inr rfl) (pe_op op_mod (pe_callTy k_int (by rfl) T.int_ (by decide +kernel) (pa_cons (pe_op op_mul (pv 4) (pe_op op_add (pe_op op_fdiv (pv 4) pe_int) pe_int)) pa_nil)) pe_int)) (pss_one (ps_ret (pe_op op_mod (pe_callTy k_int (by rfl) T.int_ (by decide +kernel) (pa_cons (pe_op op_fdiv (pv 4) pe_int) pa_nil)) (pv 1)))))))))), ?_⟩
  have px : ∀ {H2 : Hp} {σ2 : L2.St} {sl2 : List Sl} {n2 : Nat} {b2 d2 e2 : Int} {tp : TE} (J : SI (HX p H) H H2 σ2 sl2 [(p, .raw (.lst (potL c n2 b2 d2 e2)))]), EvX tp σ2 H2 (.r p) →
      EvX (tOp (rIxL K) tp (tC (.int 0))) σ2 H2 (gi cs) ∧ EvX (tOp (rIxL K) tp (tC (.int 1))) σ2 H2 (ii (n2 : Int)) ∧ EvX (tOp (rIxL K) tp (tC (.int 2))) σ2 H2 (ii b2) ∧ EvX (tOp (rIxL K) tp (tC (.int 3))) σ2 H2 (ii d2) ∧ EvX (tOp (rIxL K) tp (tC (.int 4))) σ2 H2 (ii e2) := fun {H2 σ2 sl2 n2 b2 d2 e2 tp} J hx =>
    ⟨x_sees (x_ixR (s := .r c) hx (J.at (j := 0) rfl) x_int rfl fun _ => rfl) (J.ex _ _ hcX) (TpL.ints.mpr rfl), x_ixR hx (J.at (j := 0) rfl) x_int rfl fun _ => ⟨_, rfl, .int _⟩, x_ixR hx (J.at (j := 0) rfl) x_int rfl fun _ => ⟨_, rfl, .int _⟩, x_ixR hx (J.at (j := 0) rfl) x_int rfl fun _ => ⟨_, rfl, .int _⟩, x_ixR hx (J.at (j := 0) rfl) x_int rfl fun _ => ⟨_, rfl, .int _⟩⟩
  try dsimp only
  refine s_mid (fun σ' H' => ∃ n' b' d', SI (HX p H) H H' σ' [.r p, ii many, .u, .u, .u] [(p, .raw (.lst (potL c n' b' d' ee)))]) (fun N hN => ?_) fun σ1 H1 ⟨n1, b1, d1, I1⟩ => ?_
  · try dsimp only
    refine s_when (b := decide (b = 0) && decide ((n : Int) < (cs.length : Int))) I (t_and (t_B (x_eqI (px I (x_ref I rfl)).2.2.1 x_int)) fun _ => t_B (EvX.is (x_lt (px I (x_ref I rfl)).2.1 (x_lenL (px I (x_ref I rfl)).1)) (by rw [lenz]))) (fun hb H2 I2 => ?_) fun _ H2 I2 => hN _ _ ⟨n, b, dd, I2⟩
    have hlt : n < cs.length := by
      rw [Bool.and_eq_true] at hb
      have := of_decide_eq_true hb.2
      omega
    try dsimp only
    refine sq (s_set I2 (x_ixL (px I2 (x_ref I2 rfl)).1 (px I2 (x_ref I2 rfl)).2.1 (at_int hlt)) fun σ3 H3 I3 => ?_)
    have I3 : SI (HX p H) H H3 σ3 [.r p, ii many, ii (cs.getD n 0), .u, .u] [(p, .raw (.lst (potL c n b dd ee)))] := I3
    try dsimp only
    refine sq (s_putR (n := 1) (j := 0) I3 (x_add (px I3 (x_ref I3 rfl)).2.1 x_int) (x_ref I3 rfl) rfl x_int rfl (by show 1 < 5; decide) fun H4 I4 => ?_)
    have I4 : SI (HX p H) H H4 σ3 [.r p, ii many, ii (cs.getD n 0), .u, .u] [(p, .raw (.lst (potL c (n + 1) b dd ee)))] := by
      show SI _ _ _ _ _ [(p, .raw (.lst [.ref c, .int ((n + 1 : Nat) : Int), .int b, .int dd, .int ee]))]
      rw [show ((n + 1 : Nat) : Int) = (n : Int) + 1 by omega]
      exact I4
    try dsimp only
    refine sq (s_putR (n := 3) (j := 0) I4 (x_mod (x_intI (x_add (x_add (x_mul (px I4 (x_ref I4 rfl)).2.2.2.1 x_int (.inr (by decide))) (x_var I4 rfl)) x_int)) x_int (by decide)) (x_ref I4 rfl) rfl x_int rfl (by show 3 < 5; decide) fun H5 I5 => ?_)
    have I5 : SI (HX p H) H H5 σ3 [.r p, ii many, ii (cs.getD n 0), .u, .u] [(p, .raw (.lst (potL c (n + 1) b _ ee)))] := I5
    try dsimp only
    refine s_when I5 (t_B (x_ge (x_var I5 rfl) (x_pow x_int x_int ⟨by decide, by decide, by decide⟩))) (fun _ H6 I6 => ?_) fun _ H6 I6 => hN _ _ ⟨_, _, _, I6.u 2⟩
    try dsimp only
    refine s_putR (n := 2) (j := 0) I6 (x_var I6 rfl) (x_ref I6 rfl) rfl x_int rfl (by show 2 < 5; decide) fun H7 I7 => ?_
    exact hN _ _ ⟨n + 1, _, _, I7.u 2⟩
  · try dsimp only
    refine sq (s_when (b := decide (0 < b1)) I1 (t_B (x_gt (px I1 (x_ref I1 rfl)).2.2.1 x_int)) (fun hb H2 I2 => ?_) fun _ H2 I2 => ?_)
    · try dsimp only
      refine sq (s_set I2 (x_mod (x_intI (px I2 (x_ref I2 rfl)).2.2.1) (x_var I2 rfl) hm1) fun σ3 H3 I3 => ?_)
      have I3 : SI (HX p H) H H3 σ3 [.r p, ii many, .u, ii (b1 % many), .u] [(p, .raw (.lst (potL c n1 b1 d1 ee)))] := I3
      try dsimp only
      refine sq (s_putR (n := 2) (j := 0) I3 (x_fdiv (px I3 (x_ref I3 rfl)).2.2.1 (x_var I3 rfl) ⟨hm1, by omega⟩) (x_ref I3 rfl) rfl x_int rfl (by show 2 < 5; decide) fun H4 I4 => ?_)
      have I4 : SI (HX p H) H H4 σ3 [.r p, ii many, .u, ii (b1 % many), .u] [(p, .raw (.lst (potL c n1 (b1 / many) d1 ee)))] := I4
      try dsimp only
      exact s_retI I4 (x_var I4 rfl) fun v H5 J hv => done J hv (Int.emod_nonneg _ (by omega)) (Int.emod_lt_of_pos _ hm1)
    · try dsimp only
      refine sq (s_putR (n := 4) (j := 0) I2 (x_add (px I2 (x_ref I2 rfl)).2.2.2.2 x_int) (x_ref I2 rfl) rfl x_int rfl (by show 4 < 5; decide) fun H3 I3 => ?_)
      have I3 : SI (HX p H) H H3 σ1 [.r p, ii many, .u, .u, .u] [(p, .raw (.lst (potL c n1 b1 d1 (ee + 1))))] := I3
      try dsimp only
      refine sq (s_set I3 (x_mod (x_intI (x_mul (x_intI (x_add (px I3 (x_ref I3 rfl)).2.2.2.1 (x_mul x_int (px I3 (x_ref I3 rfl)).2.2.2.2 (.inl (by decide))))) x_int (.inr (by decide)))) x_int (by decide)) fun σ4 H4 I4 => ?_)
      generalize hN1 : (d1 + 7919 * (ee + 1)) * 48271 % 2147483647 = N1 at I4
      have b1' : 0 ≤ N1 ∧ N1 < 2147483647 := by rw [← hN1]; exact ⟨Int.emod_nonneg _ (by decide), Int.emod_lt_of_pos _ (by decide)⟩
      have I4 : SI (HX p H) H H4 σ4 [.r p, ii many, .u, .u, ii N1] [(p, .raw (.lst (potL c n1 b1 d1 (ee + 1))))] := I4
      try dsimp only
      refine sq (s_set I4 (x_mod (x_intI (x_mul (x_var I4 rfl) (x_add (x_fdiv (x_var I4 rfl) x_int ⟨by decide, by decide⟩) x_int) (.inl (by omega)))) x_int (by decide)) fun σ5 H5 I5 => ?_)
      generalize hN2 : N1 * (N1 / 1009 + 69621) % 2147483647 = N2 at I5
      have b2' : 0 ≤ N2 ∧ N2 < 2147483647 := by rw [← hN2]; exact ⟨Int.emod_nonneg _ (by decide), Int.emod_lt_of_pos _ (by decide)⟩
      have I5 : SI (HX p H) H H5 σ5 [.r p, ii many, .u, .u, ii N2] [(p, .raw (.lst (potL c n1 b1 d1 (ee + 1))))] := I5
      try dsimp only
      refine sq (s_set I5 (x_mod (x_intI (x_mul (x_var I5 rfl) (x_add (x_fdiv (x_var I5 rfl) x_int ⟨by decide, by decide⟩) x_int) (.inl (by omega)))) x_int (by decide)) fun σ6 H6 I6 => ?_)
      have I6 : SI (HX p H) H H6 σ6 [.r p, ii many, .u, .u, ii (N2 * (N2 / 2003 + 40692) % 2147483399)] [(p, .raw (.lst (potL c n1 b1 d1 (ee + 1))))] := I6
      try dsimp only
      exact s_retI I6 (x_mod (x_intI (x_fdiv (x_var I6 rfl) x_int ⟨by decide, by decide⟩)) (x_var I6 rfl) hm1) fun v H7 J hv => done J hv (Int.emod_nonneg _ (by omega)) (Int.emod_lt_of_pos _ hm1)
theorem m_draw {σ : L2.St} {H : Hp} {t0 tm : TE} {p c : Addr} {many : Int} {Q : VK} (hp : EvX t0 σ H (.r p)) (hm : EvX tm σ H (ii many)) (hP : Pot H p c) (h1 : 0 < many) (h2 : many ≤ 1000) (k : ∀ (r : Int) H', 0 ≤ r → r < many → Exq p H H' → Pot H' p c → Q (.int r) H') :
    tCall (sp_law_draw K) [] E0 (tCons t0 (tCons tm tNil)) σ H Q := (a_cons hp (a_cons hm a_nil)) H (Ex.refl H) _ fun vs H1 e hv => by
  match vs, hv with
  | [v, w], ⟨h3, ⟨w', h4, h5⟩, _⟩ =>
    have h3 : some v = some (V.ref p) := h3
    cases h3
    cases h4
    cases h5
    exact ⟨p, c, many, rfl, hP.ext e, ⟨h1, h2⟩, fun r H' a b x y => k r H' a b (Exq.trans (Ex.q e) x) y⟩
def sp_law_any (K : PySem.W.Frag) : Sp := fun vs H Q _ => ∃ (p c t : Addr) (l : LI), vs = [.ref p, .ref t] ∧ Pot H p c ∧ H t = some (.lst (l.map V.int)) ∧ (l ≠ [] ∧ l.length ≤ 100) ∧ ∀ (z : Int) H', z ∈ l → Exq p H H' → Pot H' p c → Q (.int z) H'
abbrev st_law_any : Stmt := topS 43
theorem sc_law_any : FnScope ["_law_pot_here", "_law_things"] ["_law_pot_here", "_law_things"] (defScope st_law_any) := ⟨rfl, rfl, rfl, by decide +kernel, rfl, by decide +kernel, by decide +kernel⟩
theorem ok_law_any {f aP : Addr} {fd : FuncData} (F : Fun K "_law_any" "_law_any" st_law_any f fd) (T : Txt K mg aP) (c_law_draw : Cal P w K mg base "_law_draw" 1 ["_law_pot_here", "_law_many"] (sp_law_draw K)) : FnOk P w K mg base CX0 2 f fd ["_law_pot_here", "_law_things"] (sp_law_any K) := by
  refine F.ok sc_law_any (fun vs H Q E h => ?_) (fun cdv A outer s H vs Q E hr h => ?_)
  · obtain ⟨p, c, t, l, rfl, _⟩ := h
    rfl
  obtain ⟨p, c, t, l, rfl, hP, ht, ⟨hne, hl⟩, k⟩ := h
  refine ⟨_, (pss_one (ps_ret (pe_ix (k_ixL K rfl) (pv 1) (pe_callC c_law_draw (hr.mono (by decide)) (by rfl) (pa_cons (pv 0) (pa_cons (pe_callB (k_len K rfl) (by rfl) T.len_ (by decide +kernel) (pa_cons (pv 1) pa_nil)) pa_nil))) (fun _ _ => rfl)))), ?_⟩
  have hp := List.length_pos_iff.mpr hne
  have htp := hP.ne ht
  refine ⟨_, rfl, ?_⟩
  refine m_draw (c := c) (x_vr rfl) (EvX.is (x_lenL (x_sees (x_vr rfl) ht (TpL.ints.mpr rfl))) (s' := ii (l.length : Int)) (by rw [lenz])) hP (by omega) (by omega) fun r H' h0 h1 e hP' => ?_
  have h3 := e _ _ htp ht
  have hr : r.toNat < l.length := by omega
  refine ⟨t, l.map V.int, r, .int (l.getD r.toNat 0), rfl, rfl, .inl (.inl h3), ?_, k _ H' (Mw.getD_mem hr) e hP'⟩
  have : atI (l.map V.int) ((r.toNat : Nat) : Int) = some (V.int (l.getD r.toNat 0)) := L2.atI_nat (by
    rw [List.getElem?_map, List.getElem?_eq_getElem hr, List.getD_eq_getElem?_getD, List.getElem?_eq_getElem hr]; rfl)
  rwa [Int.toNat_of_nonneg h0] at this
/-- [draw(pot, x) for k in range(draw(pot, y))] -/
theorem q_lc {σ : L2.St} {H : Hp} {t0 t1 tn tx : TE} {p c : Addr} {n x : Int} {j : Nat} {Q : VK} (hp : EvX t0 σ H (.r p)) (hn : EvX tn σ H (ii n)) (hP : Pot H p c) (n1 : 0 < n) (n2 : n ≤ 1000) (x1 : 0 < x) (x2 : x ≤ 1000)
    (ht : ∀ (v : Option V) H', EvX t1 ((wipe σ [j]).set j v) H' (.r p) ∧ EvX tx ((wipe σ [j]).set j v) H' (ii x))
    (k : ∀ (q : Addr) (l : LI) H', (l.length : Int) < n → (∀ z, z ∈ l → 0 ≤ z ∧ z < x) → H' q = some (.lst (l.map V.int)) → q ≠ p → Exq p H H' → Pot H' p c → H q = none → Q (.ref q) H') :
    tLc (iRng1 (tCons (tCall (sp_law_draw K) [] E0 (tCons t0 (tCons tn tNil))) tNil)) (gName j) tYes (tCall (sp_law_draw K) [] E0 (tCons t1 (tCons tx tNil))) [j] σ H Q := by
  refine m_draw hp hn hP n1 n2 fun r H1 h0 h1 e1 hP1 => ?_
  refine ⟨r, rfl, by omega, by omega, fun D hD => ?_⟩
  have hDp : D ≠ p := fun z => by
    obtain ⟨cs, m, b, d, e, g1, _, _⟩ := hP1
    rw [z, g1] at hD; cases hD
  have hDc : D ≠ c := fun z => by
    obtain ⟨cs, m, b, d, e, _, g1, _⟩ := hP1
    rw [z, g1] at hD; cases hD
  have pot_upd : ∀ {H2 : Hp} {o : HO}, Pot H2 p c → Pot (upd H2 D o) p c := fun {H2 o} hq => by
    obtain ⟨cs, m, b, d, e, g1, g2, g3⟩ := hq
    exact ⟨cs, m, b, d, e, by rw [upd_ne (Ne.symm hDp)]; exact g1, by rw [upd_ne (Ne.symm hDc)]; exact g2, g3⟩
  have exq_upd : ∀ {H2 : Hp} {o : HO}, Exq p H1 H2 → Exq p H1 (upd H2 D o) := fun {H2 o} hq b ob nb hb => by
    rw [upd_ne (fun z => by rw [z, hD] at hb; cases hb)]
    exact hq b ob nb hb
  refine lc_it (walk_range (lo := 0) (n := r.toNat)) (fun i H' => i ≤ r.toNat ∧ Exq p H1 H' ∧ Pot H' p c ∧ ∃ l : LI, l.length = i ∧ (∀ z, z ∈ l → 0 ≤ z ∧ z < x) ∧ H' D = some (.lst (l.map V.int)))
    ⟨Nat.zero_le _, exq_upd (Exq.refl p H1), pot_upd hP1, [], rfl, (fun z hz => nomatch hz), upd_same⟩ (fun _ _ _ _ => trivial) (fun i v H2 H3 hi pv y => ?_) fun H2 pv => ?_
  · obtain ⟨rfl, rfl⟩ := y
    obtain ⟨_, e2, hP2, l, l1, l2, l3⟩ := pv
    refine ⟨wipe1 σ _, ?_⟩
    show tCall (sp_law_draw K) [] E0 (tCons t1 (tCons tx tNil)) _ H3 _
    obtain ⟨g1, g2⟩ := ht (some (V.int ((0 : Int) + (i : Nat)))) H3
    refine m_draw g1 g2 hP2 x1 x2 fun z H4 z0 z1 e4 hP4 => ?_
    have h5 := e4 _ _ hDp l3
    refine ⟨_, h5, sz_lt (by rw [List.length_map, l1]; omega), hi, exq_upd (e2.trans e4), pot_upd hP4, l ++ [z], by rw [List.length_append, l1]; rfl, fun z' hz => ?_, ?_⟩
    · rcases List.mem_append.mp hz with q | q
      · exact l2 z' q
      · rw [List.mem_singleton.mp q]; exact ⟨z0, z1⟩
    · rw [upd_same, List.map_append]; rfl
  · obtain ⟨_, e2, hP2, l, l1, l2, l3⟩ := pv
    refine k D l H2 (by omega) l2 l3 hDp (e1.trans e2) hP2 ?_
    cases hz : H D with
    | none => rfl
    | some o =>
      have := e1 _ _ hDp hz
      rw [hD] at this; cases this
def sp_law_poly (K : PySem.W.Frag) : Sp := fun vs H Q _ => ∃ (p c : Addr) (q : P6) (most : Nat), vs = [.ref p, .int q.z, .int (most : Int)] ∧ Pot H p c ∧ most ≤ 10 ∧ ∀ (l : LI) (v : V) H', IsC q l → l.length ≤ most + 1 → Exq p H H' → Pot H' p c → Tp H' v (dI l) → Q v H'
abbrev st_law_poly : Stmt := topS 49
theorem sc_law_poly : FnScope ["_law_pot_here", "_law_prime", "_law_most", "_law_worths", "_law_k"] ["_law_pot_here", "_law_prime", "_law_most"] (defScope st_law_poly) := ⟨rfl, rfl, rfl, by decide +kernel, rfl, by decide +kernel, by decide +kernel⟩
theorem ok_law_poly {f aP : Addr} {fd : FuncData} (F : Fun K "_law_poly" "_law_poly" st_law_poly f fd) (T : Txt K mg aP) (c_law_draw : Cal P w K mg base "_law_draw" 1 ["_law_pot_here", "_law_many"] (sp_law_draw K)) : FnOk P w K mg base CX0 2 f fd ["_law_pot_here", "_law_prime", "_law_most"] (sp_law_poly K) := by
  refine F.ok sc_law_poly (fun vs H Q E h => ?_) (fun cdv A outer s H vs Q E hr h => ?_)
  · obtain ⟨p, c, q, most, rfl, _⟩ := h
    rfl
  obtain ⟨p, c, q, most, rfl, hP, hm, k⟩ := h
  have hq := p_bd q
  refine ⟨_, (pss_cons (ps_if (pt_cmpR op_eq (pe_callC c_law_draw (hr.mono (by decide)) (by rfl) (pa_cons (pv 0) (pa_cons pe_int pa_nil))) pe_int (nomark _)) (pss_one (ps_ret (pe_tup pa_nil))) pss_nil) (pss_cons (ps_setLc (i := 3) (own := [("_law_k", 4)]) (g := (gName 4)) (tt := tYes) rfl sc_law_poly.nd rfl rfl (sw_true rfl rfl rfl (by decide +kernel)) (pi_range1 (by rfl) T.range_ (pa_cons (pe_callC c_law_draw (hr.mono (by decide)) (by rfl) (pa_cons (pv 0) (pa_cons (pe_op op_add (pv 2) pe_int) pa_nil))) pa_nil)) (blkOk_by (own := [("_law_k", 4)]) (N := ["_law_pot_here", "_law_prime", "_law_most", "_law_worths", "_law_k"]) (sc := defScope st_law_poly) (by decide +kernel)) (fun _ _ _ _ _ => (pg_name (i := 4) sc_law_poly.nd rfl (by first | exact Or.inl rfl | exact Or.inr rfl))) (fun _ _ _ _ _ => pts_nil) (fun _ _ _ _ _ => (pe_callC c_law_draw (hr.mono (by decide)) (by rfl) (pa_cons (pv 0) (pa_cons (pv 1) pa_nil))))) (pss_one (ps_ret (pe_callTy (k_tuple K rfl) (by rfl) T.tuple_ (by decide +kernel) (pa_cons (pe_op op_cat (pv 3) (pe_lst (pa_cons (pe_op op_add pe_int (pe_callC c_law_draw (hr.mono (by decide)) (by rfl) (pa_cons (pv 0) (pa_cons (pe_op op_sub (pv 1) pe_int) pa_nil)))) pa_nil))) pa_nil)))))), ?_⟩
  show tSeq _ _ _ _ _
  try dsimp only
  refine sq (m_ifeq (R := fun _ H' => Exq p H H' ∧ Pot H' p c) (fun Q hQ => m_draw (c := c) (x_vr rfl) x_int hP (by decide) (by decide) fun r H' _ _ e hP' => hQ r H' ⟨e, hP'⟩) (fun r H1 ⟨e1, hP1⟩ _ => ?_) fun r H1 ⟨e1, hP1⟩ _ => ?_)
  · exact (x_e (σ := _) (H := H1)) H1 (Ex.refl H1) _ fun v H2 e2 ⟨w, ew, hw⟩ => by
      cases ew
      exact k [] v H2 IsC.nil (Nat.zero_le _) (e1.trans (Ex.q e2)) (hP1.ext e2) hw
  · show tSeq _ _ _ _ _
    refine sq ?_
    show tAsg (tLc (iRng1 (tCons (tCall (sp_law_draw K) [] E0 (tCons (tVar 0) (tCons (tOp _ (tVar 2) (tC (.int 1))) tNil))) tNil)) (gName 4) tYes (tCall (sp_law_draw K) [] E0 (tCons (tVar 0) (tCons (tVar 1) tNil))) [4]) (gName 3) _ [some (.ref p), some (.int q.z), some (.int (most : Int)), none, none] H1
    refine q_lc (c := c) (n := (most : Int) + 1) (x := q.z) (x_vr rfl) (x_add (x_vi rfl) x_int) hP1 (by omega) (by omega) (by omega) (by omega) (fun v H' => by exact ⟨x_vr rfl, x_vi rfl⟩) fun a l H2 hl hz ha hap e2 hP2 _ => ?_
    unfold gName
    dsimp only
    refine ⟨_, rfl, ?_⟩
    show tCall (sp_law_draw K) [] E0 (tCons (tVar 0) (tCons (tOp (rI0 fun i j => V.int (i - j)) (tVar 1) (tC (V.int 1))) tNil)) [some (.ref p), some (.int q.z), some (.int (most : Int)), some (.ref a), none] H2 _
    refine m_draw (c := c) (x_vr rfl) (x_sub (x_vi rfl) x_int) hP2 (by omega) (by omega) fun r H3 h0 h1 e3 hP3 => ?_
    refine ⟨1, r, rfl, rfl, ?_⟩
    refine ⟨sz_of (by show 1 ≤ 100000; decide), fun b hb => ?_⟩
    have e4 := Ex.new (o := .lst [V.int (1 + r)]) hb
    refine ⟨a, b, l.map V.int, [V.int (1 + r)], rfl, rfl, e4 _ _ (e3 _ _ hap ha), upd_same, sz_of (by rw [List.length_map]; show l.length + 1 ≤ 100000; omega), fun x hx => ?_⟩
    have e5 := Ex.new (o := .lst (l.map V.int ++ [V.int (1 + r)])) hx
    refine ⟨x, _, rfl, .inl ⟨.inl (.inl upd_same), fun y hy => ?_⟩⟩
    have e6 := Ex.new (o := .tup (l.map V.int ++ [V.int (1 + r)])) hy
    have e7 := (e4.trans e5).trans e6
    refine k (l ++ [1 + r]) _ _ ⟨fun z hz2 => ?_, fun _ => by rw [lastI_snoc]; omega⟩ (by rw [List.length_append, List.length_singleton]; omega) (((e1.trans e2).trans e3).trans (Ex.q e7)) (hP3.ext e7) (.tup upd_same (TpL.ints.mpr (by rw [List.map_append]; rfl)))
    rcases List.mem_append.mp hz2 with z2 | z2
    · exact hz z z2
    · rw [List.mem_singleton.mp z2]; omega
/-- a slice of a list that is handed in -/
theorem n_slS {σ : L2.St} {H : Hp} {te : TE} {tl th : TO} {lo hi : Option Int} {a : Addr} {l : LI} (ha : EvX te σ H (.r a)) (hs : SqL K H a (l.map V.int)) (h1 : EvP tl σ H lo) (h2 : EvP th σ H hi) : EvN (tSl (rSlL K) te tl th) σ H (cutD (l.map .int) lo hi) := fun H1 e1 Q q =>
  ha H1 e1 _ fun x H2 e2 hx => h1 H2 (e1.trans e2) _ fun H3 e3 => h2 H3 ((e1.trans e2).trans e3) _ fun H4 e4 => by
    have hx : some x = some (V.ref a) := hx
    cases hx
    refine ⟨_, _, rfl, Evl.ex_l (((e1.trans e2).trans e3).trans e4) hs, fun l' hl => q l' _ _ (fresh_back ((e2.trans e3).trans e4) hl) (((e2.trans e3).trans e4).trans (Ex.new hl)) upd_same ?_⟩
    unfold cutV cutD
    rw [List.length_map, List.length_map]
    exact ((TpL.ints.mpr rfl : TpL _ (l.map V.int) (l.map .int)).drop _).take _
def sp_law_pot (K : PySem.W.Frag) : Sp := fun vs H Q _ => ∃ (a : Addr) (ns : LI), vs = [.ref a] ∧ SqL K H a (ns.map V.int) ∧ ns.length ≤ 63 ∧ ∀ (p c : Addr) H', H p = none → H c = none → Ex H H' → Pot H' p c → Q (.ref p) H'
abbrev st_law_pot : Stmt := topS 41
theorem sc_law_pot : FnScope ["_law_script", "_law_cells", "_law_cell"] ["_law_script"] (defScope st_law_pot) := ⟨rfl, rfl, rfl, by decide +kernel, rfl, by decide +kernel, by decide +kernel⟩
theorem ok_law_pot {f aP : Addr} {fd : FuncData} (F : Fun K "_law_pot" "_law_pot" st_law_pot f fd) (T : Txt K mg aP)  : FnOk P w K mg base CX0 1 f fd ["_law_script"] (sp_law_pot K) := by
  refine F.ok sc_law_pot (fun vs H Q E h => ?_) (fun cdv A outer s H vs Q E hr h => ?_)
  · obtain ⟨a, ns, rfl, _⟩ := h
    rfl
  obtain ⟨a, ns, rfl, hS, hl, k⟩ := h
  have I := start_ok (H := H) (N := ["_law_script", "_law_cells", "_law_cell"]) (vs := [.ref a]) (ss := [.r a]) ⟨rfl, trivial⟩
  have I : SI H H H _ [.r a, .u, .u] [] := I
  refine ⟨_, (pss_cons (ps_setLc (i := 1) (own := [("_law_cell", 2)]) (g := (gName 2)) (tt := tYes) rfl sc_law_pot.nd rfl rfl (sw_true rfl rfl rfl (by decide +kernel)) (k_pil K rfl (pe_slice (k_slL K rfl) (pv 0) po_none (po_some pe_int))) (blkOk_by (own := [("_law_cell", 2)]) (N := ["_law_script", "_law_cells", "_law_cell"]) (sc := defScope st_law_pot) (by decide +kernel)) (fun _ _ _ _ _ => (pg_name (i := 2) sc_law_pot.nd rfl (by first | exact Or.inl rfl | exact Or.inr rfl))) (fun _ _ _ _ _ => pts_nil) (fun _ _ _ _ _ => (pe_callB k_abs (by rfl) T.abs_ (by decide +kernel) (pa_cons (pe_callTy k_int (by rfl) T.int_ (by decide +kernel) (pa_cons (pv 2) pa_nil)) pa_nil)))) (pss_one (ps_ret (pe_lst (pa_cons (pv 1) (pa_cons pe_int (pa_cons pe_int (pa_cons (pe_op op_add pe_int (pe_callB (k_len K rfl) (by rfl) T.len_ (by decide +kernel) (pa_cons (pv 1) pa_nil))) (pa_cons pe_int pa_nil))))))))), ?_⟩
  have hcut : cutD (ns.map PyData.int) none (some 63) = ns.map PyData.int := by
    unfold cutD
    rw [HT.sIx_none, List.drop_zero, show HT.sIx (ns.map PyData.int).length (ns.map PyData.int).length (some 63) = min 63 (ns.map PyData.int).length from HT.sIx_nat _ _ 63]
    exact List.take_of_length_le (by rw [List.length_map]; omega)
  have hsl := n_slS (K := K) (x_ref (i := 0) I rfl) hS p_none (p_some (x_int (n := 63)))
  rw [hcut] at hsl
  try dsimp only
  refine sq (s_setN I (EvN.is (n_lc1 (j := 2) I (src_lst (EvN.x hsl)) (by rw [len_int]; omega) (fun i => .int (ns.getD i 0)) itI (fun i => .int (if ns.getD i 0 < 0 then -(ns.getD i 0) else ns.getD i 0)) fun i σ2 H2 hi I2 => x_abs (x_intI (x_var I2 rfl))) (es := (ns.map fun z => if z < 0 then -z else z).map .int) (by rw [len_int, map_ints, map_range ns (fun z => if z < 0 then -z else z)])) fun c σ1 H1 I1 => ?_)
  have I1 : SI H H H1 σ1 [.r a, .r c, .u] [(c, .lst ((ns.map fun z => if z < 0 then -z else z).map .int))] := I1
  have hA := a_cons (x_ref (i := 1) (p := c) I1 rfl) (a_cons (x_int (n := 0)) (a_cons (x_int (n := 0)) (a_cons (x_add (x_int (n := 1)) (x_lenL (K := K) (x_own (j := 0) I1 rfl (x_ref (i := 1) (p := c) I1 rfl)))) (a_cons (x_int (n := 0)) a_nil))))
  obtain ⟨xs, hc1, hc2⟩ := I1.at (j := 0) rfl
  rw [TpL.ints.mp hc2] at hc1
  try dsimp only
  show tLst _ σ1 H1 _
  refine hA H1 (Ex.refl H1) _ fun vs H2 e hv => ?_
  match vs, hv with
  | [v0, v1, v2, v3, v4], ⟨g0, ⟨w1, g1, k1⟩, ⟨w2, g2, k2⟩, ⟨w3, g3, k3⟩, ⟨w4, g4, k4⟩, _⟩ =>
    have g0 : some v0 = some (V.ref c) := g0
    cases g0
    cases g1
    cases g2
    cases g3
    cases g4
    cases k1
    cases k2
    cases k3
    cases k4
    refine ⟨sz_of (by show 5 ≤ 100000; decide), fun p hp => ?_⟩
    have e2 := Ex.new (o := .lst (potL c 0 0 (1 + ((List.map PyData.int (ns.map fun z => if z < 0 then -z else z)).length : Int)) 0)) hp
    have hc3 := e _ _ hc1
    exact k p c _ (fresh_back (I1.ex.trans e) hp) (I1.fr _ (List.mem_cons_self ..)) ((I1.ex.trans e).trans e2) ⟨_, 0, 0, _, 0, upd_same, e2 _ _ hc3, ne_of_none hc3 hp⟩
end
end Wk
end
section
set_option Elab.async false
set_option linter.all false
set_option maxRecDepth 100000
set_option maxHeartbeats 4000000
/-! The law. -/
namespace Wk
open PySem PySem.Spec PyProof.Rows L2 Evl Mw
def mostOf (q : P6) : Nat := match q.n with
  | 2 => 5
  | 3 => 4
  | 5 => 3
  | _ => 2
theorem most_le (q : P6) : mostOf q ≤ 5 := by cases q <;> decide
theorem prime_of {z : Int} (h : z ∈ ([2, 2, 3, 3, 5, 7, 11, 13] : LI)) : ∃ q : P6, z = q.z := by
  have all : ∀ z ∈ ([2, 2, 3, 3, 5, 7, 11, 13] : LI), z = 2 ∨ z = 3 ∨ z = 5 ∨ z = 7 ∨ z = 11 ∨ z = 13 := by decide
  rcases all z h with e | e | e | e | e | e <;> rw [e]
  · exact ⟨.p2, rfl⟩
  · exact ⟨.p3, rfl⟩
  · exact ⟨.p5, rfl⟩
  · exact ⟨.p7, rfl⟩
  · exact ⟨.p11, rfl⟩
  · exact ⟨.p13, rfl⟩
theorem dic_len {q : P6} : ∀ {d : Dic}, GoodD q d → d.length + 1 ≤ len (prodD q d)
  | [], _ => by
    show 0 + 1 ≤ len (1 : Poly (Fq q))
    rw [len_one]; exact Nat.le_refl _
  | x :: d, h => by
    have ih := dic_len h.tail
    obtain ⟨c, i, m, e⟩ := h.1 x (by simp)
    have h1 := len_pow i.1 x.2.toNat
    have e2 : prodD q (x :: d) = toP q x.1 ^ x.2.toNat * prodD q d := rfl
    rw [e2, Mw.len_mul (by omega) (by omega), List.length_cons]
    omega
theorem factors_len {q : P6} {l : LI} (h : IsC q l) (hne : l ≠ []) : (rawFactors q.z l).length ≤ l.length := by
  obtain ⟨g, _, e⟩ := rawFactors_ok h hne
  have := dic_len g
  rw [e, (monic_ok h hne).1.len, (monic_ok h hne).2.2] at this
  omega
section
variable {P : Program} {w : World} {K : PySem.W.Frag} {mg : Str → Option Value} {base : Heap}
theorem x_getK {σ : L2.St} {H : Hp} {ty : TE} {q : P6} (h : EvX ty σ H (ii q.z)) : EvX (tDGet2 (tDisp [(tC (.int 2), tC (.int 5)), (tC (.int 3), tC (.int 4)), (tC (.int 5), tC (.int 3))]) ty (tC (.int 2))) σ H (ii (mostOf q : Int)) := fun H1 e1 Q k p hp => by
  show _ ∧ _
  refine ⟨upd_same, [(.inl 2, .int 5), (.inl 3, .int 4), (.inl 5, .int 3)], rfl, by decide, ?_⟩
  have e2 := Ex.new (o := .dK []) hp
  have ex : Ex H1 (upd (upd H1 p (.dK [])) p (.dK (mergeK [] [(.inl 2, .int 5), (.inl 3, .int 4), (.inl 5, .int 3)]))) := fun b o hb => by
    rw [upd_ne (ne_of_none hb hp), upd_ne (ne_of_none hb hp)]; exact hb
  refine ⟨p, rfl, .inl ⟨_, .inl upd_same⟩, h.int _ (e1.trans ex) _ fun H3 e3 => ?_⟩
  refine ⟨_, DGet.k (k := .inl q.z) (e3 _ _ upd_same), ?_⟩
  have e : (valV (mergeK [] [((.inl 2 : Key), V.int 5), (.inl 3, .int 4), (.inl 5, .int 3)]) (.inl q.z)).getD (.int 2) = .int (mostOf q : Int) := by cases q <;> rfl
  rw [e]
  exact k _ H3 (ex.trans e3) ⟨_, rfl, .int _⟩
theorem m_any {σ : L2.St} {H : Hp} {t0 tl : TE} {p c : Addr} {l : LI} {Q : VK} (hp : EvX t0 σ H (.r p)) (hl : EvN tl σ H (l.map .int)) (hP : Pot H p c) (h1 : l ≠ []) (h2 : l.length ≤ 100) (k : ∀ (z : Int) H', z ∈ l → Exq p H H' → Pot H' p c → Q (.int z) H') :
    tCall (sp_law_any K) [] E0 (tCons t0 (tCons tl tNil)) σ H Q := (a_cons hp (a_cons (EvN.x hl) a_nil)) H (Ex.refl H) _ fun vs H1 e hv => by
  match vs, hv with
  | [v, w], ⟨h3, ⟨t, xs, h4, h5, h6⟩, _⟩ =>
    have h3 : some v = some (V.ref p) := h3
    cases h3
    cases h4
    rw [TpL.ints.mp h6] at h5
    exact ⟨p, c, t, l, rfl, hP.ext e, h5, ⟨h1, h2⟩, fun z H' a x y => k z H' a (Exq.trans (Ex.q e) x) y⟩
theorem m_poly {σ : L2.St} {H : Hp} {t0 t1 t2 : TE} {p c : Addr} {q : P6} {most : Nat} {Q : VK} (hp : EvX t0 σ H (.r p)) (hq : EvX t1 σ H (ii q.z)) (hm : EvX t2 σ H (ii (most : Int))) (hP : Pot H p c) (h1 : most ≤ 10)
    (k : ∀ (l : LI) (v : V) H', IsC q l → l.length ≤ most + 1 → Exq p H H' → Pot H' p c → Tp H' v (dI l) → Q v H') : tCall (sp_law_poly K) [] E0 (tCons t0 (tCons t1 (tCons t2 tNil))) σ H Q := (a_cons hp (a_cons hq (a_cons hm a_nil))) H (Ex.refl H) _ fun vs H1 e hv => by
  match vs, hv with
  | [v, w, x], ⟨h3, ⟨w', h4, h5⟩, ⟨x', h6, h7⟩, _⟩ =>
    have h3 : some v = some (V.ref p) := h3
    cases h3
    cases h4
    cases h5
    cases h6
    cases h7
    exact ⟨p, c, q, most, rfl, hP.ext e, h1, fun l v H' a b x y z => k l v H' a b (Exq.trans (Ex.q e) x) y z⟩
theorem gn {i : Nat} {v : V} {σ : L2.St} {H : Hp} {Q : L2.St → Hp → Prop} (h : Q (σ.set i (some v)) H) : gName i v σ H Q := h
/-- the state with the pot, whatever it holds -/
def PS (H0 Hb H : Hp) (σ : L2.St) (sl : List Sl) (p c : Addr) : Prop := ∃ (cs : LI) (n : Nat) (b d e : Int), SI H0 Hb H σ sl [(p, .raw (.lst (potL c n b d e))), (c, .raw (.lst (cs.map V.int)))]
theorem PS.pot {H0 Hb H : Hp} {σ : L2.St} {sl : List Sl} {p c : Addr} (h : PS H0 Hb H σ sl p c) : Pot H p c := by
  obtain ⟨cs, n, b, d, e, I⟩ := h
  have nd := I.nd
  have hne : p ≠ c := by
    have : [p, c].Nodup := nd
    simpa using this
  exact ⟨cs, n, b, d, e, I.at (j := 0) rfl, I.at (j := 1) rfl, Ne.symm hne⟩
theorem PS.move {H0 Hb H H' : Hp} {σ : L2.St} {sl : List Sl} {p c : Addr} (h : PS H0 Hb H σ sl p c) (e : Exq p H H') (hP : Pot H' p c) : PS H0 Hb H' σ sl p c := by
  have hP0 := h.pot
  obtain ⟨cs, n, b, d, ee, I⟩ := h
  have hp0 : H0 p = none := I.fr (p, .raw (.lst (potL c n b d ee))) (by simp)
  obtain ⟨cs', n', b', d', e', g1, g2, g3⟩ := hP
  have I1 := (I.sub (ob' := [(c, .raw (.lst (cs.map V.int)))]) (.cons _ (List.Sublist.refl _))).exq e hp0 (by simpa using Ne.symm g3) hP0.nt
  exact ⟨cs, n', b', d', e', I1.own (a := p) (o := .raw (.lst (potL c n' b' d' e'))) hp0 (by simpa using Ne.symm g3) g1⟩
theorem PS.dset {H0 Hb H : Hp} {σ : L2.St} {sl : List Sl} {p c : Addr} (h : PS H0 Hb H σ sl p c) (i : Nat) {d : PD} {v : V} (hv : Tp H v d) : PS H0 Hb H (σ.set i (some v)) (sl.set i (.d d)) p c := by
  obtain ⟨cs, n, b, dd, e, I⟩ := h
  exact ⟨cs, n, b, dd, e, I.setD i hv⟩
theorem PS.u {H0 Hb H : Hp} {σ : L2.St} {sl : List Sl} {p c : Addr} (h : PS H0 Hb H σ sl p c) (i : Nat) : PS H0 Hb H σ (sl.set i .u) p c := by
  obtain ⟨cs, n, b, dd, e, I⟩ := h
  exact ⟨cs, n, b, dd, e, I.u i⟩
theorem te_exq {p c : Addr} {H H' : Hp} (hP : Pot H p c) (e : Exq p H H') : TE' H H' := fun b xs hb => e b _ (fun z => hP.nt xs (z ▸ hb)) hb
def sp_law (K : PySem.W.Frag) : Sp := fun vs H Q _ => ∃ (a : Addr) (ns : LI), vs = [.ref a] ∧ SqL K H a (ns.map V.int) ∧ ns.length ≤ 63 ∧ ∀ H', Q (.bl true) H'
abbrev st_law : Stmt := topS 53
theorem sc_law : FnScope ["_law_script", "_law_pot_here", "_law_turn", "_law_prime", "_law_most", "_law_one", "_law_other", "_law_told", "_law_first", "_law_later"] ["_law_script"] (defScope st_law) := ⟨rfl, rfl, rfl, by decide +kernel, rfl, by decide +kernel, by decide +kernel⟩
theorem ok_law {f aP : Addr} {fd : FuncData} (F : Fun K "law" "law" st_law f fd) (T : Txt K mg aP) (c_factors : Cal P w K mg base "factors" 8 ["prime", "poly"] (sp_factors K)) (c_law_product : Cal P w K mg base "_law_product" 2 ["_law_prime", "_law_one", "_law_other"] (sp_law_product K)) (c_law_together : Cal P w K mg base "_law_together" 1 ["_law_told", "_law_more"] (sp_law_together K)) (c_law_told_right : Cal P w K mg base "_law_told_right" 4 ["_law_prime", "_law_poly_here", "_law_told"] (sp_law_told_right K)) (c_product : Cal P w K mg base "product" 6 ["prime", "one", "other"] (sp_product K)) (c_law_is_poly : Cal P w K mg base "_law_is_poly" 2 ["_law_told", "_law_prime"] (sp_law_is_poly K)) (c_law_draw : Cal P w K mg base "_law_draw" 1 ["_law_pot_here", "_law_many"] (sp_law_draw K)) (c_law_poly : Cal P w K mg base "_law_poly" 2 ["_law_pot_here", "_law_prime", "_law_most"] (sp_law_poly K)) (c_law_any : Cal P w K mg base "_law_any" 2 ["_law_pot_here", "_law_things"] (sp_law_any K)) (c_law_pot : Cal P w K mg base "_law_pot" 1 ["_law_script"] (sp_law_pot K)) : FnOk P w K mg base CX0 9 f fd ["_law_script"] (sp_law K) := by
  refine F.ok sc_law (fun vs H Q E h => ?_) (fun cdv A outer s H vs Q E hr h => ?_)
  · obtain ⟨a, ns, rfl, _⟩ := h
    rfl
  obtain ⟨a, ns, rfl, hS, hl, k⟩ := h
  have I := start_ok (H := H) (N := ["_law_script", "_law_pot_here", "_law_turn", "_law_prime", "_law_most", "_law_one", "_law_other", "_law_told", "_law_first", "_law_later"]) (vs := [.ref a]) (ss := [.r a]) ⟨rfl, trivial⟩
  have I : SI H H H _ [.r a, .u, .u, .u, .u, .u, .u, .u, .u, .u] [] := I
  refine ⟨_, (pss_cons (ps_set (i := 1) sc_law.nd rfl (by first | exact Or.inl rfl | exact Or.inr rfl) (pe_callC c_law_pot (hr.mono (by decide)) (by rfl) (pa_cons (pv 0) pa_nil))) (pss_cons (ps_for PassesOwn.never rfl (pi_range1 (by rfl) T.range_ (pa_cons pe_int pa_nil)) (pg_name (i := 2) sc_law.nd rfl (by first | exact Or.inl rfl | exact Or.inr rfl)) (pss_cons (ps_set (i := 3) sc_law.nd rfl (by first | exact Or.inl rfl | exact Or.inr rfl) (pe_callC c_law_any (hr.mono (by decide)) (by rfl) (pa_cons (pv 1) (pa_cons (pe_lst (pa_cons pe_int (pa_cons pe_int (pa_cons pe_int (pa_cons pe_int (pa_cons pe_int (pa_cons pe_int (pa_cons pe_int (pa_cons pe_int pa_nil))))))))) pa_nil)))) (pss_cons (ps_set (i := 4) sc_law.nd rfl (by first | exact Or.inl rfl | exact Or.inr rfl) (pe_dget2 (hu_of hr) (pe_disp (pps_cons pe_int pe_int (pps_cons pe_int pe_int (pps_cons pe_int pe_int pps_nil))) rfl rfl (by simp) (by decide)) (pv 3) pe_int ⟨rfl, rfl, rfl, rfl⟩)) (pss_cons (ps_par (by rfl) sc_law.nd (i := 5) (j := 6) rfl rfl (by decide) rfl rfl (pa_cons (pe_callC c_law_poly (hr.mono (by decide)) (by rfl) (pa_cons (pv 1) (pa_cons (pv 3) (pa_cons (pv 4) pa_nil)))) (pa_cons (pe_callC c_law_poly (hr.mono (by decide)) (by rfl) (pa_cons (pv 1) (pa_cons (pv 3) (pa_cons (pv 4) pa_nil)))) pa_nil)) (by rfl)) (pss_cons (ps_if (pt_cmpR op_eq (pe_callC c_law_draw (hr.mono (by decide)) (by rfl) (pa_cons (pv 1) (pa_cons pe_int pa_nil))) pe_int (nomark _)) (pss_one (ps_set (i := 6) sc_law.nd rfl (by first | exact Or.inl rfl | exact Or.inr rfl) (pv 5))) pss_nil) (pss_cons (ps_set (i := 7) sc_law.nd rfl (by first | exact Or.inl rfl | exact Or.inr rfl) (pe_callC c_product (hr.mono (by decide)) (by rfl) (pa_cons (pv 3) (pa_cons (pv 5) (pa_cons (pv 6) pa_nil))))) (pss_cons (ps_if (PW.pt (pw_or (pt_not (pt_val (pe_callC c_law_is_poly (hr.mono (by decide)) (by rfl) (pa_cons (pv 7) (pa_cons (pv 3) pa_nil))))) (pw_or1 (pt_cmpR (k_neD K rfl hr.units) (pv 7) (pe_callC c_law_product (hr.mono (by decide)) (by rfl) (pa_cons (pv 3) (pa_cons (pv 5) (pa_cons (pv 6) pa_nil)))) (nomark _))))) (pss_one (ps_ret pe_bl)) pss_nil) (pss_cons (ps_if (pt_cmpR (k_neD K rfl hr.units) (pv 7) (pe_callC c_product (hr.mono (by decide)) (by rfl) (pa_cons (pv 3) (pa_cons (pv 6) (pa_cons (pv 5) pa_nil)))) (nomark _)) (pss_one (ps_ret pe_bl)) pss_nil) (pss_cons (ps_if (PW.pt (pw_or (pt_cmpR (k_neD K rfl hr.units) (pe_callC c_product (hr.mono (by decide)) (by rfl) (pa_cons (pv 3) (pa_cons (pv 5) (pa_cons (pe_tup (pa_cons pe_int pa_nil)) pa_nil)))) (pv 5) (nomark _)) (pw_or1 (pt_cmpR (k_neD K rfl hr.units) (pe_callC c_product (hr.mono (by decide)) (by rfl) (pa_cons (pv 3) (pa_cons (pe_tup pa_nil) (pa_cons (pv 5) pa_nil)))) (pe_tup pa_nil) (nomark _))))) (pss_one (ps_ret pe_bl)) pss_nil) (pss_one (ps_if (pt_cmpR (k_neD K rfl hr.units) (pv 7) (pe_tup pa_nil) (nomark _)) (pss_cons (ps_par (by rfl) sc_law.nd (i := 8) (j := 9) rfl rfl (by decide) rfl rfl (pa_cons (pe_callC c_factors (hr.mono (by decide)) (by rfl) (pa_cons (pv 3) (pa_cons (pv 5) pa_nil))) (pa_cons (pe_callC c_factors (hr.mono (by decide)) (by rfl) (pa_cons (pv 3) (pa_cons (pv 6) pa_nil))) pa_nil)) (by rfl)) (pss_cons (ps_if (PW.pt (pw_or (pt_not (pt_val (pe_callC c_law_told_right (hr.mono (by decide)) (by rfl) (pa_cons (pv 3) (pa_cons (pv 5) (pa_cons (pv 8) pa_nil)))))) (pw_or1 (pt_not (pt_val (pe_callC c_law_told_right (hr.mono (by decide)) (by rfl) (pa_cons (pv 3) (pa_cons (pv 6) (pa_cons (pv 9) pa_nil))))))))) (pss_one (ps_ret pe_bl)) pss_nil) (pss_cons (ps_if (pt_cmpR (k_neD K rfl hr.units) (pe_callC c_factors (hr.mono (by decide)) (by rfl) (pa_cons (pv 3) (pa_cons (pv 7) pa_nil))) (pe_callC c_law_together (hr.mono (by decide)) (by rfl) (pa_cons (pv 8) (pa_cons (pv 9) pa_nil))) (nomark _)) (pss_one (ps_ret pe_bl)) pss_nil) (pss_one (ps_if (pt_cmpR (k_neD K rfl hr.units) (pe_callC c_factors (hr.mono (by decide)) (by rfl) (pa_cons (pv 3) (pa_cons (pe_callC c_law_product (hr.mono (by decide)) (by rfl) (pa_cons (pv 3) (pa_cons (pv 5) (pa_cons (pe_tup (pa_cons (pe_op op_sub (pv 3) pe_int) pa_nil)) pa_nil)))) pa_nil))) (pv 8) (nomark _)) (pss_one (ps_ret pe_bl)) pss_nil))))) pss_nil))))))))))) (pss_one (ps_ret pe_bl)))), ?_⟩
  refine sq ?_
  refine ⟨_, rfl, a, ns, rfl, hS, hl, fun p c H1 hp0 hc0 e1 hP => ?_⟩
  have J1 : PS H H H1 ((L2.start ["_law_script", "_law_pot_here", "_law_turn", "_law_prime", "_law_most", "_law_one", "_law_other", "_law_told", "_law_first", "_law_later"] [.ref a]).set 1 (some (.ref p))) [.u, .r p, .u, .u, .u, .u, .u, .u, .u, .u] p c := by
    obtain ⟨cs, n, b, d, e, g1, g2, g3⟩ := hP
    exact ⟨cs, n, b, d, e, ((((I.ext e1).setR 1 p).u 0).own (a := c) (o := .raw (.lst (cs.map V.int))) hc0 (by simp) g2).own (a := p) (o := .raw (.lst (potL c n b d e))) hp0 (by simpa using Ne.symm g3) g1⟩
  refine gn ?_
  try dsimp only
  generalize (L2.start ["_law_script", "_law_pot_here", "_law_turn", "_law_prime", "_law_most", "_law_one", "_law_other", "_law_told", "_law_first", "_law_later"] [.ref a]).set 1 (some (.ref p)) = σ1 at J1
  try dsimp only
  refine sq (s_for_r1 (j := 2) (n := 3) (a_cons x_int a_nil) (by decide) (fun i σ H' => PS H H H' σ [.u, .r p, .u, .u, .u, .u, .u, .u, .u, .u] p c) (fun H2 e => J1.move (Ex.q e) (J1.pot.ext e)) (fun i σ2 H2 _ J2 => ?_) fun σ2 H2 J2 => ?_)
  · -- the prime
    have J3 := J2.dset 2 (Tp.int (i : Int))
    show tSeq _ _ _ _ _
    refine sq ?_
    have hx1 : ∀ {H9 : Hp} {σ9 : L2.St} {sl9 : List Sl}, PS H H H9 σ9 (.u :: .r p :: sl9) p c → EvX (tVar 1) σ9 H9 (.r p) := fun {H9 σ9 sl9} J => by
      obtain ⟨_, _, _, _, _, I9⟩ := J
      exact x_ref (i := 1) I9 rfl
    refine m_any (c := c) (l := [2, 2, 3, 3, 5, 7, 11, 13]) (hx1 J3) (n_lst (ds := [.int 2, .int 2, .int 3, .int 3, .int 5, .int 7, .int 11, .int 13]) (a_cons x_int (a_cons x_int (a_cons x_int (a_cons x_int (a_cons x_int (a_cons x_int (a_cons x_int (a_cons x_int a_nil)))))))) (by show 8 ≤ 100000; decide)) J3.pot (by simp) (by decide) fun z H4 hz e4 hP4 => ?_
    obtain ⟨q, rfl⟩ := prime_of hz
    have J4 : PS H H H4 _ [.u, .r p, ii (i : Int), ii q.z, .u, .u, .u, .u, .u, .u] p c := (J3.move e4 hP4).dset 3 (Tp.int q.z)
    have hq := p_bd q
    have hmo := most_le q
    have hmo10 : mostOf q ≤ 10 := by omega
    refine gn ?_
    try dsimp only
    generalize (σ2.set 2 (some (V.int (i : Int)))).set 3 (some (V.int q.z)) = σ4 at J4
    obtain ⟨cs, n, b, d, e, I4⟩ := J4
    try dsimp only
    refine sq (s_set I4 (x_getK (x_var I4 rfl)) fun σ5 H5 I5 => ?_)
    have I5 : SI H H H5 σ5 [.u, .r p, ii (i : Int), ii q.z, ii (mostOf q : Int), .u, .u, .u, .u, .u] [(p, .raw (.lst (potL c n b d e))), (c, .raw (.lst (cs.map V.int)))] := I5
    have J5 : PS H H H5 σ5 [.u, .r p, ii (i : Int), ii q.z, ii (mostOf q : Int), .u, .u, .u, .u, .u] p c := ⟨_, _, _, _, _, I5⟩
    -- the polynomials
    refine sq ?_
    show tPar 5 6 (tCons (tCall (sp_law_poly K) [] E0 (tCons (tVar 1) (tCons (tVar 3) (tCons (tVar 4) tNil)))) (tCons (tCall (sp_law_poly K) [] E0 (tCons (tVar 1) (tCons (tVar 3) (tCons (tVar 4) tNil)))) tNil)) _ σ5 H5
    refine m_poly (c := c) (x_ref I5 rfl) (x_var I5 rfl) (x_var I5 rfl) J5.pot hmo10 fun one v1 H6 c1 l1 e6 hP6 t1 => ?_
    have J6 := J5.move e6 hP6
    obtain ⟨_, _, _, _, _, I6⟩ := id J6
    refine m_poly (c := c) (x_ref I6 rfl) (x_var I6 rfl) (x_var I6 rfl) hP6 hmo10 fun other v2 H7 c2 l2 e7 hP7 t2 => ?_
    have J7 : PS H H H7 ((σ5.set 5 (some v1)).set 6 (some v2)) [.u, .r p, ii (i : Int), ii q.z, ii (mostOf q : Int), dt one, dt other, .u, .u, .u] p c := ((J6.move e7 hP7).dset 5 (t1.m (te_exq hP6 e7))).dset 6 t2
    refine ⟨v1, v2, rfl, ?_⟩
    dsimp only
    generalize (σ5.set 5 (some v1)).set 6 (some v2) = σ7 at J7
    try dsimp only
    refine s_mid (fun σ' H' => ∃ other : LI, IsC q other ∧ other.length ≤ mostOf q + 1 ∧ PS H H H' σ' [.u, .r p, ii (i : Int), ii q.z, ii (mostOf q : Int), dt one, dt other, .u, .u, .u] p c) (fun N hN => ?_) fun σ8 H8 ⟨other, c2, l2, J8⟩ => ?_
    · obtain ⟨_, _, _, _, _, I7⟩ := id J7
      refine m_ifeq (R := fun _ H' => Exq p H7 H' ∧ Pot H' p c) (fun Q hQ => m_draw (c := c) (x_ref I7 rfl) x_int hP7 (by decide) (by decide) fun r H' _ _ e hP' => hQ r H' ⟨e, hP'⟩) (fun r H9 ⟨e9, hP9⟩ _ => ?_) fun r H9 ⟨e9, hP9⟩ _ => ?_
      · obtain ⟨_, _, _, _, _, I9⟩ := J7.move e9 hP9
        try dsimp only
        refine s_set I9 (x_var (x := dI one) I9 rfl) fun σ10 H10 I10 => hN _ _ ⟨one, c1, l1, _, _, _, _, _, I10⟩
      · exact hN _ _ ⟨other, c2, l2, J7.move e9 hP9⟩
    · obtain ⟨cs, n, b, d, e, I8⟩ := J8
      generalize hob : ([(p, .raw (.lst (potL c n b d e))), (c, .raw (.lst (cs.map V.int)))] : List (Addr × Ob)) = ob at I8
      have back : ∀ {H9 : Hp} {σ9 : L2.St} {sl9 : List Sl}, SI H H H9 σ9 (.u :: .r p :: sl9) ob → (sl9.length = 8) → PS H H H9 σ9 [.u, .r p, .u, .u, .u, .u, .u, .u, .u, .u] p c := fun {H9 σ9 sl9} J hlen => by
        match sl9, hlen with
        | [_, _, _, _, _, _, _, _], _ =>
          subst hob
          exact ⟨_, _, _, _, _, (((((((J.u 2).u 3).u 4).u 5).u 6).u 7).u 8).u 9⟩
      have l1' : one.length ≤ 10000 := by omega
      have l2' : other.length ≤ 10000 := by omega
      try dsimp only
      refine sq (s_set I8 (x_callF (q, one, other) (a_cons (x_var I8 rfl) (a_cons (x_var I8 rfl) (a_cons (x_var I8 rfl) a_nil))) ⟨c1, c2, l1', l2'⟩) fun σ9 H9 I9 => ?_)
      have ct : IsC q (rawProduct q.z one other) := rawProduct_C one other
      have et : toP q (rawProduct q.z one other) = toP q one * toP q other := toP_rawProduct one other
      have lt : (rawProduct q.z one other).length ≤ 100 := by
        unfold rawProduct
        refine Nat.le_trans (trim_le _) ?_
        rw [mulRows_len, List.length_replicate]; omega
      have q1 : rawProduct q.z one other = lawProduct q.z one other := product_eq c1 c2
      have q2 : rawProduct q.z one other = rawProduct q.z other one := product_comm
      have q3 := product_ne c1 c2
      have I9 : SI H H H9 σ9 [.u, .r p, ii (i : Int), ii q.z, ii (mostOf q : Int), dt one, dt other, dt (rawProduct q.z one other), .u, .u] ob := I9
      generalize hT : rawProduct q.z one other = T at I9 ct et lt q1 q2 q3
      have lT' : T.length ≤ 10000 := by omega
      try dsimp only
      refine sq (s_when (b := false) I9 (EvT.is (t_or (t_not (t_B (x_callF (q, T) (a_cons (x_var I9 rfl) (a_cons (x_var I9 rfl) a_nil)) ⟨ct, lT'⟩))) fun _ => t_B (x_neT (x_var I9 rfl) (x_callF (q, one, other) (a_cons (x_var I9 rfl) (a_cons (x_var I9 rfl) (a_cons (x_var I9 rfl) a_nil))) ⟨c1.1, c2.1, l1', l2'⟩))) (by
        show (!true || !decide (T = lawProduct q.z one other)) = false
        rw [decide_eq_true q1]; rfl)) (fun e => nomatch e) fun _ H10 I10 => ?_)
      try dsimp only
      refine sq (s_when (b := false) I10 (EvT.is (t_B (x_neT (x_var I10 rfl) (x_callF (q, other, one) (a_cons (x_var I10 rfl) (a_cons (x_var I10 rfl) (a_cons (x_var I10 rfl) a_nil))) ⟨c2, c1, l2', l1'⟩))) (by
        show (!decide (T = rawProduct q.z other one)) = false
        rw [decide_eq_true q2]; rfl)) (fun e => nomatch e) fun _ H11 I11 => ?_)
      have lone1 : ([1] : LI).length ≤ 10000 := by decide
      have lnil : ([] : LI).length ≤ 10000 := by decide
      try dsimp only
      refine sq (s_when (b := false) I11 (EvT.is (t_or (t_B (x_neT (x_callF (q, one, [1]) (a_cons (x_var I11 rfl) (a_cons (x_var I11 rfl) (a_cons (x_tup (ds := [.int 1]) (a_cons x_int a_nil) (by decide)) a_nil))) ⟨c1, isC_one q, l1', lone1⟩) (x_var I11 rfl))) fun _ => t_B (x_neT (b := []) (x_callF (q, [], one) (a_cons (x_var I11 rfl) (a_cons x_e (a_cons (x_var I11 rfl) a_nil))) ⟨IsC.nil, c1, lnil, l1'⟩) x_e)) (by
        show (!decide (rawProduct q.z one [1] = one) || !decide (rawProduct q.z [] one = [])) = false
        rw [decide_eq_true (product_one c1), decide_eq_true (product_nil one)]; rfl)) (fun e => nomatch e) fun _ H12 I12 => ?_)
      try dsimp only
      refine s_when (b := !decide (T = [])) I12 (t_B (x_neE (x_var I12 rfl) x_e)) (fun hb H13 I13 => ?_) fun _ H13 I13 => back I13 rfl
      have hTn : T ≠ [] := fun z => by rw [decide_eq_true z] at hb; exact nomatch hb
      obtain ⟨n1, n2⟩ := q3.mp hTn
      have lo1 : one.length ≤ 100 := by omega
      have lo2 : other.length ≤ 100 := by omega
      obtain ⟨f1, f2, f3⟩ := rawFactors_ok c1 n1
      obtain ⟨g1, g2, g3⟩ := rawFactors_ok c2 n2
      have fl := factors_len c1 n1
      have gl := factors_len c2 n2
      have fp := told_product c1 n1
      have gp := told_product c2 n2
      have htog := factors_product c1 c2 ct n1 n2 hTn et
      try dsimp only
      refine sq (s_par I13 (a_cons (x_callF (q, one) (a_cons (x_var I13 rfl) (a_cons (x_var I13 rfl) a_nil)) ⟨c1, n1, lo1⟩) (a_cons (x_callF (q, other) (a_cons (x_var I13 rfl) (a_cons (x_var I13 rfl) a_nil)) ⟨c2, n2, lo2⟩) a_nil)) fun σ14 H14 I14 => ?_)
      have I14 : SI H H H14 σ14 [.u, .r p, ii (i : Int), ii q.z, ii (mostOf q : Int), dt one, dt other, dt T, .d (dPs (rawFactors q.z one)), .d (dPs (rawFactors q.z other))] ob := I14
      have hsc : ∀ h : LI, IsC q h → h ≠ [] → ∀ cc : Fq q, toP q h = toP q one * Poly.C cc → rawFactors q.z h = rawFactors q.z one := fun h ch nh cc e => factors_scaled c1 ch n1 nh e
      generalize rawFactors q.z one = F at I14 f1 f2 f3 fl fp htog hsc
      generalize rawFactors q.z other = G at I14 g1 g2 g3 gl gp htog
      have lo8 : one.length ≤ 8 := by omega
      have lt8 : other.length ≤ 8 := by omega
      have fl' : F.length ≤ 1000 := by omega
      have gl' : G.length ≤ 1000 := by omega
      try dsimp only
      refine sq (s_when (b := false) I14 (EvT.is (t_or (t_not (t_B (x_callF (q, one, F) (a_cons (x_var I14 rfl) (a_cons (x_var I14 rfl) (a_cons (x_var I14 rfl) a_nil))) ⟨c1, n1, lo8, f1, f2, fp, fl'⟩))) fun _ => t_not (t_B (x_callF (q, other, G) (a_cons (x_var I14 rfl) (a_cons (x_var I14 rfl) (a_cons (x_var I14 rfl) a_nil))) ⟨c2, n2, lt8, g1, g2, gp, gl'⟩))) rfl) (fun e => nomatch e) fun _ H15 I15 => ?_)
      try dsimp only
      refine sq (s_when (b := false) I15 (EvT.is (t_B (x_neD (x_callF (q, T) (a_cons (x_var I15 rfl) (a_cons (x_var I15 rfl) a_nil)) ⟨ct, hTn, lt⟩) (x_callF (q, F, G) (a_cons (x_var I15 rfl) (a_cons (x_var I15 rfl) a_nil)) ⟨f1, g1, fl', gl'⟩) (sh_dPs _) (sh_dPs _))) (by
        show (!PyData.eqv (dPs (rawFactors q.z T)) (dPs (together F G))) = false
        rw [htog, eqv_dPs]; rfl)) (fun e => nomatch e) fun _ H16 I16 => ?_)
      have cm : IsC q [q.z - 1] := ⟨fun x hx => by rw [List.mem_singleton.mp hx]; omega, fun _ => by show q.z - 1 ≠ 0; omega⟩
      obtain ⟨o1, o2⟩ := lawProduct_ok c1 cm
      have cmne : cf q (q.z - 1) ≠ 0 := fun z => by
        have := (cf_eq_zero (q := q) (a := q.z - 1) (by omega) (by omega)).mp z
        omega
      have hmn : lawProduct q.z one [q.z - 1] ≠ [] := by
        rw [← product_eq c1 cm]
        exact (product_ne c1 cm).mpr ⟨n1, by simp⟩
      have lml : (lawProduct q.z one [q.z - 1]).length ≤ 100 := by
        unfold lawProduct
        split
        · decide
        · refine Nat.le_trans (trim_le _) ?_
          rw [mulRows_len, List.length_replicate]
          show one.length + 1 - 1 ≤ 100
          omega
      have hscl := hsc _ o1 hmn (cf q (q.z - 1)) (by rw [o2, toP_const])
      have lm1 : ([q.z - 1] : LI).length ≤ 10000 := by show 1 ≤ 10000; decide
      try dsimp only
      refine s_when (b := false) I16 (EvT.is (t_B (x_neD (x_callF (q, lawProduct q.z one [q.z - 1]) (a_cons (x_var I16 rfl) (a_cons (x_callF (q, one, [q.z - 1]) (a_cons (x_var I16 rfl) (a_cons (x_var I16 rfl) (a_cons (x_tup (ds := [.int (q.z - 1)]) (a_cons (x_sub (x_var I16 rfl) x_int) a_nil) (by show 1 ≤ 100000; decide)) a_nil))) ⟨c1.1, cm.1, l1', lm1⟩) a_nil)) ⟨o1, hmn, lml⟩) (x_var I16 rfl) (sh_dPs _) (sh_dPs _))) (by
        show (!PyData.eqv (dPs (rawFactors q.z (lawProduct q.z one [q.z - 1]))) (dPs F)) = false
        rw [hscl, eqv_dPs]; rfl)) (fun e => nomatch e) fun _ H17 I17 => back I17 rfl
  · obtain ⟨_, _, _, _, _, I2⟩ := J2
    try dsimp only
    exact s_ret I2 x_bl fun v H3 _ hv => by
      cases hv
      exact k H3
end
end Wk
end
section
set_option Elab.async false
set_option linter.all false
set_option maxRecDepth 100000
set_option maxHeartbeats 4000000
/-! What the top has written, the head. -/
namespace Wk
open PySem PySem.Spec PyProof.Rows L2 Evl Mw
theorem all_mk {l : PySem.W.OpenLaw} {w : World} {K : PySem.W.Frag} {h : Heap} {mg : Str → Option Value} {fa C aP fd0 fd1 fd2 fd3 fd4 fd5 fd6 fd7 fd8 fd9 fd10 fd11 fd12 fd13 fd14 fd15 fd16 fd17 fd18 fd19 fd20 fd21 fd22 fd23 fd24 fd25 fd26 fd27 fd28 fd29 fd30 fd31 fd32 fd33 fd34 fd35 fd36 fd37 fd38 fd39 fmI fmK : Addr} (X : K.In h) (G : h.Ns mainGlobals mg) (hfa : mg "law" = some (.ref fa))
    {odd0 and0 odd1 and1 odd2 and2 odd3 and3 odd4 and4 odd5 and5 odd6 and6 odd7 and7 odd8 and8 odd9 and9 odd10 and10 odd11 and11 odd12 and12 odd13 and13 odd14 and14 odd15 and15 odd16 and16 odd17 and17 odd18 and18 odd19 and19 odd20 and20 odd21 and21 odd22 and22 odd23 and23 odd24 and24 odd25 and25 odd26 and26 odd27 and27 odd28 and28 odd29 and29 odd30 and30 odd31 and31 odd32 and32 odd33 and33 odd34 and34 odd35 and35 odd36 and36 odd37 and37 odd38 and38 odd39 and39 odmI anmI odmK anmK odP : Option Addr} {sld0 sld1 sld2 sld3 sld4 sld5 sld6 sld7 sld8 sld9 sld10 sld11 sld12 sld13 sld14 sld15 sld16 sld17 sld18 sld19 sld20 sld21 sld22 sld23 sld24 sld25 sld26 sld27 sld28 sld29 sld30 sld31 sld32 sld33 sld34 sld35 sld36 sld37 sld38 sld39 slmI slmK slP : Array (Option Value)} {ocd0 kVd0 dcd0 pmd0 cdd0 ctd0 ocd1 kVd1 dcd1 pmd1 cdd1 ctd1 ocd2 kVd2 dcd2 pmd2 cdd2 ctd2 ocd3 kVd3 dcd3 pmd3 cdd3 ctd3 ocd4 kVd4 dcd4 pmd4 cdd4 ctd4 ocd5 kVd5 dcd5 pmd5 cdd5 ctd5 ocd6 kVd6 dcd6 pmd6 cdd6 ctd6 ocd7 kVd7 dcd7 pmd7 cdd7 ctd7 ocd8 kVd8 dcd8 pmd8 cdd8 ctd8 ocd9 kVd9 dcd9 pmd9 cdd9 ctd9 ocd10 kVd10 dcd10 pmd10 cdd10 ctd10 ocd11 kVd11 dcd11 pmd11 cdd11 ctd11 ocd12 kVd12 dcd12 pmd12 cdd12 ctd12 ocd13 kVd13 dcd13 pmd13 cdd13 ctd13 ocd14 kVd14 dcd14 pmd14 cdd14 ctd14 ocd15 kVd15 dcd15 pmd15 cdd15 ctd15 ocd16 kVd16 dcd16 pmd16 cdd16 ctd16 ocd17 kVd17 dcd17 pmd17 cdd17 ctd17 ocd18 kVd18 dcd18 pmd18 cdd18 ctd18 ocd19 kVd19 dcd19 pmd19 cdd19 ctd19 ocd20 kVd20 dcd20 pmd20 cdd20 ctd20 ocd21 kVd21 dcd21 pmd21 cdd21 ctd21 ocd22 kVd22 dcd22 pmd22 cdd22 ctd22 ocd23 kVd23 dcd23 pmd23 cdd23 ctd23 ocd24 kVd24 dcd24 pmd24 cdd24 ctd24 ocd25 kVd25 dcd25 pmd25 cdd25 ctd25 ocd26 kVd26 dcd26 pmd26 cdd26 ctd26 ocd27 kVd27 dcd27 pmd27 cdd27 ctd27 ocd28 kVd28 dcd28 pmd28 cdd28 ctd28 ocd29 kVd29 dcd29 pmd29 cdd29 ctd29 ocd30 kVd30 dcd30 pmd30 cdd30 ctd30 ocd31 kVd31 dcd31 pmd31 cdd31 ctd31 ocd32 kVd32 dcd32 pmd32 cdd32 ctd32 ocd33 kVd33 dcd33 pmd33 cdd33 ctd33 ocd34 kVd34 dcd34 pmd34 cdd34 ctd34 ocd35 kVd35 dcd35 pmd35 cdd35 ctd35 ocd36 kVd36 dcd36 pmd36 cdd36 ctd36 ocd37 kVd37 dcd37 pmd37 cdd37 ctd37 ocd38 kVd38 dcd38 pmd38 cdd38 ctd38 ocd39 kVd39 dcd39 pmd39 cdd39 ctd39 ocmI kVmI dcmI pmmI cdmI ctmI ocmK kVmK dcmK pmmK cdmK ctmK : Value} {t1 t2 t3 t4 t5 t6 : Tok} {nP : Nat}
    (aC : PySem.W.nsIn K mainGlobals "RawTable" = some (some (.ref C)))
    (ad0 : PySem.W.nsIn K mainGlobals "is_integer" = some (some (.ref fd0)))
    (ad1 : PySem.W.nsIn K mainGlobals "is_within" = some (some (.ref fd1)))
    (ad2 : PySem.W.nsIn K mainGlobals "is_number" = some (some (.ref fd2)))
    (ad3 : PySem.W.nsIn K mainGlobals "is_prime" = some (some (.ref fd3)))
    (ad4 : PySem.W.nsIn K mainGlobals "check_prime" = some (some (.ref fd4)))
    (ad5 : PySem.W.nsIn K mainGlobals "inverse_of" = some (some (.ref fd5)))
    (ad6 : PySem.W.nsIn K mainGlobals "columns_table" = some (some (.ref fd6)))
    (ad7 : PySem.W.nsIn K mainGlobals "less" = some (some (.ref fd7)))
    (ad8 : PySem.W.nsIn K mainGlobals "cleared" = some (some (.ref fd8)))
    (ad9 : PySem.W.nsIn K mainGlobals "reduced_rows" = some (some (.ref fd9)))
    (ad10 : PySem.W.nsIn K mainGlobals "kernel" = some (some (.ref fd10)))
    (ad11 : PySem.W.nsIn K mainGlobals "is_polynomial" = some (some (.ref fd11)))
    (ad12 : PySem.W.nsIn K mainGlobals "check_polynomial" = some (some (.ref fd12)))
    (ad13 : PySem.W.nsIn K mainGlobals "trimmed" = some (some (.ref fd13)))
    (ad14 : PySem.W.nsIn K mainGlobals "raw_product" = some (some (.ref fd14)))
    (ad15 : PySem.W.nsIn K mainGlobals "product" = some (some (.ref fd15)))
    (ad16 : PySem.W.nsIn K mainGlobals "monic" = some (some (.ref fd16)))
    (ad17 : PySem.W.nsIn K mainGlobals "divided" = some (some (.ref fd17)))
    (ad18 : PySem.W.nsIn K mainGlobals "common" = some (some (.ref fd18)))
    (ad19 : PySem.W.nsIn K mainGlobals "slope" = some (some (.ref fd19)))
    (ad20 : PySem.W.nsIn K mainGlobals "minus" = some (some (.ref fd20)))
    (ad21 : PySem.W.nsIn K mainGlobals "power_rests" = some (some (.ref fd21)))
    (ad22 : PySem.W.nsIn K mainGlobals "still_polys" = some (some (.ref fd22)))
    (ad23 : PySem.W.nsIn K mainGlobals "simple_factors" = some (some (.ref fd23)))
    (ad24 : PySem.W.nsIn K mainGlobals "times_in" = some (some (.ref fd24)))
    (ad25 : PySem.W.nsIn K mainGlobals "raw_factors" = some (some (.ref fd25)))
    (ad26 : PySem.W.nsIn K mainGlobals "factors" = some (some (.ref fd26)))
    (ad27 : PySem.W.nsIn K mainGlobals "_law_pot" = some (some (.ref fd27)))
    (ad28 : PySem.W.nsIn K mainGlobals "_law_draw" = some (some (.ref fd28)))
    (ad29 : PySem.W.nsIn K mainGlobals "_law_any" = some (some (.ref fd29)))
    (ad30 : PySem.W.nsIn K mainGlobals "_law_cut" = some (some (.ref fd30)))
    (ad31 : PySem.W.nsIn K mainGlobals "_law_product" = some (some (.ref fd31)))
    (ad32 : PySem.W.nsIn K mainGlobals "_law_left" = some (some (.ref fd32)))
    (ad33 : PySem.W.nsIn K mainGlobals "_law_monics" = some (some (.ref fd33)))
    (ad34 : PySem.W.nsIn K mainGlobals "_law_is_prime" = some (some (.ref fd34)))
    (ad35 : PySem.W.nsIn K mainGlobals "_law_poly" = some (some (.ref fd35)))
    (ad36 : PySem.W.nsIn K mainGlobals "_law_is_poly" = some (some (.ref fd36)))
    (ad37 : PySem.W.nsIn K mainGlobals "_law_told_right" = some (some (.ref fd37)))
    (ad38 : PySem.W.nsIn K mainGlobals "_law_together" = some (some (.ref fd38)))
    (ad39 : PySem.W.nsIn K mainGlobals "law" = some (some (.ref fd39)))
    (amI : PySem.W.findIn K (.ref C) "__init__" = some (some (.ref fmI)))
    (imI : PySem.W.isFn K (.ref fmI) = true)
    (amK : PySem.W.findIn K (.ref C) "keep" = some (some (.ref fmK)))
    (imK : PySem.W.isFn K (.ref fmK) = true)
    (ld0 : K.lookup fd0 = some ⟨ocd0, odd0, .func (PySem.W.fnOf "is_integer" "is_integer" (defArgs st_is_integer) (defBody st_is_integer) (defScope st_is_integer) .none kVd0 dcd0 pmd0 and0 cdd0 ctd0), sld0⟩)
    (cd0 : PySem.W.codeIn K cdd0 "is_integer" = true)
    (kd0 : PySem.W.keepIn K (.ref fd0) = true)
    (ld1 : K.lookup fd1 = some ⟨ocd1, odd1, .func (PySem.W.fnOf "is_within" "is_within" (defArgs st_is_within) (defBody st_is_within) (defScope st_is_within) .none kVd1 dcd1 pmd1 and1 cdd1 ctd1), sld1⟩)
    (cd1 : PySem.W.codeIn K cdd1 "is_within" = true)
    (kd1 : PySem.W.keepIn K (.ref fd1) = true)
    (ld2 : K.lookup fd2 = some ⟨ocd2, odd2, .func (PySem.W.fnOf "is_number" "is_number" (defArgs st_is_number) (defBody st_is_number) (defScope st_is_number) .none kVd2 dcd2 pmd2 and2 cdd2 ctd2), sld2⟩)
    (cd2 : PySem.W.codeIn K cdd2 "is_number" = true)
    (kd2 : PySem.W.keepIn K (.ref fd2) = true)
    (ld3 : K.lookup fd3 = some ⟨ocd3, odd3, .func (PySem.W.fnOf "is_prime" "is_prime" (defArgs st_is_prime) (defBody st_is_prime) (defScope st_is_prime) .none kVd3 dcd3 pmd3 and3 cdd3 ctd3), sld3⟩)
    (cd3 : PySem.W.codeIn K cdd3 "is_prime" = true)
    (kd3 : PySem.W.keepIn K (.ref fd3) = true)
    (ld4 : K.lookup fd4 = some ⟨ocd4, odd4, .func (PySem.W.fnOf "check_prime" "check_prime" (defArgs st_check_prime) (defBody st_check_prime) (defScope st_check_prime) .none kVd4 dcd4 pmd4 and4 cdd4 ctd4), sld4⟩)
    (cd4 : PySem.W.codeIn K cdd4 "check_prime" = true)
    (kd4 : PySem.W.keepIn K (.ref fd4) = true)
    (ld5 : K.lookup fd5 = some ⟨ocd5, odd5, .func (PySem.W.fnOf "inverse_of" "inverse_of" (defArgs st_inverse_of) (defBody st_inverse_of) (defScope st_inverse_of) .none kVd5 dcd5 pmd5 and5 cdd5 ctd5), sld5⟩)
    (cd5 : PySem.W.codeIn K cdd5 "inverse_of" = true)
    (kd5 : PySem.W.keepIn K (.ref fd5) = true)
    (ld6 : K.lookup fd6 = some ⟨ocd6, odd6, .func (PySem.W.fnOf "columns_table" "columns_table" (defArgs st_columns_table) (defBody st_columns_table) (defScope st_columns_table) .none kVd6 dcd6 pmd6 and6 cdd6 ctd6), sld6⟩)
    (cd6 : PySem.W.codeIn K cdd6 "columns_table" = true)
    (kd6 : PySem.W.keepIn K (.ref fd6) = true)
    (ld7 : K.lookup fd7 = some ⟨ocd7, odd7, .func (PySem.W.fnOf "less" "less" (defArgs st_less) (defBody st_less) (defScope st_less) .none kVd7 dcd7 pmd7 and7 cdd7 ctd7), sld7⟩)
    (cd7 : PySem.W.codeIn K cdd7 "less" = true)
    (kd7 : PySem.W.keepIn K (.ref fd7) = true)
    (ld8 : K.lookup fd8 = some ⟨ocd8, odd8, .func (PySem.W.fnOf "cleared" "cleared" (defArgs st_cleared) (defBody st_cleared) (defScope st_cleared) .none kVd8 dcd8 pmd8 and8 cdd8 ctd8), sld8⟩)
    (cd8 : PySem.W.codeIn K cdd8 "cleared" = true)
    (kd8 : PySem.W.keepIn K (.ref fd8) = true)
    (ld9 : K.lookup fd9 = some ⟨ocd9, odd9, .func (PySem.W.fnOf "reduced_rows" "reduced_rows" (defArgs st_reduced_rows) (defBody st_reduced_rows) (defScope st_reduced_rows) .none kVd9 dcd9 pmd9 and9 cdd9 ctd9), sld9⟩)
    (cd9 : PySem.W.codeIn K cdd9 "reduced_rows" = true)
    (kd9 : PySem.W.keepIn K (.ref fd9) = true)
    (ld10 : K.lookup fd10 = some ⟨ocd10, odd10, .func (PySem.W.fnOf "kernel" "kernel" (defArgs st_kernel) (defBody st_kernel) (defScope st_kernel) .none kVd10 dcd10 pmd10 and10 cdd10 ctd10), sld10⟩)
    (cd10 : PySem.W.codeIn K cdd10 "kernel" = true)
    (kd10 : PySem.W.keepIn K (.ref fd10) = true)
    (ld11 : K.lookup fd11 = some ⟨ocd11, odd11, .func (PySem.W.fnOf "is_polynomial" "is_polynomial" (defArgs st_is_polynomial) (defBody st_is_polynomial) (defScope st_is_polynomial) .none kVd11 dcd11 pmd11 and11 cdd11 ctd11), sld11⟩)
    (cd11 : PySem.W.codeIn K cdd11 "is_polynomial" = true)
    (kd11 : PySem.W.keepIn K (.ref fd11) = true)
    (ld12 : K.lookup fd12 = some ⟨ocd12, odd12, .func (PySem.W.fnOf "check_polynomial" "check_polynomial" (defArgs st_check_polynomial) (defBody st_check_polynomial) (defScope st_check_polynomial) .none kVd12 dcd12 pmd12 and12 cdd12 ctd12), sld12⟩)
    (cd12 : PySem.W.codeIn K cdd12 "check_polynomial" = true)
    (kd12 : PySem.W.keepIn K (.ref fd12) = true)
    (ld13 : K.lookup fd13 = some ⟨ocd13, odd13, .func (PySem.W.fnOf "trimmed" "trimmed" (defArgs st_trimmed) (defBody st_trimmed) (defScope st_trimmed) .none kVd13 dcd13 pmd13 and13 cdd13 ctd13), sld13⟩)
    (cd13 : PySem.W.codeIn K cdd13 "trimmed" = true)
    (kd13 : PySem.W.keepIn K (.ref fd13) = true)
    (ld14 : K.lookup fd14 = some ⟨ocd14, odd14, .func (PySem.W.fnOf "raw_product" "raw_product" (defArgs st_raw_product) (defBody st_raw_product) (defScope st_raw_product) .none kVd14 dcd14 pmd14 and14 cdd14 ctd14), sld14⟩)
    (cd14 : PySem.W.codeIn K cdd14 "raw_product" = true)
    (kd14 : PySem.W.keepIn K (.ref fd14) = true)
    (ld15 : K.lookup fd15 = some ⟨ocd15, odd15, .func (PySem.W.fnOf "product" "product" (defArgs st_product) (defBody st_product) (defScope st_product) .none kVd15 dcd15 pmd15 and15 cdd15 ctd15), sld15⟩)
    (cd15 : PySem.W.codeIn K cdd15 "product" = true)
    (kd15 : PySem.W.keepIn K (.ref fd15) = true)
    (ld16 : K.lookup fd16 = some ⟨ocd16, odd16, .func (PySem.W.fnOf "monic" "monic" (defArgs st_monic) (defBody st_monic) (defScope st_monic) .none kVd16 dcd16 pmd16 and16 cdd16 ctd16), sld16⟩)
    (cd16 : PySem.W.codeIn K cdd16 "monic" = true)
    (kd16 : PySem.W.keepIn K (.ref fd16) = true)
    (ld17 : K.lookup fd17 = some ⟨ocd17, odd17, .func (PySem.W.fnOf "divided" "divided" (defArgs st_divided) (defBody st_divided) (defScope st_divided) .none kVd17 dcd17 pmd17 and17 cdd17 ctd17), sld17⟩)
    (cd17 : PySem.W.codeIn K cdd17 "divided" = true)
    (kd17 : PySem.W.keepIn K (.ref fd17) = true)
    (ld18 : K.lookup fd18 = some ⟨ocd18, odd18, .func (PySem.W.fnOf "common" "common" (defArgs st_common) (defBody st_common) (defScope st_common) .none kVd18 dcd18 pmd18 and18 cdd18 ctd18), sld18⟩)
    (cd18 : PySem.W.codeIn K cdd18 "common" = true)
    (kd18 : PySem.W.keepIn K (.ref fd18) = true)
    (ld19 : K.lookup fd19 = some ⟨ocd19, odd19, .func (PySem.W.fnOf "slope" "slope" (defArgs st_slope) (defBody st_slope) (defScope st_slope) .none kVd19 dcd19 pmd19 and19 cdd19 ctd19), sld19⟩)
    (cd19 : PySem.W.codeIn K cdd19 "slope" = true)
    (kd19 : PySem.W.keepIn K (.ref fd19) = true)
    (ld20 : K.lookup fd20 = some ⟨ocd20, odd20, .func (PySem.W.fnOf "minus" "minus" (defArgs st_minus) (defBody st_minus) (defScope st_minus) .none kVd20 dcd20 pmd20 and20 cdd20 ctd20), sld20⟩)
    (cd20 : PySem.W.codeIn K cdd20 "minus" = true)
    (kd20 : PySem.W.keepIn K (.ref fd20) = true)
    (ld21 : K.lookup fd21 = some ⟨ocd21, odd21, .func (PySem.W.fnOf "power_rests" "power_rests" (defArgs st_power_rests) (defBody st_power_rests) (defScope st_power_rests) .none kVd21 dcd21 pmd21 and21 cdd21 ctd21), sld21⟩)
    (cd21 : PySem.W.codeIn K cdd21 "power_rests" = true)
    (kd21 : PySem.W.keepIn K (.ref fd21) = true)
    (ld22 : K.lookup fd22 = some ⟨ocd22, odd22, .func (PySem.W.fnOf "still_polys" "still_polys" (defArgs st_still_polys) (defBody st_still_polys) (defScope st_still_polys) .none kVd22 dcd22 pmd22 and22 cdd22 ctd22), sld22⟩)
    (cd22 : PySem.W.codeIn K cdd22 "still_polys" = true)
    (kd22 : PySem.W.keepIn K (.ref fd22) = true)
    (ld23 : K.lookup fd23 = some ⟨ocd23, odd23, .func (PySem.W.fnOf "simple_factors" "simple_factors" (defArgs st_simple_factors) (defBody st_simple_factors) (defScope st_simple_factors) .none kVd23 dcd23 pmd23 and23 cdd23 ctd23), sld23⟩)
    (cd23 : PySem.W.codeIn K cdd23 "simple_factors" = true)
    (kd23 : PySem.W.keepIn K (.ref fd23) = true)
    (ld24 : K.lookup fd24 = some ⟨ocd24, odd24, .func (PySem.W.fnOf "times_in" "times_in" (defArgs st_times_in) (defBody st_times_in) (defScope st_times_in) .none kVd24 dcd24 pmd24 and24 cdd24 ctd24), sld24⟩)
    (cd24 : PySem.W.codeIn K cdd24 "times_in" = true)
    (kd24 : PySem.W.keepIn K (.ref fd24) = true)
    (ld25 : K.lookup fd25 = some ⟨ocd25, odd25, .func (PySem.W.fnOf "raw_factors" "raw_factors" (defArgs st_raw_factors) (defBody st_raw_factors) (defScope st_raw_factors) .none kVd25 dcd25 pmd25 and25 cdd25 ctd25), sld25⟩)
    (cd25 : PySem.W.codeIn K cdd25 "raw_factors" = true)
    (kd25 : PySem.W.keepIn K (.ref fd25) = true)
    (ld26 : K.lookup fd26 = some ⟨ocd26, odd26, .func (PySem.W.fnOf "factors" "factors" (defArgs st_factors) (defBody st_factors) (defScope st_factors) .none kVd26 dcd26 pmd26 and26 cdd26 ctd26), sld26⟩)
    (cd26 : PySem.W.codeIn K cdd26 "factors" = true)
    (kd26 : PySem.W.keepIn K (.ref fd26) = true)
    (ld27 : K.lookup fd27 = some ⟨ocd27, odd27, .func (PySem.W.fnOf "_law_pot" "_law_pot" (defArgs st_law_pot) (defBody st_law_pot) (defScope st_law_pot) .none kVd27 dcd27 pmd27 and27 cdd27 ctd27), sld27⟩)
    (cd27 : PySem.W.codeIn K cdd27 "_law_pot" = true)
    (kd27 : PySem.W.keepIn K (.ref fd27) = true)
    (ld28 : K.lookup fd28 = some ⟨ocd28, odd28, .func (PySem.W.fnOf "_law_draw" "_law_draw" (defArgs st_law_draw) (defBody st_law_draw) (defScope st_law_draw) .none kVd28 dcd28 pmd28 and28 cdd28 ctd28), sld28⟩)
    (cd28 : PySem.W.codeIn K cdd28 "_law_draw" = true)
    (kd28 : PySem.W.keepIn K (.ref fd28) = true)
    (ld29 : K.lookup fd29 = some ⟨ocd29, odd29, .func (PySem.W.fnOf "_law_any" "_law_any" (defArgs st_law_any) (defBody st_law_any) (defScope st_law_any) .none kVd29 dcd29 pmd29 and29 cdd29 ctd29), sld29⟩)
    (cd29 : PySem.W.codeIn K cdd29 "_law_any" = true)
    (kd29 : PySem.W.keepIn K (.ref fd29) = true)
    (ld30 : K.lookup fd30 = some ⟨ocd30, odd30, .func (PySem.W.fnOf "_law_cut" "_law_cut" (defArgs st_law_cut) (defBody st_law_cut) (defScope st_law_cut) .none kVd30 dcd30 pmd30 and30 cdd30 ctd30), sld30⟩)
    (cd30 : PySem.W.codeIn K cdd30 "_law_cut" = true)
    (kd30 : PySem.W.keepIn K (.ref fd30) = true)
    (ld31 : K.lookup fd31 = some ⟨ocd31, odd31, .func (PySem.W.fnOf "_law_product" "_law_product" (defArgs st_law_product) (defBody st_law_product) (defScope st_law_product) .none kVd31 dcd31 pmd31 and31 cdd31 ctd31), sld31⟩)
    (cd31 : PySem.W.codeIn K cdd31 "_law_product" = true)
    (kd31 : PySem.W.keepIn K (.ref fd31) = true)
    (ld32 : K.lookup fd32 = some ⟨ocd32, odd32, .func (PySem.W.fnOf "_law_left" "_law_left" (defArgs st_law_left) (defBody st_law_left) (defScope st_law_left) .none kVd32 dcd32 pmd32 and32 cdd32 ctd32), sld32⟩)
    (cd32 : PySem.W.codeIn K cdd32 "_law_left" = true)
    (kd32 : PySem.W.keepIn K (.ref fd32) = true)
    (ld33 : K.lookup fd33 = some ⟨ocd33, odd33, .func (PySem.W.fnOf "_law_monics" "_law_monics" (defArgs st_law_monics) (defBody st_law_monics) (defScope st_law_monics) .none kVd33 dcd33 pmd33 and33 cdd33 ctd33), sld33⟩)
    (cd33 : PySem.W.codeIn K cdd33 "_law_monics" = true)
    (kd33 : PySem.W.keepIn K (.ref fd33) = true)
    (ld34 : K.lookup fd34 = some ⟨ocd34, odd34, .func (PySem.W.fnOf "_law_is_prime" "_law_is_prime" (defArgs st_law_is_prime) (defBody st_law_is_prime) (defScope st_law_is_prime) .none kVd34 dcd34 pmd34 and34 cdd34 ctd34), sld34⟩)
    (cd34 : PySem.W.codeIn K cdd34 "_law_is_prime" = true)
    (kd34 : PySem.W.keepIn K (.ref fd34) = true)
    (ld35 : K.lookup fd35 = some ⟨ocd35, odd35, .func (PySem.W.fnOf "_law_poly" "_law_poly" (defArgs st_law_poly) (defBody st_law_poly) (defScope st_law_poly) .none kVd35 dcd35 pmd35 and35 cdd35 ctd35), sld35⟩)
    (cd35 : PySem.W.codeIn K cdd35 "_law_poly" = true)
    (kd35 : PySem.W.keepIn K (.ref fd35) = true)
    (ld36 : K.lookup fd36 = some ⟨ocd36, odd36, .func (PySem.W.fnOf "_law_is_poly" "_law_is_poly" (defArgs st_law_is_poly) (defBody st_law_is_poly) (defScope st_law_is_poly) .none kVd36 dcd36 pmd36 and36 cdd36 ctd36), sld36⟩)
    (cd36 : PySem.W.codeIn K cdd36 "_law_is_poly" = true)
    (kd36 : PySem.W.keepIn K (.ref fd36) = true)
    (ld37 : K.lookup fd37 = some ⟨ocd37, odd37, .func (PySem.W.fnOf "_law_told_right" "_law_told_right" (defArgs st_law_told_right) (defBody st_law_told_right) (defScope st_law_told_right) .none kVd37 dcd37 pmd37 and37 cdd37 ctd37), sld37⟩)
    (cd37 : PySem.W.codeIn K cdd37 "_law_told_right" = true)
    (kd37 : PySem.W.keepIn K (.ref fd37) = true)
    (ld38 : K.lookup fd38 = some ⟨ocd38, odd38, .func (PySem.W.fnOf "_law_together" "_law_together" (defArgs st_law_together) (defBody st_law_together) (defScope st_law_together) .none kVd38 dcd38 pmd38 and38 cdd38 ctd38), sld38⟩)
    (cd38 : PySem.W.codeIn K cdd38 "_law_together" = true)
    (kd38 : PySem.W.keepIn K (.ref fd38) = true)
    (ld39 : K.lookup fd39 = some ⟨ocd39, odd39, .func (PySem.W.fnOf "law" "law" (defArgs st_law) (defBody st_law) (defScope st_law) .none kVd39 dcd39 pmd39 and39 cdd39 ctd39), sld39⟩)
    (cd39 : PySem.W.codeIn K cdd39 "law" = true)
    (kd39 : PySem.W.keepIn K (.ref fd39) = true)
    (lmI : K.lookup fmI = some ⟨ocmI, odmI, .func (PySem.W.fnOf "__init__" "RawTable.__init__" (defArgs st_init) (defBody st_init) (defScope st_init) .none kVmI dcmI pmmI anmI cdmI ctmI), slmI⟩)
    (cmI : PySem.W.codeIn K cdmI "RawTable.__init__" = true)
    (kmI : PySem.W.keepIn K (.ref fmI) = true)
    (lmK : K.lookup fmK = some ⟨ocmK, odmK, .func (PySem.W.fnOf "keep" "Table.keep" (defArgs st_keep) (defBody st_keep) (defScope st_keep) .none kVmK dcmK pmmK anmK cdmK ctmK), slmK⟩)
    (cmK : PySem.W.codeIn K cdmK "Table.keep" = true)
    (kmK : PySem.W.keepIn K (.ref fmK) = true)
    (pg : PySem.W.plainGet K C Str.empty = true)
    (hd : PySem.W.hasDictIn K C = true)
    (po : PySem.W.plainOver K C = true)
    (sa : PySem.W.findIn K (.ref C) "__setattr__" = some (some (.builtin "object.__setattr__")))
    (mk : PySem.W.makesIn K C = true)
    (kc : PySem.W.keepIn K (.ref C) = true)
    (n_prime : PySem.W.findIn K (.ref C) "prime" = some none)
    (n_wide : PySem.W.findIn K (.ref C) "wide" = some none)
    (n_rows : PySem.W.findIn K (.ref C) "rows" = some none)
    (n_high : PySem.W.findIn K (.ref C) "high" = some none)
    (gP : PySem.W.nsIn K mainGlobals "PRIMES" = some (some (.ref aP)))
    (lP : K.lookup aP = some ⟨.type "tuple", odP, .seq #[.int 2 t1, .int 3 t2, .int 5 t3, .int 7 t4, .int 11 t5, .int 13 t6] nP, slP⟩)
    (z_isinstance : PySem.W.nsIn K mainGlobals "isinstance" = some none)
    (z_int : PySem.W.nsIn K mainGlobals "int" = some none)
    (z_bool : PySem.W.nsIn K mainGlobals "bool" = some none)
    (z_tuple : PySem.W.nsIn K mainGlobals "tuple" = some none)
    (z_list : PySem.W.nsIn K mainGlobals "list" = some none)
    (z_len : PySem.W.nsIn K mainGlobals "len" = some none)
    (z_range : PySem.W.nsIn K mainGlobals "range" = some none)
    (z_zip : PySem.W.nsIn K mainGlobals "zip" = some none)
    (z_enumerate : PySem.W.nsIn K mainGlobals "enumerate" = some none)
    (z_max : PySem.W.nsIn K mainGlobals "max" = some none)
    (z_abs : PySem.W.nsIn K mainGlobals "abs" = some none)
    (z_all : PySem.W.nsIn K mainGlobals "all" = some none)
    (z_any : PySem.W.nsIn K mainGlobals "any" = some none)
    (z_sorted : PySem.W.nsIn K mainGlobals "sorted" = some none)
    : ∃ fd : FuncData, (∀ (s : Shared) (v : Value), BindsTo s fd ⟨[v], []⟩ [("_law_script", v)]) ∧ ∀ base : Heap, K.In base → base.Ns mainGlobals mg → FnOk l.prog w K mg base CX0 9 fa fd ["_law_script"] (sp_law K) := by
  have e := hfa.symm.trans (PySem.W.mg_of X G ad39)
  cases e
  have T : Txt K mg aP := ⟨PySem.W.mg_none_of X G z_isinstance, PySem.W.mg_none_of X G z_int, PySem.W.mg_none_of X G z_bool, PySem.W.mg_none_of X G z_tuple, PySem.W.mg_none_of X G z_list, PySem.W.mg_none_of X G z_len, PySem.W.mg_none_of X G z_range, PySem.W.mg_none_of X G z_zip, PySem.W.mg_none_of X G z_enumerate, PySem.W.mg_none_of X G z_max, PySem.W.mg_none_of X G z_abs, PySem.W.mg_none_of X G z_all, PySem.W.mg_none_of X G z_any, PySem.W.mg_none_of X G z_sorted, PySem.W.mg_of X G gP, fun H => .inr ⟨_, _, _, lP, rfl, rfl, sz_of (by show 6 ≤ 100000; decide), .cons ⟨_, rfl⟩ (.cons ⟨_, rfl⟩ (.cons ⟨_, rfl⟩ (.cons ⟨_, rfl⟩ (.cons ⟨_, rfl⟩ (.cons ⟨_, rfl⟩ .nil)))))⟩⟩
  have B : Tab K C := ⟨⟨pg, hd, po, sa⟩, n_prime, n_wide, n_rows, n_high⟩
  have Fd0 := fun_mk (st := st_is_integer) ld0 cd0 kd0
  have Fd1 := fun_mk (st := st_is_within) ld1 cd1 kd1
  have Fd2 := fun_mk (st := st_is_number) ld2 cd2 kd2
  have Fd3 := fun_mk (st := st_is_prime) ld3 cd3 kd3
  have Fd4 := fun_mk (st := st_check_prime) ld4 cd4 kd4
  have Fd5 := fun_mk (st := st_inverse_of) ld5 cd5 kd5
  have Fd6 := fun_mk (st := st_columns_table) ld6 cd6 kd6
  have Fd7 := fun_mk (st := st_less) ld7 cd7 kd7
  have Fd8 := fun_mk (st := st_cleared) ld8 cd8 kd8
  have Fd9 := fun_mk (st := st_reduced_rows) ld9 cd9 kd9
  have Fd10 := fun_mk (st := st_kernel) ld10 cd10 kd10
  have Fd11 := fun_mk (st := st_is_polynomial) ld11 cd11 kd11
  have Fd12 := fun_mk (st := st_check_polynomial) ld12 cd12 kd12
  have Fd13 := fun_mk (st := st_trimmed) ld13 cd13 kd13
  have Fd14 := fun_mk (st := st_raw_product) ld14 cd14 kd14
  have Fd15 := fun_mk (st := st_product) ld15 cd15 kd15
  have Fd16 := fun_mk (st := st_monic) ld16 cd16 kd16
  have Fd17 := fun_mk (st := st_divided) ld17 cd17 kd17
  have Fd18 := fun_mk (st := st_common) ld18 cd18 kd18
  have Fd19 := fun_mk (st := st_slope) ld19 cd19 kd19
  have Fd20 := fun_mk (st := st_minus) ld20 cd20 kd20
  have Fd21 := fun_mk (st := st_power_rests) ld21 cd21 kd21
  have Fd22 := fun_mk (st := st_still_polys) ld22 cd22 kd22
  have Fd23 := fun_mk (st := st_simple_factors) ld23 cd23 kd23
  have Fd24 := fun_mk (st := st_times_in) ld24 cd24 kd24
  have Fd25 := fun_mk (st := st_raw_factors) ld25 cd25 kd25
  have Fd26 := fun_mk (st := st_factors) ld26 cd26 kd26
  have Fd27 := fun_mk (st := st_law_pot) ld27 cd27 kd27
  have Fd28 := fun_mk (st := st_law_draw) ld28 cd28 kd28
  have Fd29 := fun_mk (st := st_law_any) ld29 cd29 kd29
  have Fd30 := fun_mk (st := st_law_cut) ld30 cd30 kd30
  have Fd31 := fun_mk (st := st_law_product) ld31 cd31 kd31
  have Fd32 := fun_mk (st := st_law_left) ld32 cd32 kd32
  have Fd33 := fun_mk (st := st_law_monics) ld33 cd33 kd33
  have Fd34 := fun_mk (st := st_law_is_prime) ld34 cd34 kd34
  have Fd35 := fun_mk (st := st_law_poly) ld35 cd35 kd35
  have Fd36 := fun_mk (st := st_law_is_poly) ld36 cd36 kd36
  have Fd37 := fun_mk (st := st_law_told_right) ld37 cd37 kd37
  have Fd38 := fun_mk (st := st_law_together) ld38 cd38 kd38
  have Fd39 := fun_mk (st := st_law) ld39 cd39 kd39
  have FmI := fun_mk (st := st_init) lmI cmI kmI
  have FmK := fun_mk (st := st_keep) lmK cmK kmK
  have bd0 := Fd0.binds (ps := ["thing"]) fun _ _ _ _ _ _ us hl => match us, hl with | [_], _ => rfl
  have bd1 := Fd1.binds (ps := ["thing", "least", "most"]) fun _ _ _ _ _ _ us hl => match us, hl with | [_, _, _], _ => rfl
  have bd2 := Fd2.binds (ps := ["thing", "most"]) fun _ _ _ _ _ _ us hl => match us, hl with | [_, _], _ => rfl
  have bd3 := Fd3.binds (ps := ["thing"]) fun _ _ _ _ _ _ us hl => match us, hl with | [_], _ => rfl
  have bd4 := Fd4.binds (ps := ["thing"]) fun _ _ _ _ _ _ us hl => match us, hl with | [_], _ => rfl
  have bd5 := Fd5.binds (ps := ["prime", "worth"]) fun _ _ _ _ _ _ us hl => match us, hl with | [_, _], _ => rfl
  have bd6 := Fd6.binds (ps := ["prime", "high", "columns"]) fun _ _ _ _ _ _ us hl => match us, hl with | [_, _, _], _ => rfl
  have bd7 := Fd7.binds (ps := ["prime", "row", "by", "other"]) fun _ _ _ _ _ _ us hl => match us, hl with | [_, _, _, _], _ => rfl
  have bd8 := Fd8.binds (ps := ["prime", "rows", "place", "row"]) fun _ _ _ _ _ _ us hl => match us, hl with | [_, _, _, _], _ => rfl
  have bd9 := Fd9.binds (ps := ["prime", "wide", "rows"]) fun _ _ _ _ _ _ us hl => match us, hl with | [_, _, _], _ => rfl
  have bd10 := Fd10.binds (ps := ["table"]) fun _ _ _ _ _ _ us hl => match us, hl with | [_], _ => rfl
  have bd11 := Fd11.binds (ps := ["prime", "thing"]) fun _ _ _ _ _ _ us hl => match us, hl with | [_, _], _ => rfl
  have bd12 := Fd12.binds (ps := ["prime", "thing"]) fun _ _ _ _ _ _ us hl => match us, hl with | [_, _], _ => rfl
  have bd13 := Fd13.binds (ps := ["worths"]) fun _ _ _ _ _ _ us hl => match us, hl with | [_], _ => rfl
  have bd14 := Fd14.binds (ps := ["prime", "one", "other"]) fun _ _ _ _ _ _ us hl => match us, hl with | [_, _, _], _ => rfl
  have bd15 := Fd15.binds (ps := ["prime", "one", "other"]) fun _ _ _ _ _ _ us hl => match us, hl with | [_, _, _], _ => rfl
  have bd16 := Fd16.binds (ps := ["prime", "poly"]) fun _ _ _ _ _ _ us hl => match us, hl with | [_, _], _ => rfl
  have bd17 := Fd17.binds (ps := ["prime", "one", "other"]) fun _ _ _ _ _ _ us hl => match us, hl with | [_, _, _], _ => rfl
  have bd18 := Fd18.binds (ps := ["prime", "one", "other"]) fun _ _ _ _ _ _ us hl => match us, hl with | [_, _, _], _ => rfl
  have bd19 := Fd19.binds (ps := ["prime", "poly"]) fun _ _ _ _ _ _ us hl => match us, hl with | [_, _], _ => rfl
  have bd20 := Fd20.binds (ps := ["prime", "one", "other"]) fun _ _ _ _ _ _ us hl => match us, hl with | [_, _, _], _ => rfl
  have bd21 := Fd21.binds (ps := ["prime", "poly"]) fun _ _ _ _ _ _ us hl => match us, hl with | [_, _], _ => rfl
  have bd22 := Fd22.binds (ps := ["prime", "poly"]) fun _ _ _ _ _ _ us hl => match us, hl with | [_, _], _ => rfl
  have bd23 := Fd23.binds (ps := ["prime", "poly"]) fun _ _ _ _ _ _ us hl => match us, hl with | [_, _], _ => rfl
  have bd24 := Fd24.binds (ps := ["prime", "poly", "factor"]) fun _ _ _ _ _ _ us hl => match us, hl with | [_, _, _], _ => rfl
  have bd25 := Fd25.binds (ps := ["prime", "poly"]) fun _ _ _ _ _ _ us hl => match us, hl with | [_, _], _ => rfl
  have bd26 := Fd26.binds (ps := ["prime", "poly"]) fun _ _ _ _ _ _ us hl => match us, hl with | [_, _], _ => rfl
  have bd27 := Fd27.binds (ps := ["_law_script"]) fun _ _ _ _ _ _ us hl => match us, hl with | [_], _ => rfl
  have bd28 := Fd28.binds (ps := ["_law_pot_here", "_law_many"]) fun _ _ _ _ _ _ us hl => match us, hl with | [_, _], _ => rfl
  have bd29 := Fd29.binds (ps := ["_law_pot_here", "_law_things"]) fun _ _ _ _ _ _ us hl => match us, hl with | [_, _], _ => rfl
  have bd30 := Fd30.binds (ps := ["_law_worths"]) fun _ _ _ _ _ _ us hl => match us, hl with | [_], _ => rfl
  have bd31 := Fd31.binds (ps := ["_law_prime", "_law_one", "_law_other"]) fun _ _ _ _ _ _ us hl => match us, hl with | [_, _, _], _ => rfl
  have bd32 := Fd32.binds (ps := ["_law_prime", "_law_poly_here", "_law_by"]) fun _ _ _ _ _ _ us hl => match us, hl with | [_, _, _], _ => rfl
  have bd33 := Fd33.binds (ps := ["_law_prime", "_law_degree"]) fun _ _ _ _ _ _ us hl => match us, hl with | [_, _], _ => rfl
  have bd34 := Fd34.binds (ps := ["_law_prime", "_law_poly_here"]) fun _ _ _ _ _ _ us hl => match us, hl with | [_, _], _ => rfl
  have bd35 := Fd35.binds (ps := ["_law_pot_here", "_law_prime", "_law_most"]) fun _ _ _ _ _ _ us hl => match us, hl with | [_, _, _], _ => rfl
  have bd36 := Fd36.binds (ps := ["_law_told", "_law_prime"]) fun _ _ _ _ _ _ us hl => match us, hl with | [_, _], _ => rfl
  have bd37 := Fd37.binds (ps := ["_law_prime", "_law_poly_here", "_law_told"]) fun _ _ _ _ _ _ us hl => match us, hl with | [_, _, _], _ => rfl
  have bd38 := Fd38.binds (ps := ["_law_told", "_law_more"]) fun _ _ _ _ _ _ us hl => match us, hl with | [_, _], _ => rfl
  have bmI := FmI.binds (ps := ["self", "prime", "wide", "rows"]) fun _ _ _ _ _ _ us hl => match us, hl with | [_, _, _, _], _ => rfl
  have bmK := FmK.binds (ps := ["self", "prime", "wide", "rows"]) fun _ _ _ _ _ _ us hl => match us, hl with | [_, _, _, _], _ => rfl
  refine ⟨PySem.W.fnOf "law" "law" (defArgs st_law) (defBody st_law) (defScope st_law) .none kVd39 dcd39 pmd39 and39 cdd39 ctd39, fun s v => .of_eq rfl, fun base _ _ => ?_⟩
  have GK : FnOk l.prog w K mg base CX0 1 fmK _ ["self", "prime", "wide", "rows"] (sp_keep C) := ok_keep FmK T B
  have GI : FnOk l.prog w K mg base CX0 2 fmI _ ["self", "prime", "wide", "rows"] (sp_keep C) := ok_init FmI B ⟨amK, imK, kmK⟩ GK bmK
  have xd0 : Cal l.prog w K mg base "is_integer" 1 ["thing"] (sp_is_integer K) := ⟨⟨fd0, _, ok_is_integer Fd0 T, PySem.W.mg_of X G ad0, kd0, bd0⟩⟩
  have xd1 : Cal l.prog w K mg base "is_within" 2 ["thing", "least", "most"] (sp_is_within K) := ⟨⟨fd1, _, ok_is_within Fd1 T xd0, PySem.W.mg_of X G ad1, kd1, bd1⟩⟩
  have xd2 : Cal l.prog w K mg base "is_number" 3 ["thing", "most"] (sp_is_number K) := ⟨⟨fd2, _, ok_is_number Fd2 T xd1, PySem.W.mg_of X G ad2, kd2, bd2⟩⟩
  have xd3 : Cal l.prog w K mg base "is_prime" 2 ["thing"] (sp_is_prime K) := ⟨⟨fd3, _, ok_is_prime Fd3 T xd0, PySem.W.mg_of X G ad3, kd3, bd3⟩⟩
  have xd4 : Cal l.prog w K mg base "check_prime" 3 ["thing"] (sp_check_prime K) := ⟨⟨fd4, _, ok_check_prime Fd4 T xd3, PySem.W.mg_of X G ad4, kd4, bd4⟩⟩
  have xd5 : Cal l.prog w K mg base "inverse_of" 1 ["prime", "worth"] (sp_inverse_of K) := ⟨⟨fd5, _, ok_inverse_of Fd5 T, PySem.W.mg_of X G ad5, kd5, bd5⟩⟩
  have xd6 : Cal l.prog w K mg base "columns_table" 4 ["prime", "high", "columns"] (sp_columns_table K) := ⟨⟨fd6, _, ok_columns_table Fd6 T B ⟨mk, amI, imI, kc⟩ GI bmI (PySem.W.mg_of X G aC), PySem.W.mg_of X G ad6, kd6, bd6⟩⟩
  have xd7 : Cal l.prog w K mg base "less" 1 ["prime", "row", "by", "other"] (sp_less K) := ⟨⟨fd7, _, ok_less Fd7 T, PySem.W.mg_of X G ad7, kd7, bd7⟩⟩
  have xd8 : Cal l.prog w K mg base "cleared" 2 ["prime", "rows", "place", "row"] (sp_cleared K) := ⟨⟨fd8, _, ok_cleared Fd8 T xd7, PySem.W.mg_of X G ad8, kd8, bd8⟩⟩
  have xd9 : Cal l.prog w K mg base "reduced_rows" 3 ["prime", "wide", "rows"] (sp_reduced_rows K) := ⟨⟨fd9, _, ok_reduced_rows Fd9 T xd8 xd5, PySem.W.mg_of X G ad9, kd9, bd9⟩⟩
  have xd10 : Cal l.prog w K mg base "kernel" 4 ["table"] (sp_kernel K) := ⟨⟨fd10, _, ok_kernel Fd10 T xd9, PySem.W.mg_of X G ad10, kd10, bd10⟩⟩
  have xd11 : Cal l.prog w K mg base "is_polynomial" 4 ["prime", "thing"] (sp_is_polynomial K) := ⟨⟨fd11, _, ok_is_polynomial Fd11 T xd2, PySem.W.mg_of X G ad11, kd11, bd11⟩⟩
  have xd12 : Cal l.prog w K mg base "check_polynomial" 5 ["prime", "thing"] (sp_check_polynomial K) := ⟨⟨fd12, _, ok_check_polynomial Fd12 T xd11, PySem.W.mg_of X G ad12, kd12, bd12⟩⟩
  have xd13 : Cal l.prog w K mg base "trimmed" 1 ["worths"] (sp_trimmed K) := ⟨⟨fd13, _, ok_trimmed Fd13 T, PySem.W.mg_of X G ad13, kd13, bd13⟩⟩
  have xd14 : Cal l.prog w K mg base "raw_product" 2 ["prime", "one", "other"] (sp_raw_product K) := ⟨⟨fd14, _, ok_raw_product Fd14 T xd13, PySem.W.mg_of X G ad14, kd14, bd14⟩⟩
  have xd15 : Cal l.prog w K mg base "product" 6 ["prime", "one", "other"] (sp_product K) := ⟨⟨fd15, _, ok_product Fd15 T xd14 xd12 xd4, PySem.W.mg_of X G ad15, kd15, bd15⟩⟩
  have xd16 : Cal l.prog w K mg base "monic" 2 ["prime", "poly"] (sp_monic K) := ⟨⟨fd16, _, ok_monic Fd16 T xd5, PySem.W.mg_of X G ad16, kd16, bd16⟩⟩
  have xd17 : Cal l.prog w K mg base "divided" 2 ["prime", "one", "other"] (sp_divided K) := ⟨⟨fd17, _, ok_divided Fd17 T xd13 xd5, PySem.W.mg_of X G ad17, kd17, bd17⟩⟩
  have xd18 : Cal l.prog w K mg base "common" 3 ["prime", "one", "other"] (sp_common K) := ⟨⟨fd18, _, ok_common Fd18 T xd16 xd17, PySem.W.mg_of X G ad18, kd18, bd18⟩⟩
  have xd19 : Cal l.prog w K mg base "slope" 2 ["prime", "poly"] (sp_slope K) := ⟨⟨fd19, _, ok_slope Fd19 T xd13, PySem.W.mg_of X G ad19, kd19, bd19⟩⟩
  have xd20 : Cal l.prog w K mg base "minus" 2 ["prime", "one", "other"] (sp_minus K) := ⟨⟨fd20, _, ok_minus Fd20 T xd13, PySem.W.mg_of X G ad20, kd20, bd20⟩⟩
  have xd21 : Cal l.prog w K mg base "power_rests" 3 ["prime", "poly"] (sp_power_rests K) := ⟨⟨fd21, _, ok_power_rests Fd21 T xd17 xd14, PySem.W.mg_of X G ad21, kd21, bd21⟩⟩
  have xd22 : Cal l.prog w K mg base "still_polys" 5 ["prime", "poly"] (sp_still_polys K) := ⟨⟨fd22, _, ok_still_polys Fd22 T xd10 xd6 xd13 xd21, PySem.W.mg_of X G ad22, kd22, bd22⟩⟩
  have xd23 : Cal l.prog w K mg base "simple_factors" 6 ["prime", "poly"] (sp_simple_factors K) := ⟨⟨fd23, _, ok_simple_factors Fd23 T xd18 xd20 xd13 xd22, PySem.W.mg_of X G ad23, kd23, bd23⟩⟩
  have xd24 : Cal l.prog w K mg base "times_in" 3 ["prime", "poly", "factor"] (sp_times_in K) := ⟨⟨fd24, _, ok_times_in Fd24 T xd17, PySem.W.mg_of X G ad24, kd24, bd24⟩⟩
  have xd25 : Cal l.prog w K mg base "raw_factors" 7 ["prime", "poly"] (sp_raw_factors K) := ⟨⟨fd25, _, ok_raw_factors Fd25 T xd23 xd24 xd17 xd18 xd19 xd16, PySem.W.mg_of X G ad25, kd25, bd25⟩⟩
  have xd26 : Cal l.prog w K mg base "factors" 8 ["prime", "poly"] (sp_factors K) := ⟨⟨fd26, _, ok_factors Fd26 T xd25 xd12 xd4, PySem.W.mg_of X G ad26, kd26, bd26⟩⟩
  have xd27 : Cal l.prog w K mg base "_law_pot" 1 ["_law_script"] (sp_law_pot K) := ⟨⟨fd27, _, ok_law_pot Fd27 T, PySem.W.mg_of X G ad27, kd27, bd27⟩⟩
  have xd28 : Cal l.prog w K mg base "_law_draw" 1 ["_law_pot_here", "_law_many"] (sp_law_draw K) := ⟨⟨fd28, _, ok_law_draw Fd28 T, PySem.W.mg_of X G ad28, kd28, bd28⟩⟩
  have xd29 : Cal l.prog w K mg base "_law_any" 2 ["_law_pot_here", "_law_things"] (sp_law_any K) := ⟨⟨fd29, _, ok_law_any Fd29 T xd28, PySem.W.mg_of X G ad29, kd29, bd29⟩⟩
  have xd30 : Cal l.prog w K mg base "_law_cut" 1 ["_law_worths"] (sp_law_cut K) := ⟨⟨fd30, _, ok_law_cut Fd30 T, PySem.W.mg_of X G ad30, kd30, bd30⟩⟩
  have xd31 : Cal l.prog w K mg base "_law_product" 2 ["_law_prime", "_law_one", "_law_other"] (sp_law_product K) := ⟨⟨fd31, _, ok_law_product Fd31 T xd30, PySem.W.mg_of X G ad31, kd31, bd31⟩⟩
  have xd32 : Cal l.prog w K mg base "_law_left" 2 ["_law_prime", "_law_poly_here", "_law_by"] (sp_law_left K) := ⟨⟨fd32, _, ok_law_left Fd32 T xd30, PySem.W.mg_of X G ad32, kd32, bd32⟩⟩
  have xd33 : Cal l.prog w K mg base "_law_monics" 1 ["_law_prime", "_law_degree"] (sp_law_monics K) := ⟨⟨fd33, _, ok_law_monics Fd33 T, PySem.W.mg_of X G ad33, kd33, bd33⟩⟩
  have xd34 : Cal l.prog w K mg base "_law_is_prime" 3 ["_law_prime", "_law_poly_here"] (sp_law_is_prime K) := ⟨⟨fd34, _, ok_law_is_prime Fd34 T xd33 xd32, PySem.W.mg_of X G ad34, kd34, bd34⟩⟩
  have xd35 : Cal l.prog w K mg base "_law_poly" 2 ["_law_pot_here", "_law_prime", "_law_most"] (sp_law_poly K) := ⟨⟨fd35, _, ok_law_poly Fd35 T xd28, PySem.W.mg_of X G ad35, kd35, bd35⟩⟩
  have xd36 : Cal l.prog w K mg base "_law_is_poly" 2 ["_law_told", "_law_prime"] (sp_law_is_poly K) := ⟨⟨fd36, _, ok_law_is_poly Fd36 T xd30, PySem.W.mg_of X G ad36, kd36, bd36⟩⟩
  have xd37 : Cal l.prog w K mg base "_law_told_right" 4 ["_law_prime", "_law_poly_here", "_law_told"] (sp_law_told_right K) := ⟨⟨fd37, _, ok_law_told_right Fd37 T xd31 xd34 xd36, PySem.W.mg_of X G ad37, kd37, bd37⟩⟩
  have xd38 : Cal l.prog w K mg base "_law_together" 1 ["_law_told", "_law_more"] (sp_law_together K) := ⟨⟨fd38, _, ok_law_together Fd38 T, PySem.W.mg_of X G ad38, kd38, bd38⟩⟩
  exact ok_law Fd39 T xd26 xd31 xd38 xd37 xd15 xd36 xd28 xd35 xd29 xd27
theorem walk {l : PySem.W.OpenLaw} {q : Program} {loose : List Str} {XP : (Str → Option Value) → Heap → Prop} {YP : World → Heap → Prop} {d : DefRec} {K : Params → PySem.W.Frag} (hn : l.most = some 63) (hdf : d.params.defaults = [])
    (hY : ∀ (w : World) (h : Heap), YP w h → (K w.params).In h)
    (F : ∀ (w : World) (mg : Str → Option Value) (fa : Addr) (h : Heap), (K w.params).In h → h.Ns mainGlobals mg → mg d.name = some (.ref fa) →
      ∃ fd : FuncData, (∀ (s : Shared) (u : Value), BindsTo s fd ⟨[u], []⟩ [("_law_script", u)]) ∧ ∀ base : Heap, (K w.params).In base → base.Ns mainGlobals mg → FnOk l.prog w (K w.params) mg base CX0 9 fa fd ["_law_script"] (sp_law (K w.params))) :
    PySem.W.WalkO q loose XP YP l.row.toRowW d [] (fun f vs => PySem.call f vs) :=
  L2.walk_of (n := 63) (k := 9) (x := "_law_script") (CX := fun _ => CX0) (sp := fun w => sp_law (K w.params)) hn (by decide) hdf ⟨rfl, by decide, by decide⟩ hY F (fun _ _ a ns hl _ hS => ⟨a, ns, rfl, hS, hl, fun _ => rfl⟩) fun _ _ _ _ _ z => z
end Wk

end
open PySem PySem.W PyProof.Rows in
set_option maxRecDepth 100000 in
set_option maxHeartbeats 0 in
theorem PySem.Challenge.cw_mapwebs_k06_whole_polynomials_and_factor_holds : PySem.Challenge.rw_mapwebs_k06_whole_polynomials_and_factor.Holds := by
  w_on; o_law; k_head; (case hw => w_witness2)
  k_fill
  refine Wk.walk (l := PySem.Challenge.rw_mapwebs_k06_whole_polynomials_and_factor) rfl rfl (fun w h Y => PySem.W.kIn_of Y) ?F
  case F =>
    intro w mg fa h KX G hmg
    refine' Wk.all_mk KX G hmg ?aC ?ad0 ?ad1 ?ad2 ?ad3 ?ad4 ?ad5 ?ad6 ?ad7 ?ad8 ?ad9 ?ad10 ?ad11 ?ad12 ?ad13 ?ad14 ?ad15 ?ad16 ?ad17 ?ad18 ?ad19 ?ad20 ?ad21 ?ad22 ?ad23 ?ad24 ?ad25 ?ad26 ?ad27 ?ad28 ?ad29 ?ad30 ?ad31 ?ad32 ?ad33 ?ad34 ?ad35 ?ad36 ?ad37 ?ad38 ?ad39 ?amI ?imI ?amK ?imK ?ld0 ?cd0 ?kd0 ?ld1 ?cd1 ?kd1 ?ld2 ?cd2 ?kd2 ?ld3 ?cd3 ?kd3 ?ld4 ?cd4 ?kd4 ?ld5 ?cd5 ?kd5 ?ld6 ?cd6 ?kd6 ?ld7 ?cd7 ?kd7 ?ld8 ?cd8 ?kd8 ?ld9 ?cd9 ?kd9 ?ld10 ?cd10 ?kd10 ?ld11 ?cd11 ?kd11 ?ld12 ?cd12 ?kd12 ?ld13 ?cd13 ?kd13 ?ld14 ?cd14 ?kd14 ?ld15 ?cd15 ?kd15 ?ld16 ?cd16 ?kd16 ?ld17 ?cd17 ?kd17 ?ld18 ?cd18 ?kd18 ?ld19 ?cd19 ?kd19 ?ld20 ?cd20 ?kd20 ?ld21 ?cd21 ?kd21 ?ld22 ?cd22 ?kd22 ?ld23 ?cd23 ?kd23 ?ld24 ?cd24 ?kd24 ?ld25 ?cd25 ?kd25 ?ld26 ?cd26 ?kd26 ?ld27 ?cd27 ?kd27 ?ld28 ?cd28 ?kd28 ?ld29 ?cd29 ?kd29 ?ld30 ?cd30 ?kd30 ?ld31 ?cd31 ?kd31 ?ld32 ?cd32 ?kd32 ?ld33 ?cd33 ?kd33 ?ld34 ?cd34 ?kd34 ?ld35 ?cd35 ?kd35 ?ld36 ?cd36 ?kd36 ?ld37 ?cd37 ?kd37 ?ld38 ?cd38 ?kd38 ?ld39 ?cd39 ?kd39 ?lmI ?cmI ?kmI ?lmK ?cmK ?kmK ?pg ?hd ?po ?sa ?mk ?kc ?n_prime ?n_wide ?n_rows ?n_high ?gP ?lP ?z_isinstance ?z_int ?z_bool ?z_tuple ?z_list ?z_len ?z_range ?z_zip ?z_enumerate ?z_max ?z_abs ?z_all ?z_any ?z_sorted
    (case aC => k_is)
    (case ad0 => k_is)
    (case ad1 => k_is)
    (case ad2 => k_is)
    (case ad3 => k_is)
    (case ad4 => k_is)
    (case ad5 => k_is)
    (case ad6 => k_is)
    (case ad7 => k_is)
    (case ad8 => k_is)
    (case ad9 => k_is)
    (case ad10 => k_is)
    (case ad11 => k_is)
    (case ad12 => k_is)
    (case ad13 => k_is)
    (case ad14 => k_is)
    (case ad15 => k_is)
    (case ad16 => k_is)
    (case ad17 => k_is)
    (case ad18 => k_is)
    (case ad19 => k_is)
    (case ad20 => k_is)
    (case ad21 => k_is)
    (case ad22 => k_is)
    (case ad23 => k_is)
    (case ad24 => k_is)
    (case ad25 => k_is)
    (case ad26 => k_is)
    (case ad27 => k_is)
    (case ad28 => k_is)
    (case ad29 => k_is)
    (case ad30 => k_is)
    (case ad31 => k_is)
    (case ad32 => k_is)
    (case ad33 => k_is)
    (case ad34 => k_is)
    (case ad35 => k_is)
    (case ad36 => k_is)
    (case ad37 => k_is)
    (case ad38 => k_is)
    (case ad39 => k_is)
    (case amI => k_is)
    (case imI => k_is)
    (case amK => k_is)
    (case imK => k_is)
    (case ld0 => k_is)
    (case cd0 => k_is)
    (case kd0 => k_is)
    (case ld1 => k_is)
    (case cd1 => k_is)
    (case kd1 => k_is)
    (case ld2 => k_is)
    (case cd2 => k_is)
    (case kd2 => k_is)
    (case ld3 => k_is)
    (case cd3 => k_is)
    (case kd3 => k_is)
    (case ld4 => k_is)
    (case cd4 => k_is)
    (case kd4 => k_is)
    (case ld5 => k_is)
    (case cd5 => k_is)
    (case kd5 => k_is)
    (case ld6 => k_is)
    (case cd6 => k_is)
    (case kd6 => k_is)
    (case ld7 => k_is)
    (case cd7 => k_is)
    (case kd7 => k_is)
    (case ld8 => k_is)
    (case cd8 => k_is)
    (case kd8 => k_is)
    (case ld9 => k_is)
    (case cd9 => k_is)
    (case kd9 => k_is)
    (case ld10 => k_is)
    (case cd10 => k_is)
    (case kd10 => k_is)
    (case ld11 => k_is)
    (case cd11 => k_is)
    (case kd11 => k_is)
    (case ld12 => k_is)
    (case cd12 => k_is)
    (case kd12 => k_is)
    (case ld13 => k_is)
    (case cd13 => k_is)
    (case kd13 => k_is)
    (case ld14 => k_is)
    (case cd14 => k_is)
    (case kd14 => k_is)
    (case ld15 => k_is)
    (case cd15 => k_is)
    (case kd15 => k_is)
    (case ld16 => k_is)
    (case cd16 => k_is)
    (case kd16 => k_is)
    (case ld17 => k_is)
    (case cd17 => k_is)
    (case kd17 => k_is)
    (case ld18 => k_is)
    (case cd18 => k_is)
    (case kd18 => k_is)
    (case ld19 => k_is)
    (case cd19 => k_is)
    (case kd19 => k_is)
    (case ld20 => k_is)
    (case cd20 => k_is)
    (case kd20 => k_is)
    (case ld21 => k_is)
    (case cd21 => k_is)
    (case kd21 => k_is)
    (case ld22 => k_is)
    (case cd22 => k_is)
    (case kd22 => k_is)
    (case ld23 => k_is)
    (case cd23 => k_is)
    (case kd23 => k_is)
    (case ld24 => k_is)
    (case cd24 => k_is)
    (case kd24 => k_is)
    (case ld25 => k_is)
    (case cd25 => k_is)
    (case kd25 => k_is)
    (case ld26 => k_is)
    (case cd26 => k_is)
    (case kd26 => k_is)
    (case ld27 => k_is)
    (case cd27 => k_is)
    (case kd27 => k_is)
    (case ld28 => k_is)
    (case cd28 => k_is)
    (case kd28 => k_is)
    (case ld29 => k_is)
    (case cd29 => k_is)
    (case kd29 => k_is)
    (case ld30 => k_is)
    (case cd30 => k_is)
    (case kd30 => k_is)
    (case ld31 => k_is)
    (case cd31 => k_is)
    (case kd31 => k_is)
    (case ld32 => k_is)
    (case cd32 => k_is)
    (case kd32 => k_is)
    (case ld33 => k_is)
    (case cd33 => k_is)
    (case kd33 => k_is)
    (case ld34 => k_is)
    (case cd34 => k_is)
    (case kd34 => k_is)
    (case ld35 => k_is)
    (case cd35 => k_is)
    (case kd35 => k_is)
    (case ld36 => k_is)
    (case cd36 => k_is)
    (case kd36 => k_is)
    (case ld37 => k_is)
    (case cd37 => k_is)
    (case kd37 => k_is)
    (case ld38 => k_is)
    (case cd38 => k_is)
    (case kd38 => k_is)
    (case ld39 => k_is)
    (case cd39 => k_is)
    (case kd39 => k_is)
    (case lmI => k_is)
    (case cmI => k_is)
    (case kmI => k_is)
    (case lmK => k_is)
    (case cmK => k_is)
    (case kmK => k_is)
    (case pg => k_is)
    (case hd => k_is)
    (case po => k_is)
    (case sa => k_is)
    (case mk => k_is)
    (case kc => k_is)
    (case n_prime => k_is)
    (case n_wide => k_is)
    (case n_rows => k_is)
    (case n_high => k_is)
    (case gP => k_is)
    (case lP => k_is)
    (case z_isinstance => k_is)
    (case z_int => k_is)
    (case z_bool => k_is)
    (case z_tuple => k_is)
    (case z_list => k_is)
    (case z_len => k_is)
    (case z_range => k_is)
    (case z_zip => k_is)
    (case z_enumerate => k_is)
    (case z_max => k_is)
    (case z_abs => k_is)
    (case z_all => k_is)
    (case z_any => k_is)
    (case z_sorted => k_is)

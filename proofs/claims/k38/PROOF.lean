import PyProof.Rows.All
import Wide.All
import OpenK.AllK
import Wide.FinOn
import HandS.ForMost
import HandS.Walk
import HandS.TupAny
import KE.GoesNew
import KE.DataMinMax
import KE.DataAny
import KE.SortData
import HandS.TupMul
import HandS.SortKw
import HandS.Words
import HandS.More
import HandS.Nested
import HandS.Defaults
import HandS.Dict
import KE.KStateDown
import Lean
import HandS.Base
import HandS.Call
import HandS.Ends
import HandS.WordsExc
import HandS.Head0
import HandS.Head1
import HandS.Head2
import HandS.HeadEnd
import HandS.HeadHook1
import HandS.HeadHook2
import HandS.HeadHook3
import HandS.HeadHook4
import HandS.HeadWalk
import PySem.Challenge.RW_digitroots_k38_whole_fulfilled
set_option Elab.async false
section
/-! Sums over ranges and power series over a commutative ring: the mathematics alone, core Lean. -/
set_option linter.all false
namespace Dg
open Lean.Grind

/-- f 0 + .. + f (n - 1) -/
def sumTo {R : Type} [CommRing R] (n : Nat) (f : Nat → R) : R := match n with
  | 0 => 0
  | n + 1 => sumTo n f + f n

section
variable {R : Type} [CommRing R]
theorem sumTo_zero (f : Nat → R) : sumTo 0 f = 0 := rfl
theorem sumTo_succ (n : Nat) (f : Nat → R) : sumTo (n + 1) f = sumTo n f + f n := rfl
theorem sumTo_congr : ∀ {n : Nat} {f g : Nat → R}, (∀ i, i < n → f i = g i) → sumTo n f = sumTo n g
  | 0, _, _, _ => rfl
  | n + 1, f, g, h => by
    rw [sumTo_succ, sumTo_succ, sumTo_congr fun i hi => h i (by omega), h n (by omega)]
theorem sumTo_none : ∀ {n : Nat} {f : Nat → R}, (∀ i, i < n → f i = 0) → sumTo n f = 0
  | 0, _, _ => rfl
  | n + 1, f, h => by
    rw [sumTo_succ, sumTo_none fun i hi => h i (by omega), h n (by omega)]
    grind
theorem sumTo_add (n : Nat) (f g : Nat → R) : sumTo n (fun i => f i + g i) = sumTo n f + sumTo n g := by
  induction n with
  | zero => simp only [sumTo_zero]; grind
  | succ n ih => simp only [sumTo_succ, ih]; grind
theorem sumTo_sub (n : Nat) (f g : Nat → R) : sumTo n (fun i => f i - g i) = sumTo n f - sumTo n g := by
  induction n with
  | zero => simp only [sumTo_zero]; grind
  | succ n ih => simp only [sumTo_succ, ih]; grind
theorem sumTo_neg (n : Nat) (f : Nat → R) : sumTo n (fun i => - f i) = - sumTo n f := by
  induction n with
  | zero => simp only [sumTo_zero]; grind
  | succ n ih => simp only [sumTo_succ, ih]; grind
theorem sumTo_mul (n : Nat) (a : R) (f : Nat → R) : sumTo n (fun i => a * f i) = a * sumTo n f := by
  induction n with
  | zero => simp only [sumTo_zero]; grind
  | succ n ih => simp only [sumTo_succ, ih]; grind
theorem sumTo_mulr (n : Nat) (a : R) (f : Nat → R) : sumTo n (fun i => f i * a) = sumTo n f * a := by
  induction n with
  | zero => simp only [sumTo_zero]; grind
  | succ n ih => simp only [sumTo_succ, ih]; grind
theorem sumTo_swap (n m : Nat) (f : Nat → Nat → R) : sumTo n (fun i => sumTo m (fun j => f i j)) = sumTo m (fun j => sumTo n (fun i => f i j)) := by
  induction n with
  | zero =>
    rw [sumTo_zero]
    exact (sumTo_none fun _ _ => rfl).symm
  | succ n ih => rw [sumTo_succ, ih, ← sumTo_add] <;> rfl
/-- the first one apart -/
theorem sumTo_head (n : Nat) (f : Nat → R) : sumTo (n + 1) f = f 0 + sumTo n (fun i => f (i + 1)) := by
  induction n with
  | zero => simp only [sumTo_succ, sumTo_zero]; grind
  | succ n ih => rw [sumTo_succ, ih, sumTo_succ]; grind
theorem sumTo_append (n m : Nat) (f : Nat → R) : sumTo (n + m) f = sumTo n f + sumTo m (fun i => f (n + i)) := by
  induction m with
  | zero => rw [sumTo_zero]; grind
  | succ m ih => rw [← Nat.add_assoc, sumTo_succ, ih, sumTo_succ]; grind
/-- one alone is not 0 -/
theorem sumTo_one {n : Nat} {f : Nat → R} {k : Nat} (hk : k < n) (h : ∀ i, i < n → i ≠ k → f i = 0) : sumTo n f = f k := by
  induction n with
  | zero => omega
  | succ n ih =>
    rw [sumTo_succ]
    by_cases e : k = n
    · subst e
      rw [sumTo_none fun i hi => h i (by omega) (by omega)]
      grind
    · rw [ih (by omega) (fun i hi ne => h i (by omega) ne), h n (by omega) (by omega)]
      grind
/-- longer, by noughts -/
theorem sumTo_more {n m : Nat} {f : Nat → R} (hm : n ≤ m) (h : ∀ i, n ≤ i → i < m → f i = 0) : sumTo m f = sumTo n f := by
  obtain ⟨k, rfl⟩ : ∃ k, m = n + k := ⟨m - n, by omega⟩
  rw [sumTo_append, sumTo_none (n := k) fun i hi => h (n + i) (by omega) (by omega)]
  grind
theorem sumTo_rev (n : Nat) (f : Nat → R) : sumTo n (fun i => f (n - 1 - i)) = sumTo n f := by
  induction n with
  | zero => rfl
  | succ n ih =>
    rw [sumTo_head, sumTo_succ, ← ih]
    have e : sumTo n (fun i => f (n + 1 - 1 - (i + 1))) = sumTo n (fun i => f (n - 1 - i)) := sumTo_congr fun i _ => by
      congr 1
      omega
    rw [e]
    simp only [Nat.add_sub_cancel, Nat.sub_zero]
    grind
/-- by rows of p -/
theorem sumTo_rows (p n : Nat) (f : Nat → R) : sumTo (p * n) f = sumTo n (fun j => sumTo p (fun s => f (p * j + s))) := by
  induction n with
  | zero => rfl
  | succ n ih => rw [Nat.mul_succ, sumTo_append, ih, sumTo_succ]
/-- a triangle summed both ways -/
theorem sumTo_tri (n : Nat) (f : Nat → Nat → R) : sumTo n (fun i => sumTo (i + 1) (fun j => f j (i - j))) = sumTo n (fun j => sumTo (n - j) (fun k => f j k)) := by
  induction n with
  | zero => rfl
  | succ n ih =>
    rw [sumTo_succ, ih]
    have e : sumTo (n + 1) (fun j => sumTo (n + 1 - j) (fun k => f j k)) = sumTo (n + 1) (fun j => sumTo (n - j) (fun k => f j k) + f j (n - j)) := sumTo_congr fun j hj => by
      rw [show n + 1 - j = (n - j) + 1 by omega, sumTo_succ]
    rw [e, sumTo_add, sumTo_succ n (fun j => sumTo (n - j) (fun k => f j k)), Nat.sub_self, sumTo_zero]
    grind
end

/-- a power series -/
structure Ser (R : Type) where
  at_ : Nat → R
section
variable {R : Type} [CommRing R]
theorem Ser.ext_at {a b : Ser R} (h : ∀ n, a.at_ n = b.at_ n) : a = b := by
  cases a with
  | mk f =>
    cases b with
    | mk g =>
      have e : f = g := funext h
      rw [e]
/-- a number as a series -/
def Ser.con (r : R) : Ser R := ⟨fun n => match n with
  | 0 => r
  | _ + 1 => 0⟩
def Ser.conv (a b : Ser R) : Ser R := ⟨fun n => sumTo (n + 1) (fun i => a.at_ i * b.at_ (n - i))⟩
def Ser.powN (a : Ser R) : Nat → Ser R
  | 0 => Ser.con 1
  | n + 1 => Ser.conv (Ser.powN a n) a
/-- Nat and Int in R -/
def nc (k : Nat) : R := @NatCast.natCast R Semiring.natCast k
def ic (k : Int) : R := @IntCast.intCast R Ring.intCast k
instance : Add (Ser R) := ⟨fun a b => ⟨fun n => a.at_ n + b.at_ n⟩⟩
instance : Mul (Ser R) := ⟨Ser.conv⟩
instance : Neg (Ser R) := ⟨fun a => ⟨fun n => - a.at_ n⟩⟩
instance : Sub (Ser R) := ⟨fun a b => ⟨fun n => a.at_ n - b.at_ n⟩⟩
instance serNatCast : NatCast (Ser R) := ⟨fun k => Ser.con (nc k)⟩
instance serOfNat (k : Nat) : OfNat (Ser R) k := ⟨Ser.con (OfNat.ofNat k)⟩
instance serIntCast : IntCast (Ser R) := ⟨fun k => Ser.con (ic k)⟩
instance : SMul Nat (Ser R) := ⟨fun k a => Ser.conv (Ser.con (nc k)) a⟩
instance : SMul Int (Ser R) := ⟨fun k a => Ser.conv (Ser.con (ic k)) a⟩
instance : HPow (Ser R) Nat (Ser R) := ⟨Ser.powN⟩
theorem Ser.add_at (a b : Ser R) (n : Nat) : (a + b).at_ n = a.at_ n + b.at_ n := rfl
theorem Ser.sub_at (a b : Ser R) (n : Nat) : (a - b).at_ n = a.at_ n - b.at_ n := rfl
theorem Ser.neg_at (a : Ser R) (n : Nat) : (-a).at_ n = - a.at_ n := rfl
theorem Ser.mul_at (a b : Ser R) (n : Nat) : (a * b).at_ n = sumTo (n + 1) (fun i => a.at_ i * b.at_ (n - i)) := rfl
theorem Ser.con_at_zero (r : R) : (Ser.con r).at_ 0 = r := rfl
theorem Ser.con_at_succ (r : R) (n : Nat) : (Ser.con r).at_ (n + 1) = 0 := rfl
theorem Ser.ofNat_eq (k : Nat) : (OfNat.ofNat k : Ser R) = Ser.con (OfNat.ofNat k) := rfl
theorem Ser.zero_at (n : Nat) : (0 : Ser R).at_ n = 0 := by
  cases n with
  | zero => rfl
  | succ n => rfl
theorem Ser.conv_comm (a b : Ser R) : Ser.conv a b = Ser.conv b a := Ser.ext_at fun n => by
  show sumTo (n + 1) (fun i => a.at_ i * b.at_ (n - i)) = sumTo (n + 1) (fun i => b.at_ i * a.at_ (n - i))
  rw [← sumTo_rev]
  refine sumTo_congr fun i hi => ?_
  rw [show n + 1 - 1 - i = n - i by omega, show n - (n - i) = i by omega]
  exact CommSemiring.mul_comm _ _
theorem Ser.con_conv (r : R) (a : Ser R) (n : Nat) : (Ser.conv (Ser.con r) a).at_ n = r * a.at_ n := by
  show sumTo (n + 1) (fun i => (Ser.con r).at_ i * a.at_ (n - i)) = _
  rw [sumTo_one (k := 0) (by omega) (fun i _ hi => ?_)]
  · rfl
  · obtain ⟨j, rfl⟩ : ∃ j, i = j + 1 := ⟨i - 1, by omega⟩
    rw [Ser.con_at_succ]
    grind
theorem Ser.conv_assoc (a b c : Ser R) : Ser.conv (Ser.conv a b) c = Ser.conv a (Ser.conv b c) := Ser.ext_at fun n => by
  show sumTo (n + 1) (fun i => sumTo (i + 1) (fun j => a.at_ j * b.at_ (i - j)) * c.at_ (n - i)) = sumTo (n + 1) (fun j => a.at_ j * sumTo (n - j + 1) (fun k => b.at_ k * c.at_ (n - j - k)))
  have e1 : sumTo (n + 1) (fun i => sumTo (i + 1) (fun j => a.at_ j * b.at_ (i - j)) * c.at_ (n - i)) = sumTo (n + 1) (fun i => sumTo (i + 1) (fun j => (fun j k => a.at_ j * (b.at_ k * c.at_ (n - j - k))) j (i - j))) := sumTo_congr fun i hi => by
    rw [← sumTo_mulr]
    refine sumTo_congr fun j hj => ?_
    show a.at_ j * b.at_ (i - j) * c.at_ (n - i) = a.at_ j * (b.at_ (i - j) * c.at_ (n - j - (i - j)))
    rw [show n - j - (i - j) = n - i by omega]
    exact Semiring.mul_assoc _ _ _
  rw [e1, sumTo_tri (n + 1) (fun j k => a.at_ j * (b.at_ k * c.at_ (n - j - k)))]
  refine sumTo_congr fun j hj => ?_
  rw [← sumTo_mul, show n + 1 - j = n - j + 1 by omega]
theorem Ser.conv_add (a b c : Ser R) : Ser.conv a (b + c) = Ser.conv a b + Ser.conv a c := Ser.ext_at fun n => by
  show sumTo (n + 1) (fun i => a.at_ i * (b.at_ (n - i) + c.at_ (n - i))) = sumTo (n + 1) (fun i => a.at_ i * b.at_ (n - i)) + sumTo (n + 1) (fun i => a.at_ i * c.at_ (n - i))
  rw [← sumTo_add]
  exact sumTo_congr fun i _ => Semiring.left_distrib _ _ _
instance : Semiring (Ser R) where
  add_zero a := Ser.ext_at fun n => by
    rw [Ser.add_at, Ser.zero_at]
    grind
  add_comm a b := Ser.ext_at fun n => Semiring.add_comm _ _
  add_assoc a b c := Ser.ext_at fun n => Semiring.add_assoc _ _ _
  mul_assoc a b c := Ser.conv_assoc a b c
  mul_one a := Ser.ext_at fun n => by
    show (Ser.conv a (Ser.con 1)).at_ n = _
    rw [Ser.conv_comm, Ser.con_conv]
    grind
  one_mul a := Ser.ext_at fun n => by
    show (Ser.conv (Ser.con 1) a).at_ n = _
    rw [Ser.con_conv]
    grind
  left_distrib a b c := Ser.conv_add a b c
  right_distrib a b c := by
    show Ser.conv (a + b) c = Ser.conv a c + Ser.conv b c
    rw [Ser.conv_comm, Ser.conv_add, Ser.conv_comm c a, Ser.conv_comm c b]
  zero_mul a := Ser.ext_at fun n => by
    show (Ser.conv (Ser.con 0) a).at_ n = _
    rw [Ser.con_conv, Ser.zero_at]
    grind
  mul_zero a := Ser.ext_at fun n => by
    show (Ser.conv a (Ser.con 0)).at_ n = _
    rw [Ser.conv_comm, Ser.con_conv, Ser.zero_at]
    grind
  pow_zero a := rfl
  pow_succ a n := rfl
  ofNat_succ k := Ser.ext_at fun n => by
    rw [Ser.add_at]
    cases n with
    | zero =>
      show (OfNat.ofNat (k + 1) : R) = OfNat.ofNat k + 1
      exact Semiring.ofNat_succ k
    | succ n =>
      show (0 : R) = 0 + 0
      grind
  ofNat_eq_natCast k := Ser.ext_at fun n => by
    cases n with
    | zero =>
      show (OfNat.ofNat k : R) = nc k
      exact Semiring.ofNat_eq_natCast k
    | succ n => rfl
  nsmul_eq_natCast_mul k a := rfl
instance : Ring (Ser R) where
  neg_add_cancel a := Ser.ext_at fun n => by
    rw [Ser.add_at, Ser.neg_at, Ser.zero_at]
    grind
  sub_eq_add_neg a b := Ser.ext_at fun n => Ring.sub_eq_add_neg _ _
  neg_zsmul i a := Ser.ext_at fun n => by
    show (Ser.conv (Ser.con (ic (-i))) a).at_ n = - (Ser.conv (Ser.con (ic i)) a).at_ n
    have e : (ic (-i) : R) = - ic i := Ring.intCast_neg i
    rw [Ser.con_conv, Ser.con_conv, e]
    grind
  zsmul_natCast_eq_nsmul k a := Ser.ext_at fun n => by
    show (Ser.conv (Ser.con (ic (k : Int))) a).at_ n = (Ser.conv (Ser.con (nc k)) a).at_ n
    have e : (ic (k : Int) : R) = nc k := Ring.intCast_natCast k
    rw [Ser.con_conv, Ser.con_conv, e]
  intCast_ofNat k := Ser.ext_at fun n => by
    cases n with
    | zero =>
      show (ic (OfNat.ofNat k) : R) = OfNat.ofNat k
      exact Ring.intCast_ofNat k
    | succ n => rfl
  intCast_neg i := Ser.ext_at fun n => by
    cases n with
    | zero =>
      show (ic (-i) : R) = - ic i
      exact Ring.intCast_neg i
    | succ n =>
      show (0 : R) = - 0
      grind
instance : CommRing (Ser R) where
  mul_comm a b := Ser.conv_comm a b
theorem Ser.con_mul_at (r : R) (a : Ser R) (n : Nat) : (Ser.con r * a).at_ n = r * a.at_ n := Ser.con_conv r a n
theorem Ser.sum_at (m : Nat) (f : Nat → Ser R) (n : Nat) : (sumTo m f).at_ n = sumTo m (fun i => (f i).at_ n) := by
  induction m with
  | zero => rw [sumTo_zero, sumTo_zero, Ser.zero_at]
  | succ m ih => rw [sumTo_succ, sumTo_succ, Ser.add_at, ih]
theorem Ser.con_zero : (Ser.con (0 : R)) = 0 := Ser.ext_at fun n => by
  rw [Ser.zero_at]
  cases n with
  | zero => rfl
  | succ n => rfl

/-! ### spreads and parts -/
/-- the spread: at p n what stands at n, 0 elsewhere -/
def spr (p : Nat) (f : Ser R) : Ser R := ⟨fun n => if n % p = 0 then f.at_ (n / p) else 0⟩
/-- the r-part -/
def sec (p r : Nat) (f : Ser R) : Ser R := ⟨fun n => f.at_ (p * n + r)⟩
theorem spr_add (p : Nat) (f g : Ser R) : spr p (f + g) = spr p f + spr p g := Ser.ext_at fun n => by
  rw [Ser.add_at]
  show (if n % p = 0 then (f + g).at_ (n / p) else 0) = (if n % p = 0 then f.at_ (n / p) else 0) + (if n % p = 0 then g.at_ (n / p) else 0)
  split
  · rfl
  · grind
theorem spr_zero (p : Nat) : spr p (0 : Ser R) = 0 := Ser.ext_at fun n => by
  rw [Ser.zero_at]
  show (if n % p = 0 then (0 : Ser R).at_ (n / p) else 0) = 0
  rw [Ser.zero_at]
  split <;> rfl
theorem spr_sum (p m : Nat) (f : Nat → Ser R) : spr p (sumTo m f) = sumTo m (fun i => spr p (f i)) := by
  induction m with
  | zero => exact spr_zero p
  | succ m ih => rw [sumTo_succ, sumTo_succ, spr_add, ih]
theorem sec_add (p r : Nat) (f g : Ser R) : sec p r (f + g) = sec p r f + sec p r g := rfl
theorem sec_sub (p r : Nat) (f g : Ser R) : sec p r (f - g) = sec p r f - sec p r g := rfl
theorem sec_zero (p r : Nat) : sec p r (0 : Ser R) = 0 := Ser.ext_at fun n => by
  rw [Ser.zero_at]
  exact Ser.zero_at _
theorem sec_sum (p r m : Nat) (f : Nat → Ser R) : sec p r (sumTo m f) = sumTo m (fun i => sec p r (f i)) := by
  induction m with
  | zero => exact sec_zero p r
  | succ m ih => rw [sumTo_succ, sumTo_succ, sec_add, ih]
/-- THE KEY: the r-part of a product with a spread -/
theorem sec_mul_spr {p r : Nat} (hr : r < p) (a g : Ser R) : sec p r (a * spr p g) = sec p r a * g := Ser.ext_at fun n => by
  have h0 : 0 < p := by omega
  show sumTo (p * n + r + 1) (fun i => a.at_ i * (spr p g).at_ (p * n + r - i)) = sumTo (n + 1) (fun j => a.at_ (p * j + r) * g.at_ (n - j))
  have e1 : sumTo (p * (n + 1)) (fun i => if i ≤ p * n + r then a.at_ i * (spr p g).at_ (p * n + r - i) else 0) = sumTo (p * n + r + 1) (fun i => a.at_ i * (spr p g).at_ (p * n + r - i)) := by
    rw [sumTo_more (n := p * n + r + 1) (by rw [Nat.mul_succ]; omega) (fun i hi _ => if_neg (by omega))]
    exact sumTo_congr fun i hi => if_pos (by omega)
  rw [← e1, sumTo_rows]
  refine sumTo_congr fun j hj => ?_
  have hjn : p * j ≤ p * n := Nat.mul_le_mul_left p (by omega)
  rw [sumTo_one hr (fun s hs hne => ?_)]
  · rw [if_pos (by omega)]
    congr 1
    have e2 : p * n + r - (p * j + r) = p * (n - j) := by
      rw [Nat.mul_sub]
      omega
    show (if (p * n + r - (p * j + r)) % p = 0 then g.at_ ((p * n + r - (p * j + r)) / p) else 0) = g.at_ (n - j)
    rw [e2, Nat.mul_mod_right, if_pos rfl, Nat.mul_div_cancel_left _ h0]
  · show (if p * j + s ≤ p * n + r then a.at_ (p * j + s) * (spr p g).at_ (p * n + r - (p * j + s)) else 0) = 0
    split
    · rename_i hle
      have e3 : (spr p g).at_ (p * n + r - (p * j + s)) = 0 := by
        show (if (p * n + r - (p * j + s)) % p = 0 then g.at_ ((p * n + r - (p * j + s)) / p) else 0) = 0
        rw [if_neg]
        intro hz
        obtain ⟨q, hq⟩ := Nat.dvd_of_mod_eq_zero hz
        have e4 : p * n + r = p * (j + q) + s := by
          rw [Nat.mul_add]
          omega
        have e5 : (p * n + r) % p = (p * (j + q) + s) % p := by rw [e4]
        rw [Nat.mul_add_mod, Nat.mul_add_mod, Nat.mod_eq_of_lt hr, Nat.mod_eq_of_lt hs] at e5
        exact hne e5.symm
      rw [e3]
      grind
    · rfl
theorem sec_spr_zero {p : Nat} (h : 0 < p) (g : Ser R) : sec p 0 (spr p g) = g := Ser.ext_at fun n => by
  show (if (p * n + 0) % p = 0 then g.at_ ((p * n + 0) / p) else 0) = g.at_ n
  rw [Nat.add_zero, Nat.mul_mod_right, if_pos rfl, Nat.mul_div_cancel_left _ h]
theorem sec_spr_other {p r : Nat} (hr : r < p) (h0 : 0 < r) (g : Ser R) : sec p r (spr p g) = 0 := Ser.ext_at fun n => by
  rw [Ser.zero_at]
  show (if (p * n + r) % p = 0 then g.at_ ((p * n + r) / p) else 0) = 0
  rw [Nat.mul_add_mod, Nat.mod_eq_of_lt hr, if_neg (by omega)]
/-- a series is told by its parts -/
theorem ser_by_sec {p : Nat} (h : 0 < p) {a b : Ser R} (e : ∀ r, r < p → sec p r a = sec p r b) : a = b := Ser.ext_at fun n => by
  have q := congrArg (fun z : Ser R => z.at_ (n / p)) (e (n % p) (Nat.mod_lt n h))
  have q2 : a.at_ (p * (n / p) + n % p) = b.at_ (p * (n / p) + n % p) := q
  rw [Nat.div_add_mod] at q2
  exact q2
theorem spr_mul {p : Nat} (h : 0 < p) (a g : Ser R) : spr p (a * g) = spr p a * spr p g := ser_by_sec h fun r hr => by
  rw [sec_mul_spr hr]
  by_cases h0 : r = 0
  · subst h0
    rw [sec_spr_zero h, sec_spr_zero h]
  · rw [sec_spr_other hr (by omega), sec_spr_other hr (by omega)]
    grind
theorem spr_con {p : Nat} (h : 0 < p) (r : R) : spr p (Ser.con r) = Ser.con r := Ser.ext_at fun n => by
  show (if n % p = 0 then (Ser.con r).at_ (n / p) else 0) = (Ser.con r).at_ n
  cases n with
  | zero => rw [Nat.zero_mod, if_pos rfl, Nat.zero_div]
  | succ n =>
    rw [Ser.con_at_succ]
    split
    · rename_i hz
      obtain ⟨q, hq⟩ := Nat.dvd_of_mod_eq_zero hz
      have hq0 : 0 < q := by
        rcases Nat.eq_zero_or_pos q with z | z
        · rw [z] at hq
          omega
        · exact z
      rw [hq, Nat.mul_div_cancel_left _ h]
      obtain ⟨k, rfl⟩ : ∃ k, q = k + 1 := ⟨q - 1, by omega⟩
      exact Ser.con_at_succ r k
    · rfl
/-- spread often -/
def sprN (p : Nat) : Nat → Ser R → Ser R
  | 0, f => f
  | n + 1, f => spr p (sprN p n f)
theorem sprN_succ (p n : Nat) (f : Ser R) : sprN p (n + 1) f = spr p (sprN p n f) := rfl
theorem sprN_in (p : Nat) : ∀ (n : Nat) (f : Ser R), sprN p (n + 1) f = sprN p n (spr p f)
  | 0, f => rfl
  | n + 1, f => by rw [sprN_succ, sprN_in p n f, sprN_succ]
theorem sprN_add (p : Nat) : ∀ (n : Nat) (f g : Ser R), sprN p n (f + g) = sprN p n f + sprN p n g
  | 0, f, g => rfl
  | n + 1, f, g => by rw [sprN_succ, sprN_add p n, spr_add, ← sprN_succ, ← sprN_succ]
theorem sprN_zero (p : Nat) : ∀ n : Nat, sprN p n (0 : Ser R) = 0
  | 0 => rfl
  | n + 1 => by rw [sprN_succ, sprN_zero p n, spr_zero]
theorem sprN_sum (p n m : Nat) (f : Nat → Ser R) : sprN p n (sumTo m f) = sumTo m (fun i => sprN p n (f i)) := by
  induction m with
  | zero => exact sprN_zero p n
  | succ m ih => rw [sumTo_succ, sumTo_succ, sprN_add, ih]
theorem sprN_mul {p : Nat} (h : 0 < p) : ∀ (n : Nat) (a g : Ser R), sprN p n (a * g) = sprN p n a * sprN p n g
  | 0, a, g => rfl
  | n + 1, a, g => by rw [sprN_succ, sprN_mul h n, spr_mul h, ← sprN_succ, ← sprN_succ]
theorem sprN_con {p : Nat} (h : 0 < p) (r : R) : ∀ n : Nat, sprN p n (Ser.con r) = Ser.con r
  | 0 => rfl
  | n + 1 => by rw [sprN_succ, sprN_con h r n, spr_con h]
end
end Dg
end
section
set_option linter.all false
/-! What the defs compute, in plain Lean. -/
namespace Dg
def enumL {α : Type} (xs : List α) : List (Nat × α) := (List.range xs.length).zip xs
theorem enumL_get {α : Type} {xs : List α} {i : Nat} {p : Nat × α} (h : (enumL xs)[i]? = some p) : p.1 = i ∧ xs[i]? = some p.2 := by
  unfold enumL at h
  rw [List.getElem?_zip_eq_some] at h
  obtain ⟨h1, h2⟩ := h
  refine ⟨?_, h2⟩
  have hi : i < xs.length := (List.getElem?_eq_some_iff.mp h2).1
  rw [List.getElem?_range hi] at h1
  exact (Option.some.inj h1).symm
theorem enumL_length {α : Type} (xs : List α) : (enumL xs).length = xs.length := by
  unfold enumL
  rw [List.length_zip, List.length_range, Nat.min_self]
theorem enumL_mem {α : Type} {xs : List α} {p : Nat × α} (h : p ∈ enumL xs) : p.1 < xs.length ∧ xs[p.1]? = some p.2 ∧ p.2 ∈ xs := by
  obtain ⟨i, hi⟩ := List.mem_iff_getElem?.mp h
  obtain ⟨h1, h2⟩ := enumL_get hi
  subst h1
  exact ⟨(List.getElem?_eq_some_iff.mp h2).1, h2, List.mem_of_getElem? h2⟩
/-- the primes in use -/
def Pm (p : Int) : Prop := p = 2 ∨ p = 3 ∨ p = 5
theorem Pm.pos {p : Int} (h : Pm p) : 0 < p := by rcases h with h | h | h <;> omega
theorem Pm.le {p : Int} (h : Pm p) : p ≤ 5 := by rcases h with h | h | h <;> omega
theorem Pm.two {p : Int} (h : Pm p) : 2 ≤ p := by rcases h with h | h | h <;> omega
/-- numbers below p -/
def Nm (p : Int) (xs : List Int) : Prop := ∀ x ∈ xs, 0 ≤ x ∧ x < p
theorem Nm.nil {p : Int} : Nm p [] := fun _ h => nomatch h
theorem Nm.take {p : Int} {xs : List Int} (h : Nm p xs) (n : Nat) : Nm p (xs.take n) := fun x hx => h x (List.mem_of_mem_take hx)
theorem Nm.app {p : Int} {xs ys : List Int} (h : Nm p xs) (k : Nm p ys) : Nm p (xs ++ ys) := fun x hx => (List.mem_append.mp hx).elim (h x) (k x)
theorem Nm.rep0 {p : Int} (hp : 0 < p) (n : Nat) : Nm p (List.replicate n 0) := fun x hx => by
  have := List.eq_of_mem_replicate hx
  omega
theorem Nm.set {p : Int} {xs : List Int} (h : Nm p xs) {k : Nat} {v : Int} (hv : 0 ≤ v ∧ v < p) : Nm p (xs.set k v) := fun x hx => by
  rcases List.mem_or_eq_of_mem_set hx with h1 | h1
  · exact h x h1
  · exact h1 ▸ hv
theorem md {p : Int} (hp : 0 < p) (x : Int) : 0 ≤ x % p ∧ x % p < p := ⟨Int.emod_nonneg _ (by omega), Int.emod_lt_of_pos _ hp⟩
theorem Nm.getD {p : Int} (hp : 0 < p) {xs : List Int} (h : Nm p xs) (k : Nat) : 0 ≤ xs.getD k 0 ∧ xs.getD k 0 < p := by
  by_cases hk : k < xs.length
  · rw [List.getD_eq_getElem?_getD, List.getElem?_eq_getElem hk]
    exact h _ (List.getElem_mem hk)
  · rw [List.getD_eq_getElem?_getD, List.getElem?_eq_none (by omega)]
    exact ⟨by show (0 : Int) ≤ 0; omega, hp⟩
/-! ### trimmed -/
def trimLen : List Int → Nat
  | [] => 0
  | x :: xs => if trimLen xs = 0 then (if x = 0 then 0 else 1) else trimLen xs + 1
def trim (xs : List Int) : List Int := xs.take (trimLen xs)
theorem trimLen_le : ∀ xs : List Int, trimLen xs ≤ xs.length
  | [] => Nat.le_refl _
  | x :: xs => by
    have := trimLen_le xs
    unfold trimLen
    rw [List.length_cons]
    split <;> (try split) <;> omega
theorem trimLen_zero : ∀ ys : List Int, trimLen (ys ++ [0]) = trimLen ys
  | [] => by simp [trimLen]
  | y :: ys => by rw [List.cons_append, trimLen, trimLen, trimLen_zero ys]
theorem trimLen_ne {x : Int} (hx : x ≠ 0) : ∀ ys : List Int, trimLen (ys ++ [x]) = ys.length + 1
  | [] => by simp [trimLen, hx]
  | y :: ys => by
    rw [List.cons_append, trimLen, trimLen_ne hx ys, List.length_cons]
    rw [if_neg (by omega)]
theorem take_split (xs : List Int) {m : Nat} (h0 : 0 < m) (hm : m ≤ xs.length) : xs.take m = xs.take (m - 1) ++ [xs.getD (m - 1) 0] := by
  have e : m = (m - 1) + 1 := by omega
  rw [e, List.take_add_one, Nat.add_sub_cancel]
  congr 1
  rw [List.getElem?_eq_getElem (by omega), List.getD_eq_getElem?_getD, List.getElem?_eq_getElem (by omega)]
  rfl
theorem trim_nm {p : Int} {xs : List Int} (h : Nm p xs) : Nm p (trim xs) := h.take _
theorem trim_len (xs : List Int) : (trim xs).length ≤ xs.length := by
  unfold trim
  rw [List.length_take]
  omega
/-! ### polynomials -/
def addL (p t : Int) (one other : List Int) : List Int := (enumL other).foldl (fun acc q => acc.set q.1 ((acc.getD q.1 0 + t * q.2) % p)) (one ++ List.replicate (other.length - one.length) 0)
def add (p t : Int) (one other : List Int) : List Int := trim (addL p t one other)
def mulL (p : Int) (one other : List Int) : List Int :=
  (enumL one).foldl (fun acc q => (enumL other).foldl (fun acc w => acc.set (q.1 + w.1) ((acc.getD (q.1 + w.1) 0 + q.2 * w.2) % p)) acc) (List.replicate (one.length + other.length) 0)
def mul (p : Int) (one other : List Int) : List Int := trim (mulL p one other)
def stepsOf (n r c : Nat) : Nat := if r < n then (n - r - 1) / c + 1 else 0
def stepL {α : Type} (xs : List α) (r c : Nat) : List α := (List.range (stepsOf xs.length r c)).filterMap fun m => xs[r + m * c]?
theorem stepsOf_le' (n r c : Nat) : stepsOf n r c ≤ n := by
  unfold stepsOf
  split
  · have : (n - r - 1) / c ≤ n - r - 1 := Nat.div_le_self _ _
    omega
  · omega
theorem stepL_len {α : Type} (xs : List α) (r c : Nat) : (stepL xs r c).length ≤ xs.length := by
  unfold stepL
  refine Nat.le_trans (List.length_filterMap_le _ _) ?_
  rw [List.length_range]
  exact stepsOf_le' _ _ _
def part (p : Int) (poly : List Int) (r : Nat) : List Int := trim (stepL poly r p.toNat)
def spreadL (c : Nat) (poly : List Int) : List Int := (enumL poly).foldl (fun acc q => acc.set (c * q.1) q.2) (List.replicate (c * poly.length) 0)
def spread (c : Nat) (poly : List Int) : List Int := trim (spreadL c poly)
def backL (p n : Int) : List Nat := (List.range p.toNat).filter fun o => decide (n * (o : Int) % p = 1)
def back (p n : Int) : Nat := (backL p n).getD 0 0
/-! ### tables -/
def ledS (p : Int) (acc : List Int) (q : Int × List Int) : List Int := if q.1 ≠ 0 then (acc.zip q.2).map fun w => (w.1 + q.1 * w.2) % p else acc
def led (p : Int) (vector : List Int) (step : List (List Int)) : List Int := (vector.zip step).foldl (ledS p) (List.replicate vector.length 0)
def summed (p : Int) (v c : List Int) : Int := ((v.zip c).map fun w => w.1 * w.2).sum % p
def columnLed (p : Int) (step : List (List Int)) (c : List Int) : List Int := step.map fun row => summed p row c
theorem back_lt {p n : Int} (h : 0 < (backL p n).length) : back p n < p.toNat := by
  have hm : back p n ∈ backL p n := by
    unfold back
    rw [List.getD_eq_getElem?_getD, List.getElem?_eq_getElem h]
    exact List.getElem_mem h
  unfold backL at hm
  rw [List.mem_filter, List.mem_range] at hm
  exact hm.1
theorem mulL_len (p : Int) (one other : List Int) : (mulL p one other).length = one.length + other.length := by
  have len2 : ∀ (q : Nat × Int) (l : List (Nat × Int)) (acc : List Int), (l.foldl (fun acc w => acc.set (q.1 + w.1) ((acc.getD (q.1 + w.1) 0 + q.2 * w.2) % p)) acc).length = acc.length := by
    intro q l
    induction l with
    | nil => intro acc; rfl
    | cons w l ih => intro acc; rw [List.foldl_cons, ih, List.length_set]
  have len1 : ∀ (l : List (Nat × Int)) (acc : List Int), (l.foldl (fun acc q => (enumL other).foldl (fun acc w => acc.set (q.1 + w.1) ((acc.getD (q.1 + w.1) 0 + q.2 * w.2) % p)) acc) acc).length = acc.length := by
    intro l
    induction l with
    | nil => intro acc; rfl
    | cons w l ih => intro acc; rw [List.foldl_cons, ih, len2]
  unfold mulL
  rw [len1, List.length_replicate]
theorem mul_len (p : Int) (one other : List Int) : (mul p one other).length ≤ one.length + other.length := Nat.le_trans (trim_len _) (Nat.le_of_eq (mulL_len p one other))
theorem addL_len (p t : Int) (one other : List Int) : (addL p t one other).length = max one.length other.length := by
  have len1 : ∀ (l : List (Nat × Int)) (acc : List Int), (l.foldl (fun acc q => acc.set q.1 ((acc.getD q.1 0 + t * q.2) % p)) acc).length = acc.length := by
    intro l
    induction l with
    | nil => intro acc; rfl
    | cons w l ih => intro acc; rw [List.foldl_cons, ih, List.length_set]
  unfold addL
  rw [len1, List.length_append, List.length_replicate]
  omega
theorem add_len (p t : Int) (one other : List Int) : (add p t one other).length ≤ max one.length other.length := Nat.le_trans (trim_len _) (Nat.le_of_eq (addL_len p t one other))
theorem foldl_inv {α β : Type} (I : β → Prop) (f : β → α → β) : ∀ (l : List α) (b : β), I b → (∀ b, ∀ x ∈ l, I b → I (f b x)) → I (l.foldl f b)
  | [], b, h, _ => h
  | x :: l, b, h, hs => foldl_inv I f l (f b x) (hs b x List.mem_cons_self h) fun b y hy => hs b y (List.mem_cons_of_mem _ hy)
theorem mulL_nm {p : Int} (hp : 0 < p) (one other : List Int) : Nm p (mulL p one other) :=
  foldl_inv (Nm p) _ _ _ (.rep0 hp _) fun b q _ h => foldl_inv (Nm p) _ _ _ h fun b w _ h => h.set (md hp _)
theorem mul_nm {p : Int} (hp : 0 < p) (one other : List Int) : Nm p (mul p one other) := trim_nm (mulL_nm hp one other)
theorem add_nm {p : Int} (hp : 0 < p) (t : Int) {one : List Int} (other : List Int) (h : Nm p one) : Nm p (add p t one other) :=
  trim_nm (foldl_inv (Nm p) _ _ _ (h.app (.rep0 hp _)) fun b q _ h => h.set (md hp _))
theorem spreadL_len (c : Nat) (poly : List Int) : (spreadL c poly).length = c * poly.length := by
  have len1 : ∀ (l : List (Nat × Int)) (acc : List Int), (l.foldl (fun acc q => acc.set (c * q.1) q.2) acc).length = acc.length := by
    intro l
    induction l with
    | nil => intro acc; rfl
    | cons w l ih => intro acc; rw [List.foldl_cons, ih, List.length_set]
  unfold spreadL
  rw [len1, List.length_replicate]
theorem spread_len (c : Nat) (poly : List Int) : (spread c poly).length ≤ c * poly.length := Nat.le_trans (trim_len _) (Nat.le_of_eq (spreadL_len c poly))
theorem spread_nm {p : Int} (hp : 0 < p) (c : Nat) {poly : List Int} (h : Nm p poly) : Nm p (spread c poly) :=
  trim_nm (foldl_inv (Nm p) _ _ _ (.rep0 hp _) fun b q hq hb => hb.set (h _ (enumL_mem hq).2.2))
/-! ### tables, rows -/
structure Tb (p : Int) (begin : List Int) (steps : List (List (List Int))) (firsts : List Int) : Prop where
  pm : Pm p
  np : steps.length = p.toNat
  nb : begin.length = firsts.length
  nm : firsts.length ≤ 32
  st : ∀ s ∈ steps, s.length = firsts.length
  rw : ∀ s ∈ steps, ∀ row ∈ s, row.length = firsts.length ∧ Nm p row
  nB : Nm p begin
  nF : Nm p firsts
def lineOf (steps : List (List (List Int))) (i j : Nat) : List Int := trim (steps.map fun st => (st.getD i []).getD j 0)
def stepPolys (steps : List (List (List Int))) (m : Nat) : List (List (List Int)) := (List.range m).map fun i => (List.range m).map fun j => lineOf steps i j
def spreadPolys (p : Int) (polys : List (List (List Int))) : List (List (List Int)) := polys.map fun row => row.map fun poly => spread p.toNat poly
/-- polys with bounded lengths, numbers below p -/
def Po (p : Int) (A : Nat) (row : List (List Int)) : Prop := ∀ poly ∈ row, poly.length ≤ A ∧ Nm p poly
def rbs (p : Int) (acc : List (List Int)) (q : List Int × List (List Int)) : List (List Int) := if q.1 ≠ [] then (acc.zip q.2).map fun w => add p 1 w.1 (mul p q.1 w.2) else acc
def rowBySq (p : Int) (row : List (List Int)) (square : List (List (List Int))) : List (List Int) := (row.zip square).foldl (rbs p) (row.map fun _ => [])
theorem rbs_po {p : Int} (hp : 0 < p) {A B : Nat} {acc : List (List Int)} {q : List Int × List (List Int)} (h : Po p (A + B) acc) (h1 : q.1.length ≤ A) (h2 : Po p B q.2) : Po p (A + B) (rbs p acc q) := by
  unfold rbs
  split
  · intro poly hm
    obtain ⟨w, hw, rfl⟩ := List.mem_map.mp hm
    obtain ⟨a, b⟩ := List.of_mem_zip hw
    refine ⟨?_, add_nm hp _ _ (h _ a).2⟩
    have l1 := add_len p 1 w.1 (mul p q.1 w.2)
    have l2 := mul_len p q.1 w.2
    have l3 := (h _ a).1
    have l4 := (h2 _ b).1
    omega
  · exact h
theorem rbs_len {p : Int} {acc : List (List Int)} {q : List Int × List (List Int)} (h : q.2.length = acc.length) : (rbs p acc q).length = acc.length := by
  unfold rbs
  split
  · rw [List.length_map, List.length_zip, h, Nat.min_self]
  · rfl
def sprIt (p : Int) : Nat → List (List (List Int)) → List (List (List Int))
  | 0, sq => sq
  | k + 1, sq => spreadPolys p (sprIt p k sq)
def sqs (p : Int) (sq : List (List (List Int))) (n : Nat) : List (List (List (List Int))) := (List.range n).map fun k => sprIt p k sq
def ones (begin : List Int) : List (List Int) := begin.map fun n => trim [n]
def rowsByPowers (p : Int) (begin : List Int) (steps : List (List (List Int))) (m often : Nat) : List (List (List Int)) :=
  (List.range (often + 1)).map fun first => ((sqs p (stepPolys steps m) often).drop first).foldl (rowBySq p) (ones begin)
def hoS (p : Int) (bk : Nat) (other : List Int) (s : List Int × List Int) (place : Nat) : List Int × List Int :=
  ((enumL other).foldl (fun acc w => acc.set (place + w.1) ((acc.getD (place + w.1) 0 - (s.1.getD (place + other.length - 1) 0 * (bk : Int)) % p * w.2) % p)) s.1,
   s.2.set place ((s.1.getD (place + other.length - 1) 0 * (bk : Int)) % p))
def howL (p : Int) (one other : List Int) : List Int × List Int := (List.range (one.length + 1 - other.length)).reverse.foldl (hoS p (back p (other.getD (other.length - 1) 0)) other) (one, List.replicate (one.length + 1 - other.length) 0)
def howOften (p : Int) (one other : List Int) : List Int := trim (howL p one other).2
def lessOften (p : Int) (row : List (List Int)) (often : List Int) (other : List (List Int)) : List (List Int) := (row.zip other).map fun w => add p (-1) w.1 (mul p often w.2)
end Dg
end
section
set_option linter.all false
/-! More of what the defs compute. -/
namespace Dg
theorem getD_mem {α : Type} {xs : List α} {d : α} {k : Nat} (h : k < xs.length) : xs.getD k d ∈ xs := by
  rw [List.getD_eq_getElem?_getD, List.getElem?_eq_getElem h]
  exact List.getElem_mem h
theorem rowBySq_len {p : Int} {row : List (List Int)} {square : List (List (List Int))} (h : ∀ r ∈ square, r.length = row.length) : (rowBySq p row square).length = row.length := by
  unfold rowBySq
  refine foldl_inv (fun acc => acc.length = row.length) (rbs p) _ _ (List.length_map _) fun acc q hq ha => ?_
  rw [rbs_len (by rw [ha]; exact h _ (List.of_mem_zip hq).2)]
  exact ha
theorem rowBySq_po {p : Int} (hp : 0 < p) {A B : Nat} {row : List (List Int)} {square : List (List (List Int))} (h1 : Po p A row) (h2 : ∀ r ∈ square, Po p B r) : Po p (A + B) (rowBySq p row square) := by
  unfold rowBySq
  refine foldl_inv (Po p (A + B)) (rbs p) _ _ (fun poly hm => ?_) fun acc q hq ha => rbs_po hp ha (h1 _ (List.of_mem_zip hq).1).1 (h2 _ (List.of_mem_zip hq).2)
  obtain ⟨y, _, rfl⟩ := List.mem_map.mp hm
  exact ⟨Nat.zero_le _, .nil⟩
theorem lineOf_len {p : Int} {begin firsts : List Int} {steps : List (List (List Int))} (h : Tb p begin steps firsts) (i j : Nat) : (lineOf steps i j).length ≤ p.toNat := by
  unfold lineOf
  refine Nat.le_trans (trim_len _) ?_
  rw [List.length_map, h.np]
  exact Nat.le_refl _
theorem lineOf_nm {p : Int} {begin firsts : List Int} {steps : List (List (List Int))} (h : Tb p begin steps firsts) {i j : Nat} (hi : i < firsts.length) (hj : j < firsts.length) : Nm p (lineOf steps i j) := by
  refine trim_nm fun x hx => ?_
  obtain ⟨s, hs, rfl⟩ := List.mem_map.mp hx
  have l1 := h.st s hs
  obtain ⟨l2, l3⟩ := h.rw s hs (s.getD i []) (getD_mem (by omega))
  exact l3 _ (getD_mem (by omega))
theorem stepPolys_ok {p : Int} {begin firsts : List Int} {steps : List (List (List Int))} (h : Tb p begin steps firsts) : (stepPolys steps firsts.length).length = firsts.length ∧ ∀ row ∈ stepPolys steps firsts.length, row.length = firsts.length ∧ Po p p.toNat row := by
  unfold stepPolys
  refine ⟨by rw [List.length_map, List.length_range], fun row hrow => ?_⟩
  obtain ⟨i, hi, rfl⟩ := List.mem_map.mp hrow
  refine ⟨by rw [List.length_map, List.length_range], fun poly hpoly => ?_⟩
  obtain ⟨j, hj, rfl⟩ := List.mem_map.mp hpoly
  rw [List.mem_range] at hi hj
  exact ⟨lineOf_len h i j, lineOf_nm h hi hj⟩
theorem sprIt_po {p : Int} {begin firsts : List Int} {steps : List (List (List Int))} (h : Tb p begin steps firsts) : ∀ k, (sprIt p k (stepPolys steps firsts.length)).length = firsts.length ∧ ∀ row ∈ sprIt p k (stepPolys steps firsts.length), row.length = firsts.length ∧ Po p (p.toNat ^ k * p.toNat) row
  | 0 => by
    rw [Nat.pow_zero, Nat.one_mul]
    exact stepPolys_ok h
  | k + 1 => by
    obtain ⟨h1, h2⟩ := sprIt_po h k
    refine ⟨by unfold sprIt spreadPolys; rw [List.length_map]; exact h1, fun row hrow => ?_⟩
    obtain ⟨r, hr, rfl⟩ := List.mem_map.mp hrow
    obtain ⟨a, b⟩ := h2 r hr
    refine ⟨by rw [List.length_map]; exact a, fun poly hpoly => ?_⟩
    obtain ⟨g, hg, rfl⟩ := List.mem_map.mp hpoly
    obtain ⟨c, d⟩ := b g hg
    refine ⟨Nat.le_trans (spread_len _ _) ?_, spread_nm h.pm.pos _ d⟩
    rw [Nat.pow_succ, Nat.mul_comm (p.toNat ^ k) p.toNat, Nat.mul_assoc]
    exact Nat.mul_le_mul_left _ c
theorem sprIt_ok {p : Int} {begin firsts : List Int} {steps : List (List (List Int))} {k : Nat} (hp : Pm p) (h : Tb p begin steps firsts) (hk : p.toNat ^ k ≤ 32) : (sprIt p k (stepPolys steps firsts.length)).length = firsts.length ∧ ∀ row ∈ sprIt p k (stepPolys steps firsts.length), row.length = firsts.length ∧ Po p 160 row := by
  obtain ⟨h1, h2⟩ := sprIt_po h k
  refine ⟨h1, fun row hrow => ⟨(h2 row hrow).1, fun poly hpoly => ⟨Nat.le_trans ((h2 row hrow).2 poly hpoly).1 ?_, ((h2 row hrow).2 poly hpoly).2⟩⟩⟩
  have := hp.le
  exact Nat.mul_le_mul hk (show p.toNat ≤ 5 by omega)
theorem trimLen_ge : ∀ {xs : List Int} {k : Nat}, xs.getD k 0 ≠ 0 → k + 1 ≤ trimLen xs
  | [], k, h => by simp at h
  | x :: xs, 0, h => by
    have h : x ≠ 0 := by simpa using h
    unfold trimLen
    by_cases hz : trimLen xs = 0
    · rw [if_pos hz, if_neg h]
      exact Nat.le_refl _
    · rw [if_neg hz]
      omega
  | x :: xs, k + 1, h => by
    have h : xs.getD k 0 ≠ 0 := by simpa using h
    have := trimLen_ge h
    unfold trimLen
    rw [if_neg (by omega)]
    omega
theorem trimLen_last : ∀ {xs : List Int}, 0 < trimLen xs → xs.getD (trimLen xs - 1) 0 ≠ 0
  | [], h => by simp [trimLen] at h
  | x :: xs, h => by
    unfold trimLen at h ⊢
    by_cases hz : trimLen xs = 0
    · rw [if_pos hz] at h ⊢
      by_cases hx : x = 0
      · rw [if_pos hx] at h
        omega
      · rw [if_neg hx]
        simpa using hx
    · rw [if_neg hz]
      have := trimLen_last (xs := xs) (by omega)
      obtain ⟨m, hm⟩ : ∃ m, trimLen xs = m + 1 := ⟨trimLen xs - 1, by omega⟩
      rw [hm] at this ⊢
      simpa using this
def partRow (p : Int) (row : List (List Int)) (r : Nat) : List (List Int) := row.map fun poly => part p poly r
def wovenS (p : Int) (steps : List (List (List Int))) (n : Nat) (acc : List (List Int)) (q : Nat × List Int) : List (List Int) :=
  (List.range n).foldl (fun acc j => acc.set j (add p 1 (acc.getD j []) (mul p q.2 (lineOf steps q.1 j)))) acc
def woven (p : Int) (row : List (List Int)) (steps : List (List (List Int))) : List (List Int) := (enumL row).foldl (wovenS p steps row.length) (row.map fun _ => [])
def leftS (p : Int) (l : List Int) (q : Nat × List Int) : List Int := (l.zip q.2).map fun w => (w.1 - l.getD q.1 0 * w.2) % p
def leftL (p : Int) (lines : List (Nat × List Int)) (v : List Int) : List Int := lines.foldl (leftS p) v
theorem back_ne' {p n : Int} (hp : Pm p) (h0 : 0 ≤ n) (h1 : n < p) (h2 : n ≠ 0) : 0 < (backL p n).length := by
  rcases hp with rfl | rfl | rfl
  · have : n = 1 := by omega
    subst this
    decide
  · have : n = 1 ∨ n = 2 := by omega
    rcases this with rfl | rfl <;> decide
  · have : n = 1 ∨ n = 2 ∨ n = 3 ∨ n = 4 := by omega
    rcases this with rfl | rfl | rfl | rfl <;> decide
end Dg
end
section
set_option linter.all false
/-! The law's sum row. -/
namespace Dg
def plusRow (p : Int) (poly : List Int) (acc line : List (List Int)) : List (List Int) := (acc.zip line).map fun w => add p 1 w.1 (mul p poly w.2)
theorem plusRow_len {p : Int} {poly : List Int} {acc line : List (List Int)} (h : line.length = acc.length) : (plusRow p poly acc line).length = acc.length := by
  unfold plusRow
  rw [List.length_map, List.length_zip, h, Nat.min_self]
theorem plusRow_po {p : Int} (hp : 0 < p) {A B : Nat} {poly : List Int} {acc line : List (List Int)} (h : Po p (A + B) acc) (h1 : poly.length ≤ A) (h2 : Po p B line) : Po p (A + B) (plusRow p poly acc line) := by
  intro g hm
  obtain ⟨w, hw, rfl⟩ := List.mem_map.mp hm
  obtain ⟨a, b⟩ := List.of_mem_zip hw
  refine ⟨?_, add_nm hp _ _ (h _ a).2⟩
  have l1 := add_len p 1 w.1 (mul p poly w.2)
  have l2 := mul_len p poly w.2
  have l3 := (h _ a).1
  have l4 := (h2 _ b).1
  omega
theorem Po.nils {p : Int} {A : Nat} {α : Type} (l : List α) : Po p A (l.map fun _ => []) := fun g hg => by
  obtain ⟨_, _, rfl⟩ := List.mem_map.mp hg
  exact ⟨Nat.zero_le _, .nil⟩
theorem Po.mono {p : Int} {A B : Nat} {l : List (List Int)} (h : Po p A l) (ab : A ≤ B) : Po p B l := fun g hg => ⟨Nat.le_trans (h g hg).1 ab, (h g hg).2⟩
theorem Po.ones {p : Int} {begin : List Int} (h : Nm p begin) : Po p 1 (ones begin) := fun g hg => by
  obtain ⟨n, hn, rfl⟩ := List.mem_map.mp hg
  exact ⟨trim_len [n], trim_nm fun x hx => by rw [List.mem_singleton.mp hx]; exact h n hn⟩
def wideOf (steps : List (List (List Int))) (m far : Nat) : List (List (List Int)) := (List.range m).map fun i => (List.range m).map fun j => spread far (lineOf steps i j)
theorem wideOf_len (steps : List (List (List Int))) (m far : Nat) : (wideOf steps m far).length = m := by unfold wideOf; rw [List.length_map, List.length_range]
theorem wideOf_get {steps : List (List (List Int))} {m far i : Nat} (hi : i < m) : (wideOf steps m far).getD i [] = (List.range m).map fun j => spread far (lineOf steps i j) := by
  unfold wideOf
  rw [List.getD_eq_getElem?_getD, List.getElem?_map, List.getElem?_range hi]
  rfl
theorem wideOf_po {p : Int} {begin firsts : List Int} {steps : List (List (List Int))} (h : Tb p begin steps firsts) {i far : Nat} (hf : far ≤ 32) (hi : i < firsts.length) : ((wideOf steps firsts.length far).getD i []).length = firsts.length ∧ Po p 160 ((wideOf steps firsts.length far).getD i []) := by
  rw [wideOf_get hi]
  refine ⟨by rw [List.length_map, List.length_range], fun g hg => ?_⟩
  obtain ⟨j, hj, rfl⟩ := List.mem_map.mp hg
  rw [List.mem_range] at hj
  refine ⟨Nat.le_trans (spread_len _ _) ?_, spread_nm h.pm.pos _ (lineOf_nm h hi hj)⟩
  have l1 := lineOf_len h i j
  have := h.pm.le
  exact Nat.mul_le_mul hf (show (lineOf steps i j).length ≤ 5 by omega)
def wstep (p : Int) (m : Nat) (row : List (List Int)) (wide : List (List (List Int))) : List (List Int) := (enumL row).foldl (fun after q => plusRow p q.2 after (wide.getD q.1 [])) (List.replicate m [])
def rowAt (p : Int) (begin : List Int) (steps : List (List (List Int))) (m t k : Nat) : List (List Int) := (List.range k).foldl (fun row s => wstep p m row (wideOf steps m (p.toNat ^ (t + s)))) (ones begin)
theorem rowAt_succ (p : Int) (begin : List Int) (steps : List (List (List Int))) (m t k : Nat) : rowAt p begin steps m t (k + 1) = wstep p m (rowAt p begin steps m t k) (wideOf steps m (p.toNat ^ (t + k))) := by
  unfold rowAt
  rw [List.range_succ, List.foldl_append]
  rfl
theorem wstep_ok {p : Int} {begin firsts : List Int} {steps : List (List (List Int))} (h : Tb p begin steps firsts) {A far : Nat} {row : List (List Int)} (hf : far ≤ 32) (hl : row.length = firsts.length) (hr : Po p A row) :
    (wstep p firsts.length row (wideOf steps firsts.length far)).length = firsts.length ∧ Po p (A + 160) (wstep p firsts.length row (wideOf steps firsts.length far)) := by
  unfold wstep
  refine foldl_inv (fun acc => acc.length = firsts.length ∧ Po p (A + 160) acc) _ _ _ ⟨List.length_replicate, fun g hg => ?_⟩ fun acc q hq ha => ?_
  · rw [List.eq_of_mem_replicate hg]
    exact ⟨Nat.zero_le _, .nil⟩
  · obtain ⟨q1, q2, q3⟩ := enumL_mem hq
    obtain ⟨w1, w2⟩ := wideOf_po h hf (show q.1 < firsts.length by omega)
    exact ⟨by rw [plusRow_len (by rw [w1]; exact ha.1.symm)]; exact ha.1, plusRow_po h.pm.pos ha.2 (hr _ q3).1 w2⟩
theorem rowAt_ok {p : Int} {begin firsts : List Int} {steps : List (List (List Int))} (h : Tb p begin steps firsts) {t : Nat} : ∀ {k : Nat}, p.toNat ^ (t + k) ≤ 32 → (rowAt p begin steps firsts.length t k).length = firsts.length ∧ Po p (1 + k * 160) (rowAt p begin steps firsts.length t k)
  | 0, _ => ⟨by unfold rowAt ones; rw [List.range_zero, List.foldl_nil, List.length_map]; exact h.nb, (Po.ones h.nB)⟩
  | k + 1, hk => by
    have := h.pm.two
    have hk' : p.toNat ^ (t + k) ≤ 32 := Nat.le_trans (Nat.pow_le_pow_right (by omega) (by omega)) hk
    obtain ⟨a, b⟩ := rowAt_ok h hk'
    rw [rowAt_succ, show 1 + (k + 1) * 160 = 1 + k * 160 + 160 by omega]
    exact wstep_ok h hk' a b
def sumRow (p : Int) (begin : List Int) (steps : List (List (List Int))) (m : Nat) (powers : List (List Int)) : List (List Int) :=
  (enumL powers).foldl (fun found q => plusRow p q.2 found (rowAt p begin steps m q.1 (powers.length - 1 - q.1))) (List.replicate m [])
theorem map_nils {α : Type} (l : List α) : (l.map fun _ => ([] : List Int)) = List.replicate l.length [] := by
  induction l with
  | nil => rfl
  | cons a l ih => rw [List.map_cons, ih, List.length_cons, List.replicate_succ]
end Dg
end
section
set_option linter.all false
/-! Lists of numbers as series. -/
namespace Dg
open Lean.Grind
structure Hom (R : Type) [CommRing R] (p : Int) where
  f : Int → R
  add : ∀ a b, f (a + b) = f a + f b
  mul : ∀ a b, f (a * b) = f a * f b
  one : f 1 = 1
  mod : ∀ a, f (a % p) = f a
  inj : ∀ a, 0 ≤ a → a < p → f a = 0 → a = 0
section
variable {R : Type} [CommRing R] {p : Int} (h : Hom R p)
theorem Hom.zero : h.f 0 = 0 := by
  have q := h.add 0 0
  rw [Int.add_zero] at q
  grind
theorem Hom.neg (a : Int) : h.f (-a) = - h.f a := by
  have q := h.add a (-a)
  rw [Int.add_right_neg, h.zero] at q
  grind
theorem Hom.sub (a b : Int) : h.f (a - b) = h.f a - h.f b := by
  rw [Int.sub_eq_add_neg, h.add, h.neg]
  grind
def ser (xs : List Int) : Ser R := ⟨fun n => h.f (xs.getD n 0)⟩
def X (i : Nat) : Ser R := ⟨fun n => if n = i then 1 else 0⟩
omit h in
theorem X_mul (i : Nat) (s : Ser R) (n : Nat) : (X i * s).at_ n = if i ≤ n then s.at_ (n - i) else 0 := by
  rw [Ser.mul_at]
  by_cases hi : i ≤ n
  · rw [if_pos hi, sumTo_one (k := i) (by omega) (fun j hj hne => by show (if j = i then (1 : R) else 0) * _ = 0; rw [if_neg hne]; grind)]
    show (if i = i then (1 : R) else 0) * _ = _
    rw [if_pos rfl]
    grind
  · rw [if_neg hi]
    exact sumTo_none fun j hj => by
      show (if j = i then (1 : R) else 0) * _ = 0
      rw [if_neg (by omega)]
      grind
theorem trim_getD (xs : List Int) (k : Nat) : (trim xs).getD k 0 = xs.getD k 0 := by
  unfold trim
  by_cases hk : k < trimLen xs
  · rw [List.getD_eq_getElem?_getD, List.getD_eq_getElem?_getD, List.getElem?_take_of_lt hk]
  · have z : xs.getD k 0 = 0 := by
      refine Classical.byContradiction fun hne => ?_
      have := trimLen_ge hne
      omega
    rw [z, List.getD_eq_getElem?_getD, List.getElem?_eq_none (by rw [List.length_take]; omega)]
    rfl
theorem ser_trim (xs : List Int) : ser h (trim xs) = ser h xs := Ser.ext_at fun n => by
  show h.f _ = h.f _
  rw [trim_getD]
theorem ser_nil : ser h [] = 0 := Ser.ext_at fun n => by
  show h.f ([].getD n 0) = _
  rw [Ser.zero_at]
  exact h.zero
theorem ser_rep (n : Nat) : ser h (List.replicate n 0) = 0 := Ser.ext_at fun k => by
  show h.f _ = _
  rw [Ser.zero_at, ← h.zero]
  congr 1
  rw [List.getD_eq_getElem?_getD, List.getElem?_replicate]
  split <;> rfl
/-! ### a fold that sets items, one place each -/
theorem getD_set {α : Type} (xs : List α) (i k : Nat) (v d : α) : (xs.set i v).getD k d = if i = k ∧ i < xs.length then v else xs.getD k d := by
  rw [List.getD_eq_getElem?_getD, List.getD_eq_getElem?_getD, List.getElem?_set]
  by_cases e : i = k
  · subst e
    by_cases hl : i < xs.length
    · simp [hl]
    · simp [hl]
  · simp [e]
theorem fold_set {β : Type} {π : Nat → Nat} (inj : ∀ a b, π a = π b → a = b) (g : Int → β → Int) : ∀ (ys : List β) (s : Nat) (acc : List Int), (∀ i, i < ys.length → π (s + i) < acc.length) →
    (∀ i (y : β), ys[i]? = some y → (((List.range' s ys.length).zip ys).foldl (fun acc q => acc.set (π q.1) (g (acc.getD (π q.1) 0) q.2)) acc).getD (π (s + i)) 0 = g (acc.getD (π (s + i)) 0) y) ∧
    ∀ k, (∀ i, i < ys.length → π (s + i) ≠ k) → (((List.range' s ys.length).zip ys).foldl (fun acc q => acc.set (π q.1) (g (acc.getD (π q.1) 0) q.2)) acc).getD k 0 = acc.getD k 0
  | [], s, acc, _ => ⟨fun i y e => by simp at e, fun k _ => rfl⟩
  | y :: ys, s, acc, hl => by
    have h0 : π s < acc.length := by
      have := hl 0 (by simp)
      simpa using this
    rw [List.length_cons, List.range'_succ, List.zip_cons_cons, List.foldl_cons]
    obtain ⟨ih1, ih2⟩ := fold_set inj g ys (s + 1) (acc.set (π s) (g (acc.getD (π s) 0) y)) (fun i hi => by
      rw [List.length_set]
      have := hl (i + 1) (by simpa using hi)
      rwa [show s + 1 + i = s + (i + 1) by omega])
    refine ⟨fun i z e => ?_, fun k hk => ?_⟩
    · cases i with
      | zero =>
        have e : y = z := by simpa using e
        subst e
        simp only [Nat.add_zero]
        rw [ih2 _ (fun i hi q => by have := inj _ _ q; omega), getD_set, if_pos ⟨rfl, h0⟩]
      | succ i =>
        have e : ys[i]? = some z := by simpa using e
        rw [show s + (i + 1) = s + 1 + i by omega, ih1 i z e, getD_set, if_neg (fun q => by have := inj _ _ q.1; omega)]
    · rw [ih2 k (fun i hi => by rw [show s + 1 + i = s + (i + 1) by omega]; exact hk (i + 1) (by simpa using hi)), getD_set, if_neg (fun q => hk 0 (by simp) (by simpa using q.1))]
theorem enumL_eq {α : Type} (xs : List α) : enumL xs = (List.range' 0 xs.length).zip xs := by
  unfold enumL
  rw [List.range_eq_range']
theorem foldl_len {α : Type} (f : List Int → α → List Int) (hf : ∀ acc x, (f acc x).length = acc.length) : ∀ (l : List α) (acc : List Int), (l.foldl f acc).length = acc.length
  | [], _ => rfl
  | x :: l, acc => by rw [List.foldl_cons, foldl_len f hf l, hf]
theorem addL_at {t : Int} {one other : List Int} (k : Nat) : (addL p t one other).getD k 0 = if k < other.length then (one.getD k 0 + t * other.getD k 0) % p else one.getD k 0 := by
  unfold addL
  rw [enumL_eq]
  have base : ∀ k, (one ++ List.replicate (other.length - one.length) 0).getD k 0 = one.getD k 0 := fun k => by
    rw [List.getD_eq_getElem?_getD, List.getD_eq_getElem?_getD]
    by_cases hk : k < one.length
    · rw [List.getElem?_append_left hk]
    · rw [List.getElem?_append_right (by omega), List.getElem?_replicate, List.getElem?_eq_none (by omega)]
      split <;> rfl
  obtain ⟨f1, f2⟩ := fold_set (π := fun i => i) (fun _ _ e => e) (fun a (b : Int) => (a + t * b) % p) other 0 (one ++ List.replicate (other.length - one.length) 0) (fun i hi => by
    rw [List.length_append, List.length_replicate]
    omega)
  by_cases hk : k < other.length
  · rw [if_pos hk]
    have e := f1 k other[k] (by simp [hk])
    rw [Nat.zero_add] at e
    rw [e, base, List.getD_eq_getElem?_getD (l := other), List.getElem?_eq_getElem hk]
    rfl
  · rw [if_neg hk]
    rw [f2 k (fun i hi q => by omega), base]
theorem ser_add {t : Int} {one other : List Int} : ser h (add p t one other) = ser h one + Ser.con (h.f t) * ser h other := by
  unfold add
  rw [ser_trim]
  refine Ser.ext_at fun n => ?_
  rw [Ser.add_at, Ser.con_mul_at]
  show h.f _ = h.f _ + h.f t * h.f _
  rw [addL_at]
  by_cases hn : n < other.length
  · rw [if_pos hn, h.mod, h.add, h.mul]
  · rw [if_neg hn]
    have z : other.getD n 0 = 0 := by rw [List.getD_eq_getElem?_getD, List.getElem?_eq_none (by omega)]; rfl
    rw [z, h.zero]
    grind
/-- one round of a product -/
theorem round_ser (i : Nat) (c : Int) (other acc : List Int) (hl : i + other.length ≤ acc.length) : ser h ((enumL other).foldl (fun acc w => acc.set (i + w.1) ((acc.getD (i + w.1) 0 + c * w.2) % p)) acc) = ser h acc + Ser.con (h.f c) * (X i * ser h other) := by
  rw [enumL_eq]
  obtain ⟨f1, f2⟩ := fold_set (π := fun j => i + j) (fun _ _ e => by omega) (fun a (b : Int) => (a + c * b) % p) other 0 acc (fun j hj => by omega)
  refine Ser.ext_at fun n => ?_
  rw [Ser.add_at, Ser.con_mul_at, X_mul]
  show h.f _ = h.f _ + _
  by_cases hn : i ≤ n
  · rw [if_pos hn]
    show _ = _ + h.f c * h.f _
    by_cases hj : n - i < other.length
    · have e := f1 (n - i) other[n - i] (by simp [hj])
      have en : i + (0 + (n - i)) = n := by omega
      rw [en] at e
      rw [e, h.mod, h.add, h.mul, List.getD_eq_getElem?_getD (l := other), List.getElem?_eq_getElem hj]
      rfl
    · have z : other.getD (n - i) 0 = 0 := by rw [List.getD_eq_getElem?_getD, List.getElem?_eq_none (by omega)]; rfl
      rw [f2 n (fun j hj q => by omega), z, h.zero]
      grind
  · rw [if_neg hn, f2 n (fun j hj q => by omega)]
    grind
theorem ser_sum (xs : List Int) : ser h xs = sumTo xs.length (fun i => Ser.con (h.f (xs.getD i 0)) * X i) := Ser.ext_at fun n => by
  rw [Ser.sum_at]
  show h.f _ = _
  have e : ∀ i, (Ser.con (h.f (xs.getD i 0)) * X i).at_ n = if n = i then h.f (xs.getD i 0) else 0 := fun i => by
    rw [Ser.con_mul_at]
    show _ * (if n = i then (1 : R) else 0) = _
    by_cases hi : n = i
    · rw [if_pos hi, if_pos hi]; grind
    · rw [if_neg hi, if_neg hi]; grind
  by_cases hn : n < xs.length
  · rw [sumTo_one (k := n) hn (fun i hi hne => by rw [e, if_neg (by omega)]), e, if_pos rfl]
  · have z : xs.getD n 0 = 0 := by rw [List.getD_eq_getElem?_getD, List.getElem?_eq_none (by omega)]; rfl
    rw [z, h.zero, sumTo_none fun i hi => by rw [e, if_neg (by omega)]]
theorem rounds_ser (other : List Int) : ∀ (ys : List Int) (s : Nat) (acc : List Int), s + ys.length + other.length ≤ acc.length →
    ser h (((List.range' s ys.length).zip ys).foldl (fun acc q => (enumL other).foldl (fun acc w => acc.set (q.1 + w.1) ((acc.getD (q.1 + w.1) 0 + q.2 * w.2) % p)) acc) acc) = ser h acc + sumTo ys.length (fun i => Ser.con (h.f (ys.getD i 0)) * X (s + i)) * ser h other
  | [], s, acc, _ => by
    show ser h acc = _
    rw [List.length_nil, sumTo_zero]
    grind
  | y :: ys, s, acc, hl => by
    rw [List.length_cons] at hl
    rw [List.length_cons, List.range'_succ, List.zip_cons_cons, List.foldl_cons]
    have len : ((enumL other).foldl (fun acc w => acc.set (s + w.1) ((acc.getD (s + w.1) 0 + y * w.2) % p)) acc).length = acc.length := foldl_len _ (fun acc x => List.length_set) _ _
    rw [rounds_ser other ys (s + 1) _ (by rw [len]; omega), round_ser h s y other acc (by omega), sumTo_head]
    have e : sumTo ys.length (fun i => Ser.con (h.f (ys.getD i 0)) * X (s + 1 + i)) = sumTo ys.length (fun i => Ser.con (h.f ((y :: ys).getD (i + 1) 0)) * X (R := R) (s + (i + 1))) := sumTo_congr fun i hi => by
      rw [show s + 1 + i = s + (i + 1) by omega]
      rfl
    rw [← e]
    show _ = _ + (Ser.con (h.f y) * X (s + 0) + _) * _
    rw [Nat.add_zero]
    grind
theorem ser_mul (one other : List Int) : ser h (mul p one other) = ser h one * ser h other := by
  unfold mul
  rw [ser_trim]
  unfold mulL
  rw [enumL_eq one, rounds_ser h other one 0 _ (by rw [List.length_replicate]; omega), ser_rep, ser_sum h one]
  have e : sumTo one.length (fun i => Ser.con (h.f (one.getD i 0)) * X (R := R) (0 + i)) = sumTo one.length (fun i => Ser.con (h.f (one.getD i 0)) * X i) := sumTo_congr fun i hi => by rw [Nat.zero_add]
  rw [e]
  grind
theorem stepL_getD (xs : List Int) {r c : Nat} (hc : 0 < c) (n : Nat) : (stepL xs r c).getD n 0 = xs.getD (r + n * c) 0 := by
  have all : ∀ m, m < stepsOf xs.length r c → r + m * c < xs.length := fun m hm => by
    unfold stepsOf at hm
    by_cases hr : r < xs.length
    · rw [if_pos hr] at hm
      have q : m * c ≤ (xs.length - r - 1) / c * c := Nat.mul_le_mul_right c (by omega)
      have q2 := Nat.div_mul_le_self (xs.length - r - 1) c
      omega
    · rw [if_neg hr] at hm
      omega
  have e : stepL xs r c = (List.range (stepsOf xs.length r c)).map fun m => xs.getD (r + m * c) 0 := by
    unfold stepL
    have q : ∀ l : List Nat, (∀ m ∈ l, r + m * c < xs.length) → l.filterMap (fun m => xs[r + m * c]?) = l.map fun m => xs.getD (r + m * c) 0 := by
      intro l
      induction l with
      | nil => intro _; rfl
      | cons m l ih =>
        intro hl
        have hm := hl m List.mem_cons_self
        rw [List.filterMap_cons, List.getElem?_eq_getElem hm, List.map_cons, ih fun k hk => hl k (List.mem_cons_of_mem _ hk), List.getD_eq_getElem?_getD, List.getElem?_eq_getElem hm]
        rfl
    exact q _ fun m hm => all m (List.mem_range.mp hm)
  rw [e]
  by_cases hn : n < stepsOf xs.length r c
  · rw [List.getD_eq_getElem?_getD, List.getElem?_map, List.getElem?_range hn]
    rfl
  · rw [List.getD_eq_getElem?_getD, List.getElem?_eq_none (by rw [List.length_map, List.length_range]; omega), List.getD_eq_getElem?_getD, List.getElem?_eq_none]
    unfold stepsOf at hn
    by_cases hr : r < xs.length
    · rw [if_pos hr] at hn
      have q : xs.length - r - 1 < n * c := by
        have q1 : (xs.length - r - 1) / c < n := by omega
        exact (Nat.div_lt_iff_lt_mul hc).mp q1
      omega
    · have : 0 ≤ n * c := Nat.zero_le _
      omega
theorem ser_part (hp : 0 < p) (poly : List Int) (r : Nat) : ser h (part p poly r) = sec p.toNat r (ser h poly) := by
  unfold part
  rw [ser_trim]
  refine Ser.ext_at fun n => ?_
  show h.f _ = h.f (poly.getD (p.toNat * n + r) 0)
  rw [stepL_getD poly (by omega), Nat.mul_comm, Nat.add_comm]
theorem ser_spread {c : Nat} (hc : 0 < c) (poly : List Int) : ser h (spread c poly) = spr c (ser h poly) := by
  unfold spread
  rw [ser_trim]
  unfold spreadL
  rw [enumL_eq]
  obtain ⟨f1, f2⟩ := fold_set (π := fun i => c * i) (fun a b e => Nat.eq_of_mul_eq_mul_left hc e) (fun _ (b : Int) => b) poly 0 (List.replicate (c * poly.length) 0) (fun i hi => by
    rw [List.length_replicate, Nat.zero_add]
    exact Nat.mul_lt_mul_of_pos_left hi hc)
  refine Ser.ext_at fun n => ?_
  show h.f _ = if n % c = 0 then h.f _ else 0
  have rep : ∀ k, (List.replicate (c * poly.length) (0 : Int)).getD k 0 = 0 := fun k => by
    rw [List.getD_eq_getElem?_getD, List.getElem?_replicate]
    split <;> rfl
  by_cases hn : n % c = 0
  · rw [if_pos hn]
    have en : c * (n / c) = n := by
      have := Nat.div_add_mod n c
      omega
    by_cases hj : n / c < poly.length
    · have e := f1 (n / c) poly[n / c] (by simp [hj])
      rw [Nat.zero_add, en] at e
      rw [e, List.getD_eq_getElem?_getD (l := poly), List.getElem?_eq_getElem hj]
      rfl
    · have z : poly.getD (n / c) 0 = 0 := by rw [List.getD_eq_getElem?_getD, List.getElem?_eq_none (by omega)]; rfl
      rw [f2 n (fun i hi q => ?_), rep, z]
      rw [Nat.zero_add] at q
      rw [← q, Nat.mul_div_cancel_left _ hc] at hj
      omega
  · rw [if_neg hn, f2 n (fun i hi q => ?_), rep, h.zero]
    rw [Nat.zero_add] at q
    rw [← q, Nat.mul_mod_right] at hn
    exact hn rfl
end
end Dg
end
section
set_option linter.all false
/-! The ring of p elements; division with rest; lengths of products. -/
namespace Dg
open Lean.Grind
def homFin (n : Nat) [NeZero n] : Hom (Fin n) (n : Int) where
  f x := @IntCast.intCast (Fin n) Ring.intCast x
  add a b := Ring.intCast_add a b
  mul a b := Ring.intCast_mul a b
  one := Ring.intCast_one
  mod a := by
    rw [IsCharP.intCast_ext_iff (α := Fin n) n]
    exact Int.emod_emod_of_dvd a (Int.dvd_refl _)
  inj a h0 h1 e := by
    have q : @IntCast.intCast (Fin n) Ring.intCast a = @IntCast.intCast (Fin n) Ring.intCast 0 := by
      rw [e]
      exact Ring.intCast_zero.symm
    rw [IsCharP.intCast_ext_iff (α := Fin n) n] at q
    rw [Int.emod_eq_of_lt h0 h1, Int.zero_emod] at q
    exact q
/-- the ring for p -/
theorem hom_of {p : Int} (h : Pm p) : ∃ (R : Type) (_ : CommRing R), Nonempty (Hom R p) := by
  rcases h with rfl | rfl | rfl
  · exact ⟨Fin 2, inferInstance, ⟨homFin 2⟩⟩
  · exact ⟨Fin 3, inferInstance, ⟨homFin 3⟩⟩
  · exact ⟨Fin 5, inferInstance, ⟨homFin 5⟩⟩
theorem back_is {p n : Int} (h : 0 < (backL p n).length) : n * (back p n : Int) % p = 1 := by
  have hm : back p n ∈ backL p n := by
    unfold back
    rw [List.getD_eq_getElem?_getD, List.getElem?_eq_getElem h]
    exact List.getElem_mem h
  unfold backL at hm
  rw [List.mem_filter] at hm
  exact of_decide_eq_true hm.2
theorem trimLen_le_of {xs : List Int} {m : Nat} (h : ∀ k, m ≤ k → xs.getD k 0 = 0) : trimLen xs ≤ m := by
  refine Nat.le_of_not_lt fun hlt => ?_
  exact trimLen_last (by omega) (h (trimLen xs - 1) (by omega))
theorem trim_len_of {xs : List Int} {m : Nat} (h : ∀ k, m ≤ k → xs.getD k 0 = 0) : (trim xs).length ≤ m := by
  unfold trim
  rw [List.length_take]
  have := trimLen_le_of h
  omega
/-- the last of a trimmed list is not nought -/
theorem trim_last {xs : List Int} (h : trim xs ≠ []) : (trim xs).getD ((trim xs).length - 1) 0 ≠ 0 := by
  have hl : (trim xs).length = trimLen xs := by
    unfold trim
    rw [List.length_take]
    have := trimLen_le xs
    omega
  rw [hl, trim_getD]
  refine trimLen_last ?_
  rw [← hl]
  exact List.length_pos_iff.mpr h
section
variable {R : Type} [CommRing R] {p : Int} (h : Hom R p)
include h
/-- nought in the ring, nought at all -/
theorem nought_of {xs : List Int} (hn : Nm p xs) (hp : 0 < p) {k : Nat} (e : (ser h xs).at_ k = 0) : xs.getD k 0 = 0 := h.inj _ (hn.getD hp k).1 (hn.getD hp k).2 e
/-- a product of a and b has at most a + b - 1 numbers -/
theorem mul_len' (hp : 0 < p) (one other : List Int) : (mul p one other).length ≤ one.length + other.length - 1 := by
  unfold mul
  refine trim_len_of fun k hk => ?_
  refine nought_of h (mulL_nm hp one other) hp ?_
  have e : (ser h (mulL p one other)) = ser h one * ser h other := by
    have q := ser_mul h one other
    unfold mul at q
    rw [ser_trim] at q
    exact q
  rw [e, Ser.mul_at]
  refine sumTo_none fun i hi => ?_
  show h.f _ * h.f _ = 0
  by_cases h1 : i < one.length
  · have z : other.getD (k - i) 0 = 0 := by rw [List.getD_eq_getElem?_getD, List.getElem?_eq_none (by omega)]; rfl
    rw [z, h.zero]
    grind
  · have z : one.getD i 0 = 0 := by rw [List.getD_eq_getElem?_getD, List.getElem?_eq_none (by omega)]; rfl
    rw [z, h.zero]
    grind
theorem ser_set {xs : List Int} {k : Nat} {v : Int} (hk : k < xs.length) (hz : xs.getD k 0 = 0) : ser h (xs.set k v) = ser h xs + Ser.con (h.f v) * X k := Ser.ext_at fun n => by
  rw [Ser.add_at, Ser.con_mul_at]
  show h.f _ = h.f _ + h.f v * (if n = k then (1 : R) else 0)
  rw [getD_set]
  by_cases e : k = n
  · subst e
    rw [if_pos ⟨rfl, hk⟩, if_pos rfl, hz, h.zero]
    grind
  · rw [if_neg (fun q => e q.1), if_neg (fun q => e q.symm)]
    grind
/-- the rounds of a division -/
theorem how_inv (hp : Pm p) {one other : List Int} (hn : Nm p one) (hm : Nm p other) (hne : other ≠ []) (hl : other.getD (other.length - 1) 0 ≠ 0) :
    ∀ (m : Nat) (s : List Int × List Int), m ≤ one.length + 1 - other.length → s.1.length = one.length → s.2.length = one.length + 1 - other.length → Nm p s.1 → Nm p s.2 → ser h s.1 + ser h s.2 * ser h other = ser h one → (∀ k, m + other.length - 1 ≤ k → s.1.getD k 0 = 0) → (∀ k, k < m → s.2.getD k 0 = 0) →
    ∃ s', (List.range m).reverse.foldl (hoS p (back p (other.getD (other.length - 1) 0)) other) s = s' ∧ s'.1.length = one.length ∧ Nm p s'.2 ∧ ser h s'.1 + ser h s'.2 * ser h other = ser h one ∧ ∀ k, other.length - 1 ≤ k → s'.1.getD k 0 = 0
  | 0, s, _, l1, l2, n1, n2, e, z, z2 => ⟨s, rfl, l1, n2, e, fun k hk => z k (by omega)⟩
  | m + 1, s, hmm, l1, l2, n1, n2, e, z, z2 => by
    have h0 := hp.pos
    have pl : 0 < other.length := List.length_pos_iff.mpr hne
    have hlast := hm.getD h0 (other.length - 1)
    have bi := back_is (back_ne' hp hlast.1 hlast.2 hl)
    rw [List.range_succ, List.reverse_append, List.reverse_singleton, List.singleton_append, List.foldl_cons]
    generalize hb : back p (other.getD (other.length - 1) 0) = bk at bi ⊢
    have ob := md h0 (s.1.getD (m + other.length - 1) 0 * (bk : Int))
    have es : hoS p bk other s m = ((enumL other).foldl (fun acc w => acc.set (m + w.1) ((acc.getD (m + w.1) 0 - (s.1.getD (m + other.length - 1) 0 * (bk : Int)) % p * w.2) % p)) s.1, s.2.set m ((s.1.getD (m + other.length - 1) 0 * (bk : Int)) % p)) := rfl
    have fo : h.f ((s.1.getD (m + other.length - 1) 0 * (bk : Int)) % p) = h.f (s.1.getD (m + other.length - 1) 0) * h.f (bk : Int) := by rw [h.mod, h.mul]
    generalize (s.1.getD (m + other.length - 1) 0 * (bk : Int)) % p = often at es ob fo
    have em : (fun (acc : List Int) (w : Nat × Int) => acc.set (m + w.1) ((acc.getD (m + w.1) 0 - often * w.2) % p)) = fun acc w => acc.set (m + w.1) ((acc.getD (m + w.1) 0 + (-often) * w.2) % p) := by
      funext acc w
      rw [Int.neg_mul, Int.sub_eq_add_neg]
    rw [em] at es
    have r1 := round_ser h m (-often) other s.1 (by omega)
    have len1 : ((enumL other).foldl (fun acc w => acc.set (m + w.1) ((acc.getD (m + w.1) 0 + (-often) * w.2) % p)) s.1).length = s.1.length := foldl_len _ (fun acc x => List.length_set) _ _
    have nm1 : Nm p ((enumL other).foldl (fun acc w => acc.set (m + w.1) ((acc.getD (m + w.1) 0 + (-often) * w.2) % p)) s.1) := foldl_inv (Nm p) _ _ _ n1 fun b w _ hb => hb.set (md h0 _)
    rw [es]
    rw [← hb]
    refine how_inv hp hn hm hne hl m _ (by omega) (by rw [len1]; exact l1) (by rw [List.length_set]; exact l2) nm1 (n2.set ob) ?_ ?_ ?_
    · show ser h (List.foldl _ _ _) + ser h (s.2.set m often) * _ = _
      rw [r1, ser_set h (by omega) (z2 m (by omega)), h.neg, ← e]
      have q : Ser.con (-h.f often) = - Ser.con (h.f often) := Ser.ext_at fun n => by
        rw [Ser.neg_at]
        cases n with
        | zero => rfl
        | succ n => show (0 : R) = - 0; grind
      rw [q]
      grind
    · intro k hk
      refine nought_of h nm1 h0 ?_
      rw [r1, Ser.add_at, Ser.con_mul_at, X_mul, if_pos (by omega)]
      show h.f _ + h.f (-often) * h.f _ = 0
      by_cases hk2 : k = m + other.length - 1
      · subst hk2
        rw [h.neg, fo, show m + other.length - 1 - m = other.length - 1 by omega]
        have q : h.f (other.getD (other.length - 1) 0) * h.f (bk : Int) = 1 := by
          rw [← h.mul, ← h.mod, bi, h.one]
        grind
      · rw [z k (by omega), h.zero]
        have z3 : other.getD (k - m) 0 = 0 := by rw [List.getD_eq_getElem?_getD, List.getElem?_eq_none (by omega)]; rfl
        rw [z3, h.zero]
        grind
    · intro k hk
      show (s.2.set m often).getD k 0 = 0
      rw [getD_set, if_neg (fun q => by omega)]
      exact z2 k (by omega)
theorem how_ok (hp : Pm p) {one other : List Int} (hn : Nm p one) (hm : Nm p other) (hne : other ≠ []) (hl : other.getD (other.length - 1) 0 ≠ 0) (hle : other.length ≤ one.length + 1) :
    Nm p (howOften p one other) ∧ (howOften p one other).length ≤ one.length + 1 - other.length ∧ (add p (-1) one (mul p (howOften p one other) other)).length < other.length := by
  have h0 := hp.pos
  have pl : 0 < other.length := List.length_pos_iff.mpr hne
  obtain ⟨s', e, l1, n2, es, z⟩ := how_inv h hp hn hm hne hl (one.length + 1 - other.length) (one, List.replicate (one.length + 1 - other.length) 0) (Nat.le_refl _) rfl List.length_replicate hn (.rep0 h0 _) (by rw [ser_rep]; grind)
    (fun k hk => by rw [List.getD_eq_getElem?_getD, List.getElem?_eq_none (by show one.length ≤ k; omega)]; rfl)
    (fun k hk => by
      show (List.replicate _ (0 : Int)).getD k 0 = 0
      rw [List.getD_eq_getElem?_getD, List.getElem?_replicate]
      split <;> rfl)
  have e2 : howOften p one other = trim s'.2 := by
    unfold howOften howL
    rw [e]
  refine ⟨by rw [e2]; exact trim_nm n2, ?_, ?_⟩
  · unfold howOften
    refine Nat.le_trans (trim_len _) ?_
    have len : ∀ (l : List Nat) (s : List Int × List Int), (l.foldl (hoS p (back p (other.getD (other.length - 1) 0)) other) s).2.length = s.2.length := by
      intro l
      induction l with
      | nil => intro s; rfl
      | cons a l ih => intro s; rw [List.foldl_cons, ih]; exact List.length_set
    unfold howL
    rw [len, List.length_replicate]
    exact Nat.le_refl _
  · have le : (add p (-1) one (mul p (howOften p one other) other)).length ≤ other.length - 1 := by
      unfold add
      refine trim_len_of fun k hk => ?_
      have nm : Nm p (addL p (-1) one (mul p (howOften p one other) other)) := foldl_inv (Nm p) _ _ _ (hn.app (.rep0 h0 _)) fun b q _ hb => hb.set (md h0 _)
      refine nought_of h nm h0 ?_
      have q := ser_add h (t := -1) (one := one) (other := mul p (howOften p one other) other)
      unfold add at q
      rw [ser_trim] at q
      rw [q, ser_mul, e2, ser_trim, h.neg, h.one]
      have q2 : ser h one + Ser.con (-1) * (ser h s'.2 * ser h other) = ser h s'.1 := by
        have q3 : Ser.con (-1 : R) = -1 := Ser.ext_at fun n => by
          rw [Ser.neg_at]
          cases n with
          | zero => rfl
          | succ n => show (0 : R) = - 0; grind
        rw [q3, ← es]
        grind
      rw [q2]
      show h.f _ = 0
      rw [z k hk, h.zero]
    omega
end
end Dg
end
section
set_option linter.all false
/-! Elimination at a place: rows taken from rows. -/
namespace Dg
/-- numbers below p, the last one not nought -/
def Tp (p : Int) (xs : List Int) : Prop := Nm p xs ∧ (xs ≠ [] → xs.getD (xs.length - 1) 0 ≠ 0)
theorem Tp.nil {p : Int} : Tp p [] := ⟨.nil, fun z => absurd rfl z⟩
theorem Tp.trim {p : Int} {xs : List Int} (h : Nm p xs) : Tp p (trim xs) := ⟨trim_nm h, trim_last⟩
theorem Tp.add {p : Int} (hp : 0 < p) (t : Int) {one : List Int} (other : List Int) (h : Nm p one) : Tp p (add p t one other) := ⟨add_nm hp t other h, trim_last⟩
theorem how_ok' {p : Int} (hp : Pm p) {one other : List Int} (hn : Nm p one) (hm : Tp p other) (hne : other ≠ []) (hle : other.length ≤ one.length + 1) :
    Nm p (howOften p one other) ∧ (howOften p one other).length ≤ one.length + 1 - other.length ∧ (add p (-1) one (mul p (howOften p one other) other)).length < other.length := by
  obtain ⟨R, _, ⟨h⟩⟩ := hom_of hp
  exact how_ok h hp hn hm.1 hne (hm.2 hne) hle
theorem mul_len2 {p : Int} (hp : Pm p) (one other : List Int) : (mul p one other).length ≤ one.length + other.length - 1 := by
  obtain ⟨R, _, ⟨h⟩⟩ := hom_of hp
  exact mul_len' h hp.pos one other
abbrev Rows := List (List (List Int))
def at2 (rows : Rows) (k j : Nat) : List Int := (rows.getD k []).getD j []
/-- rows of one length, their items told -/
structure Rw (p : Int) (n w : Nat) (rows : Rows) : Prop where
  n : rows.length = n
  w : ∀ row ∈ rows, row.length = w
  tp : ∀ row ∈ rows, ∀ poly ∈ row, Tp p poly
theorem Rw.row {p : Int} {n w : Nat} {rows : Rows} (h : Rw p n w rows) {k : Nat} (hk : k < n) : rows.getD k [] ∈ rows := getD_mem (by rw [h.n]; exact hk)
theorem Rw.at {p : Int} {n w : Nat} {rows : Rows} (h : Rw p n w rows) {k j : Nat} (hk : k < n) (hj : j < w) : Tp p (at2 rows k j) := h.tp _ (h.row hk) _ (getD_mem (by rw [h.w _ (h.row hk)]; exact hj))
theorem less_len {p : Int} {q : List Int} {a b : List (List Int)} (h : a.length = b.length) : (lessOften p a q b).length = b.length := by
  unfold lessOften
  rw [List.length_map, List.length_zip, h, Nat.min_self]
theorem less_at {p : Int} {q : List Int} {a b : List (List Int)} {j : Nat} (ha : j < a.length) (hb : j < b.length) : (lessOften p a q b).getD j [] = add p (-1) (a.getD j []) (mul p q (b.getD j [])) := by
  unfold lessOften
  rw [List.getD_eq_getElem?_getD, List.getElem?_map, List.getElem?_eq_getElem (by rw [List.length_zip]; omega), List.getElem_zip, List.getD_eq_getElem?_getD (l := a), List.getElem?_eq_getElem ha, List.getD_eq_getElem?_getD (l := b), List.getElem?_eq_getElem hb]
  rfl
/-- the rows that a chain of steps makes -/
inductive Red (p : Int) : Rows → Rows → Prop
  | refl (rows : Rows) : Red p rows rows
  | step {a b : Rows} {k l : Nat} {q : List Int} : Red p a b → k ≠ l → k < b.length → l < b.length → Nm p q → Red p a (b.set k (lessOften p (b.getD k []) q (b.getD l [])))
theorem Rw.step {p : Int} {n w : Nat} {rows : Rows} (hp : Pm p) (h : Rw p n w rows) {k l : Nat} {q : List Int} (hk : k < n) (hl : l < n) : Rw p n w (rows.set k (lessOften p (rows.getD k []) q (rows.getD l []))) where
  n := by rw [List.length_set]; exact h.n
  w row hrow := by
    rcases List.mem_or_eq_of_mem_set hrow with hr | hr
    · exact h.w row hr
    · rw [hr, less_len (by rw [h.w _ (h.row hk), h.w _ (h.row hl)])]
      exact h.w _ (h.row hl)
  tp row hrow poly hpoly := by
    rcases List.mem_or_eq_of_mem_set hrow with hr | hr
    · exact h.tp row hr poly hpoly
    · rw [hr] at hpoly
      obtain ⟨w, hw, rfl⟩ := List.mem_map.mp hpoly
      exact Tp.add hp.pos _ _ (h.tp _ (h.row hk) _ (List.of_mem_zip hw).1).1
theorem set_at {α : Type} (d : α) (rows : List α) {k j : Nat} {r : α} (hk : k < rows.length) : (rows.set k r).getD j d = if k = j then r else rows.getD j d := by
  rw [getD_set]
  by_cases e : k = j
  · rw [if_pos ⟨e, hk⟩, if_pos e]
  · rw [if_neg (fun q => e q.1), if_neg e]
/-- the rows, each with a mark of its own behind it -/
def mark (n k : Nat) : List (List Int) := (List.range n).map fun j => trim [if k = j then 1 else 0]
def startRows (rows : Rows) : Rows := (enumL rows).map fun q => q.2 ++ mark rows.length q.1
/-- the rows that are not nought at the place -/
def someL (place : Nat) (rows : Rows) : List Nat := (List.range rows.length).filter fun k => !(at2 rows k place).isEmpty
theorem someL_mem {place : Nat} {rows : Rows} {k : Nat} : k ∈ someL place rows ↔ k < rows.length ∧ at2 rows k place ≠ [] := by
  unfold someL
  rw [List.mem_filter, List.mem_range]
  simp
theorem someL_nodup (place : Nat) (rows : Rows) : (someL place rows).Nodup := (List.filter_sublist (l := List.range rows.length)).nodup List.nodup_range
/-- lengths: E bounds the place, C the rest -/
def Ln (n w place C : Nat) (E : Nat) (rows : Rows) : Prop := (∀ k, k < n → (at2 rows k place).length ≤ E) ∧ ∀ k j, k < n → j < w → j ≠ place → (at2 rows k j).length + E ≤ C
def stp (p : Int) (place l : Nat) (rows : Rows) (k : Nat) : Rows := if k ≠ l then rows.set k (lessOften p (rows.getD k []) (howOften p (at2 rows k place) (at2 rows l place)) (rows.getD l [])) else rows
/-- one turn of the inner loop -/
structure Turn1 (p : Int) (n w place C E l : Nat) (S : List Nat) (r0 rows : Rows) (j : Nat) : Prop where
  rw : Rw p n w rows
  red : Red p r0 rows
  new : ∀ k ∈ S.take j, k ≠ l → (at2 rows k place).length < (at2 r0 l place).length ∧ ∀ i, i < w → i ≠ place → (at2 rows k i).length + (at2 r0 l place).length ≤ C
  old : ∀ k, ¬ (k ∈ S.take j ∧ k ≠ l) → rows.getD k [] = r0.getD k []
theorem turn_step {p : Int} {n w place C E l : Nat} {r0 rows : Rows} {j k : Nat} (hp : Pm p) (hw : place < w) (h0 : Rw p n w r0) (hln : Ln n w place C E r0) (hl : l ∈ someL place r0) (hmin : ∀ k ∈ someL place r0, (at2 r0 l place).length ≤ (at2 r0 k place).length)
    (h : Turn1 p n w place C E l (someL place r0) r0 rows j) (hk : (someL place r0)[j]? = some k) : Turn1 p n w place C E l (someL place r0) r0 (stp p place l rows k) (j + 1) := by
  have hkm := List.mem_of_getElem? hk
  have tk : (someL place r0).take (j + 1) = (someL place r0).take j ++ [k] := by rw [List.take_add_one, hk]; rfl
  have nk : k ∉ (someL place r0).take j := fun hm => by
    have nd := someL_nodup place r0
    rw [← List.take_append_drop j (someL place r0)] at nd
    have dr : k ∈ (someL place r0).drop j := by
      have e : ((someL place r0).drop j)[0]? = some k := by rw [List.getElem?_drop]; exact hk
      exact List.mem_of_getElem? e
    exact (List.nodup_append.mp nd).2.2 k hm k dr rfl
  obtain ⟨kn, kne⟩ := someL_mem.mp hkm
  obtain ⟨ln, lne⟩ := someL_mem.mp hl
  rw [h0.n] at kn ln
  have ek : rows.getD k [] = r0.getD k [] := h.old k fun z => nk z.1
  have el : rows.getD l [] = r0.getD l [] := h.old l fun z => z.2 rfl
  by_cases e : k = l
  · have es : stp p place l rows k = rows := by unfold stp; rw [if_neg (fun z => z e)]
    rw [es]
    refine ⟨h.rw, h.red, fun m hm hne => ?_, fun m hm => h.old m fun z => hm ⟨by rw [tk]; exact List.mem_append_left _ z.1, z.2⟩⟩
    rw [tk] at hm
    rcases List.mem_append.mp hm with hm | hm
    · exact h.new m hm hne
    · rw [List.mem_singleton.mp hm, e] at hne
      exact absurd rfl hne
  · have ak : at2 rows k place = at2 r0 k place := by unfold at2; rw [ek]
    have al : at2 rows l place = at2 r0 l place := by unfold at2; rw [el]
    have es : stp p place l rows k = rows.set k (lessOften p (rows.getD k []) (howOften p (at2 r0 k place) (at2 r0 l place)) (rows.getD l [])) := by
      unfold stp
      rw [if_pos e, ak, al]
    have tK := h0.at kn hw
    have tL := h0.at ln hw
    have mn := hmin k hkm
    obtain ⟨q1, q2, q3⟩ := how_ok' hp tK.1 tL lne (by omega)
    generalize howOften p (at2 r0 k place) (at2 r0 l place) = q at es q1 q2 q3
    rw [es]
    have hkr : k < rows.length := by rw [h.rw.n]; exact kn
    have wk := h.rw.w _ (h.rw.row kn)
    have wl := h.rw.w _ (h.rw.row ln)
    have newAt : ∀ i, i < w → at2 (rows.set k (lessOften p (rows.getD k []) q (rows.getD l []))) k i = add p (-1) (at2 r0 k i) (mul p q (at2 r0 l i)) := fun i hi => by
      unfold at2
      rw [set_at [] rows hkr, if_pos rfl, less_at (by omega) (by omega), ek, el]
    refine ⟨h.rw.step hp kn ln, .step h.red e hkr (by rw [h.rw.n]; exact ln) q1, fun m hm hne => ?_, fun m hm => ?_⟩
    · by_cases em : m = k
      · subst em
        refine ⟨?_, fun i hi hip => ?_⟩
        · rw [newAt place hw]
          exact q3
        · rw [newAt i hi]
          have a1 := add_len p (-1) (at2 r0 m i) (mul p q (at2 r0 l i))
          have a2 := mul_len2 hp q (at2 r0 l i)
          have a3 := hln.2 m i kn hi hip
          have a4 := hln.2 l i ln hi hip
          have a5 := hln.1 m kn
          have a6 : 0 < (at2 r0 l place).length := List.length_pos_iff.mpr lne
          omega
      · have hm' : m ∈ (someL place r0).take j := by
          rw [tk] at hm
          rcases List.mem_append.mp hm with hm | hm
          · exact hm
          · exact absurd (List.mem_singleton.mp hm) em
        have eq : ∀ i, at2 (rows.set k (lessOften p (rows.getD k []) q (rows.getD l []))) m i = at2 rows m i := fun i => by
          unfold at2
          rw [set_at [] rows hkr, if_neg (fun z => em z.symm)]
        obtain ⟨b1, b2⟩ := h.new m hm' hne
        exact ⟨by rw [eq]; exact b1, fun i hi hip => by rw [eq]; exact b2 i hi hip⟩
    · have em : m ≠ k := fun z => hm ⟨by rw [tk, z]; exact List.mem_append_right _ (List.mem_singleton.mpr rfl), by rw [z]; exact e⟩
      rw [set_at [] rows hkr, if_neg (fun z => em z.symm)]
      exact h.old m fun z => hm ⟨by rw [tk]; exact List.mem_append_left _ z.1, z.2⟩
/-- the sum of the lengths at the place -/
def sumAt (place : Nat) (rows : Rows) : Nat := (rows.map fun row => (row.getD place []).length).sum
theorem sum_lt : ∀ (xs ys : List Nat), xs.length = ys.length → (∀ i, xs.getD i 0 ≤ ys.getD i 0) → (∃ i, xs.getD i 0 < ys.getD i 0) → xs.sum < ys.sum
  | [], [], _, _, ⟨i, h⟩ => by simp at h
  | x :: xs, y :: ys, hl, hle, ⟨i, h⟩ => by
    have le0 := hle 0
    have les : ∀ i, xs.getD i 0 ≤ ys.getD i 0 := fun i => by simpa using hle (i + 1)
    have sle : xs.sum ≤ ys.sum := by
      clear h hle le0
      have hl : xs.length = ys.length := by simpa using hl
      induction xs generalizing ys with
      | nil => simp
      | cons a xs ih =>
        cases ys with
        | nil => simp at hl
        | cons b ys =>
          have q0 := les 0
          have q := ih ys (by simpa using hl) (fun i => by simpa using les (i + 1)) (by simpa using hl)
          simp only [List.sum_cons, List.getD_cons_zero] at q0 ⊢
          omega
    simp only [List.sum_cons]
    have le0 : x ≤ y := by simpa using le0
    cases i with
    | zero =>
      have h : x < y := by simpa using h
      omega
    | succ i =>
      have := sum_lt xs ys (by simpa using hl) les ⟨i, by simpa using h⟩
      omega
theorem Turn1.done {p : Int} {n w place C E l : Nat} {r0 rows : Rows} (hp : Pm p) (hw : place < w) (h0 : Rw p n w r0) (hln : Ln n w place C E r0) (hl : l ∈ someL place r0) (hmin : ∀ k ∈ someL place r0, (at2 r0 l place).length ≤ (at2 r0 k place).length)
    (h2 : 1 < (someL place r0).length) (h : Turn1 p n w place C E l (someL place r0) r0 rows (someL place r0).length) : Ln n w place C (at2 r0 l place).length rows ∧ sumAt place rows < sumAt place r0 := by
  obtain ⟨ln, lne⟩ := someL_mem.mp hl
  rw [h0.n] at ln
  have new := h.new
  have old := h.old
  rw [List.take_length] at new old
  have eL := hln.1 l ln
  have small : ∀ k, k < n → k ∉ someL place r0 → at2 r0 k place = [] := fun k hk hm => Classical.byContradiction fun z => hm (someL_mem.mpr ⟨by rw [h0.n]; exact hk, z⟩)
  have oldAt : ∀ k, ¬ (k ∈ someL place r0 ∧ k ≠ l) → ∀ i, at2 rows k i = at2 r0 k i := fun k hk i => by
    unfold at2
    rw [old k hk]
  refine ⟨⟨fun k hk => ?_, fun k j hk hj hne => ?_⟩, ?_⟩
  · by_cases hc : k ∈ someL place r0 ∧ k ≠ l
    · exact Nat.le_of_lt (new k hc.1 hc.2).1
    · rw [oldAt k hc]
      by_cases e : k = l
      · rw [e]
        exact Nat.le_refl _
      · rw [small k hk fun z => hc ⟨z, e⟩]
        exact Nat.zero_le _
  · by_cases hc : k ∈ someL place r0 ∧ k ≠ l
    · exact (new k hc.1 hc.2).2 j hj hne
    · rw [oldAt k hc]
      have := hln.2 k j hk hj hne
      omega
  · have ge : ∀ (rows : Rows) (i : Nat), (rows.map fun row => (row.getD place []).length).getD i 0 = (at2 rows i place).length := fun rows i => by
      unfold at2
      rw [List.getD_eq_getElem?_getD, List.getElem?_map]
      by_cases hi : i < rows.length
      · rw [List.getElem?_eq_getElem hi, List.getD_eq_getElem?_getD (l := rows), List.getElem?_eq_getElem hi]
        rfl
      · rw [List.getElem?_eq_none (by omega), List.getD_eq_getElem?_getD (l := rows), List.getElem?_eq_none (by omega)]
        rfl
    refine sum_lt _ _ (by rw [List.length_map, List.length_map, h.rw.n, h0.n]) (fun i => ?_) ?_
    · rw [ge, ge]
      by_cases hc : i ∈ someL place r0 ∧ i ≠ l
      · have := (new i hc.1 hc.2).1
        have := hmin i hc.1
        omega
      · rw [oldAt i hc]
        exact Nat.le_refl _
    · obtain ⟨k, hk, hne⟩ : ∃ k ∈ someL place r0, k ≠ l := by
        refine Classical.byContradiction fun z => ?_
        have all : ∀ k ∈ someL place r0, k = l := fun k hk => Classical.byContradiction fun ne => z ⟨k, hk, ne⟩
        have nd := someL_nodup place r0
        match hs : someL place r0 with
        | [] => rw [hs] at h2; simp at h2
        | [a] => rw [hs] at h2; simp at h2
        | a :: b :: t =>
          rw [hs] at all nd
          have ea := all a (by simp)
          have eb := all b (by simp)
          rw [ea, eb] at nd
          simp at nd
      refine ⟨k, ?_⟩
      rw [ge, ge]
      have := (new k hk hne).1
      have := hmin k hk
      omega
theorem red_trans {p : Int} {a b c : Rows} (h1 : Red p a b) (h2 : Red p b c) : Red p a c := by
  induction h2 with
  | refl => exact h1
  | step _ hne hk hl hq ih => exact .step ih hne hk hl hq
def lefts (place : Nat) (rows : Rows) : Rows := ((List.range rows.length).filter fun k => !decide (k ∈ someL place rows)).map fun k => rows.getD k []
/-- the places below pl are done -/
inductive Elim (p : Int) : Nat → Rows → Rows → Prop
  | zero (a : Rows) : Elim p 0 a a
  | succ {pl : Nat} {a b c : Rows} : Elim p pl a b → Red p b c → Elim p (pl + 1) a (lefts pl c)
theorem lefts_mem {place : Nat} {rows : Rows} {row : List (List Int)} (h : row ∈ lefts place rows) : ∃ k, k < rows.length ∧ at2 rows k place = [] ∧ rows.getD k [] = row := by
  obtain ⟨k, hk, rfl⟩ := List.mem_map.mp h
  obtain ⟨h1, h2⟩ := List.mem_filter.mp hk
  rw [List.mem_range] at h1
  refine ⟨k, h1, Classical.byContradiction fun z => ?_, rfl⟩
  have := someL_mem.mpr ⟨h1, z⟩
  simp [this] at h2
theorem lefts_rw {p : Int} {n w place : Nat} {rows : Rows} (h : Rw p n w rows) : Rw p (lefts place rows).length w (lefts place rows) where
  n := rfl
  w row hrow := by
    obtain ⟨k, hk, _, rfl⟩ := lefts_mem hrow
    exact h.w _ (getD_mem hk)
  tp row hrow := by
    obtain ⟨k, hk, _, rfl⟩ := lefts_mem hrow
    exact h.tp _ (getD_mem hk)
theorem filter_split {α : Type} (l : List α) (f : α → Bool) : (l.filter f).length + (l.filter fun x => !f x).length = l.length := by
  induction l with
  | nil => rfl
  | cons a l ih =>
    rw [List.filter_cons, List.filter_cons, List.length_cons]
    cases f a <;> simp <;> omega
theorem lefts_len {place : Nat} {rows : Rows} (h : (someL place rows).length ≤ 1) : rows.length ≤ (lefts place rows).length + 1 ∧ (lefts place rows).length ≤ rows.length := by
  unfold lefts
  rw [List.length_map]
  have e : (List.range rows.length).filter (fun k => decide (k ∈ someL place rows)) = someL place rows := by
    show _ = (List.range rows.length).filter _
    apply List.filter_congr
    intro k hk
    rw [List.mem_range] at hk
    rw [Bool.eq_iff_iff, decide_eq_true_iff, someL_mem]
    simp [hk]
  have q := filter_split (List.range rows.length) (fun k => decide (k ∈ someL place rows))
  rw [e, List.length_range] at q
  omega
theorem lefts_at {place : Nat} {rows : Rows} {k : Nat} (hk : k < (lefts place rows).length) : ∃ m, m < rows.length ∧ at2 rows m place = [] ∧ (lefts place rows).getD k [] = rows.getD m [] := by
  obtain ⟨m, h1, h2, h3⟩ := lefts_mem (getD_mem (d := []) hk)
  exact ⟨m, h1, h2, h3.symm⟩
theorem startRows_rw {p : Int} (hp : Pm p) {n w : Nat} {rows : Rows} (h : Rw p n w rows) : Rw p n (w + n) (startRows rows) where
  n := by unfold startRows; rw [List.length_map, enumL_length]; exact h.n
  w row hrow := by
    obtain ⟨q, hq, rfl⟩ := List.mem_map.mp hrow
    rw [List.length_append, h.w _ (enumL_mem hq).2.2]
    unfold mark
    rw [List.length_map, List.length_range, h.n]
  tp row hrow poly hpoly := by
    obtain ⟨q, hq, rfl⟩ := List.mem_map.mp hrow
    rcases List.mem_append.mp hpoly with hm | hm
    · exact h.tp _ (enumL_mem hq).2.2 _ hm
    · obtain ⟨j, _, rfl⟩ := List.mem_map.mp hm
      refine Tp.trim fun x hx => ?_
      have := hp.two
      rw [List.mem_singleton.mp hx]
      split <;> omega
/-- all lengths -/
def Al2 (M : Nat) (rows : Rows) : Prop := ∀ row ∈ rows, ∀ poly ∈ row, poly.length ≤ M
theorem Al2.at {p : Int} {n w M : Nat} {rows : Rows} (h : Al2 M rows) (r : Rw p n w rows) {k j : Nat} (hk : k < n) (hj : j < w) : (at2 rows k j).length ≤ M := h _ (r.row hk) _ (getD_mem (by rw [r.w _ (r.row hk)]; exact hj))
theorem startRows_al {M : Nat} {rows : Rows} (h : Al2 M rows) (hM : 1 ≤ M) : Al2 M (startRows rows) := fun row hrow poly hpoly => by
  obtain ⟨q, hq, rfl⟩ := List.mem_map.mp hrow
  rcases List.mem_append.mp hpoly with hm | hm
  · exact h _ (enumL_mem hq).2.2 _ hm
  · obtain ⟨j, _, rfl⟩ := List.mem_map.mp hm
    exact Nat.le_trans (trim_len _) hM
theorem lefts_al {p : Int} {n w place C : Nat} {rows : Rows} (r : Rw p n w rows) (h : ∀ k j, k < n → j < w → j ≠ place → (at2 rows k j).length ≤ C) : Al2 C (lefts place rows) := fun row hrow poly hpoly => by
  obtain ⟨k, hk, hz, rfl⟩ := lefts_mem hrow
  obtain ⟨j, hj, rfl⟩ := List.mem_iff_getElem.mp hpoly
  have kn : k < n := by rw [← r.n]; exact hk
  have wj : j < w := by rw [← r.w _ (r.row kn)]; exact hj
  have ea : (rows.getD k [])[j] = at2 rows k j := by
    unfold at2
    rw [List.getD_eq_getElem?_getD (i := j), List.getElem?_eq_getElem hj]
    rfl
  rw [ea]
  by_cases e : j = place
  · rw [e, hz]
    exact Nat.zero_le _
  · exact h k j kn wj e
end Dg
end
section
set_option linter.all false
/-! Parts taken of polynomials whose first is nought. -/
namespace Dg
inductive Beg (p : Int) : List (List Int) → List (List Int) → Prop
  | refl (a : List (List Int)) : Beg p a a
  | step {a b : List (List Int)} {r : Nat} : Beg p a b → b.getD 0 [] = [] → r < p.toNat → Beg p a ((b.drop 1).map fun g => part p g r)
theorem part_ne {p : Int} (hp : 0 < p) {g : List Int} (h : Tp p g) (hne : g ≠ []) : ∃ r, r < p.toNat ∧ part p g r ≠ [] := by
  have hl := h.2 hne
  refine ⟨(g.length - 1) % p.toNat, Nat.mod_lt _ (by omega), fun z => ?_⟩
  have q : (part p g ((g.length - 1) % p.toNat)).getD ((g.length - 1) / p.toNat) 0 = g.getD (g.length - 1) 0 := by
    unfold part
    rw [trim_getD, stepL_getD _ (by omega)]
    congr 1
    have := Nat.mod_add_div (g.length - 1) p.toNat
    rw [Nat.mul_comm]
    exact this
  rw [z] at q
  exact hl (by rw [← q]; rfl)
theorem part_tp {p : Int} {g : List Int} (h : Tp p g) (r : Nat) : Tp p (part p g r) := by
  refine Tp.trim fun x hx => ?_
  unfold stepL at hx
  obtain ⟨m, _, e⟩ := List.mem_filterMap.mp hx
  exact h.1 x (List.mem_of_getElem? e)
theorem part_len (p : Int) (g : List Int) (r : Nat) : (part p g r).length ≤ g.length := Nat.le_trans (trim_len _) (stepL_len _ _ _)
/-- what a round keeps -/
theorem beg_step {p : Int} (hp : 0 < p) {b : List (List Int)} {r : Nat} (hb : ∀ g ∈ b, Tp p g ∧ g.length ≤ 10000) (h0 : b.getD 0 [] = []) (hr : ∃ g ∈ b, part p g r ≠ []) :
    (∀ g ∈ (b.drop 1).map (fun g => part p g r), Tp p g ∧ g.length ≤ 10000) ∧ ((b.drop 1).map fun g => part p g r).length < b.length ∧ ∃ g ∈ (b.drop 1).map (fun g => part p g r), g ≠ [] := by
  obtain ⟨g, hg, hne⟩ := hr
  cases b with
  | nil => cases hg
  | cons a b =>
    have h0 : a = [] := h0
    refine ⟨fun g hg => ?_, by rw [List.length_map, List.drop_one, List.tail_cons, List.length_cons]; omega, ?_⟩
    · obtain ⟨u, hu, rfl⟩ := List.mem_map.mp hg
      have := hb u (List.mem_cons_of_mem _ hu)
      exact ⟨part_tp this.1 r, Nat.le_trans (part_len _ _ _) this.2⟩
    · rcases List.mem_cons.mp hg with e | hm
      · rw [e, h0] at hne
        have z := part_len p [] r
        exact absurd (List.length_eq_zero_iff.mp (by simpa using z)) hne
      · exact ⟨_, List.mem_map.mpr ⟨g, hm, rfl⟩, hne⟩
end Dg
end
section
set_option linter.all false
/-! Rows of series that are nought; lines with leads. -/
namespace Dg
open Lean.Grind
/-- a fold that sets each of the first n items -/
theorem fold_range {α : Type} (d : α) (g : Nat → α → α) : ∀ (n : Nat) (acc : List α), n ≤ acc.length → ((List.range n).foldl (fun acc j => acc.set j (g j (acc.getD j d))) acc).length = acc.length ∧
    ∀ j, ((List.range n).foldl (fun acc j => acc.set j (g j (acc.getD j d))) acc).getD j d = if j < n then g j (acc.getD j d) else acc.getD j d
  | 0, acc, _ => ⟨rfl, fun j => by rw [if_neg (by omega)]; rfl⟩
  | n + 1, acc, hn => by
    obtain ⟨l, e⟩ := fold_range d g n acc (by omega)
    rw [List.range_succ, List.foldl_append]
    refine ⟨by rw [List.foldl_cons, List.foldl_nil, List.length_set, l], fun j => ?_⟩
    rw [List.foldl_cons, List.foldl_nil, getD_set, l]
    by_cases h1 : n = j
    · subst h1
      rw [if_pos ⟨rfl, by omega⟩, e n, if_neg (Nat.lt_irrefl n), if_pos (Nat.lt_succ_self n)]
    · rw [if_neg (fun z => h1 z.1), e j]
      by_cases h2 : j < n
      · rw [if_pos h2, if_pos (by omega)]
      · rw [if_neg h2, if_neg (by omega)]
theorem wovenS_at {p : Int} {steps : List (List (List Int))} {n : Nat} {acc : List (List Int)} {q : Nat × List Int} (hn : n ≤ acc.length) : (wovenS p steps n acc q).length = acc.length ∧ ∀ j, (wovenS p steps n acc q).getD j [] = if j < n then add p 1 (acc.getD j []) (mul p q.2 (lineOf steps q.1 j)) else acc.getD j [] :=
  fold_range [] (fun j a => add p 1 a (mul p q.2 (lineOf steps q.1 j))) n acc hn
section
variable {R : Type} [CommRing R] {p : Int} (h : Hom R p)
theorem con_one : Ser.con (1 : R) = 1 := Ser.ext_at fun n => by
  cases n with
  | zero => rfl
  | succ n => rfl
theorem ser_add1 {one other : List Int} : ser h (add p 1 one other) = ser h one + ser h other := by
  rw [ser_add, h.one, con_one]
  grind
theorem woven_go {steps : List (List (List Int))} {n : Nat} : ∀ (ys : List (List Int)) (s : Nat) (acc : List (List Int)), n ≤ acc.length →
    (((List.range' s ys.length).zip ys).foldl (wovenS p steps n) acc).length = acc.length ∧ ∀ j, j < n → ser h ((((List.range' s ys.length).zip ys).foldl (wovenS p steps n) acc).getD j []) = ser h (acc.getD j []) + sumTo ys.length (fun i => ser h (ys.getD i []) * ser h (lineOf steps (s + i) j))
  | [], s, acc, _ => ⟨rfl, fun j _ => by
    show ser h (acc.getD j []) = _
    rw [List.length_nil, sumTo_zero]
    grind⟩
  | y :: ys, s, acc, hn => by
    obtain ⟨l1, e1⟩ := wovenS_at (p := p) (steps := steps) (q := (s, y)) hn
    obtain ⟨l2, e2⟩ := woven_go ys (s + 1) (wovenS p steps n acc (s, y)) (by rw [l1]; exact hn)
    rw [List.length_cons, List.range'_succ, List.zip_cons_cons, List.foldl_cons]
    refine ⟨by rw [l2, l1], fun j hj => ?_⟩
    rw [e2 j hj, e1 j, if_pos hj, ser_add1, ser_mul, sumTo_head]
    have e : sumTo ys.length (fun i => ser h (ys.getD i []) * ser h (lineOf steps (s + 1 + i) j)) = sumTo ys.length (fun i => ser h ((y :: ys).getD (i + 1) []) * ser h (lineOf steps (s + (i + 1)) j)) := sumTo_congr fun i _ => by
      rw [show s + 1 + i = s + (i + 1) by omega]
      rfl
    rw [← e]
    show _ = _ + (ser h y * ser h (lineOf steps (s + 0) j) + _)
    rw [Nat.add_zero]
    grind
theorem woven_ser {steps : List (List (List Int))} {row : List (List Int)} : (woven p row steps).length = row.length ∧ ∀ j, j < row.length → ser h ((woven p row steps).getD j []) = sumTo row.length (fun i => ser h (row.getD i []) * ser h (lineOf steps i j)) := by
  unfold woven
  rw [enumL_eq]
  obtain ⟨l, e⟩ := woven_go h (steps := steps) (n := row.length) row 0 (row.map fun _ => []) (by rw [List.length_map]; exact Nat.le_refl _)
  refine ⟨by rw [l, List.length_map], fun j hj => ?_⟩
  have z : (row.map fun _ => ([] : List Int)).getD j [] = [] := by
    rw [List.getD_eq_getElem?_getD, List.getElem?_map]
    cases row[j]? <;> rfl
  rw [e j hj, z, ser_nil]
  have q : sumTo row.length (fun i => ser h (row.getD i []) * ser h (lineOf steps (0 + i) j)) = sumTo row.length (fun i => ser h (row.getD i []) * ser h (lineOf steps i j)) := sumTo_congr fun i _ => by rw [Nat.zero_add]
  rw [q]
  grind
/-- the base rows: how they go on, how they begin -/
structure Sys (steps : List (List (List Int))) (firsts : List Int) (F : Nat → Ser R) : Prop where
  rec_ : ∀ i, i < firsts.length → F i = sumTo firsts.length (fun j => ser h (lineOf steps i j) * spr p.toNat (F j))
  ini : ∀ j, j < firsts.length → (F j).at_ 0 = h.f (firsts.getD j 0)
def Nt (F : Nat → Ser R) (m : Nat) (row : List (List Int)) : Prop := sumTo m (fun j => ser h (row.getD j []) * F j) = 0
theorem nt_parts {steps : List (List (List Int))} {firsts : List Int} {F : Nat → Ser R} (hp : 0 < p) (S : Sys h steps firsts F) {row : List (List Int)} (hl : row.length = firsts.length) (hn : Nt h F firsts.length row) {r : Nat} (hr : r < p.toNat) : Nt h F firsts.length (partRow p (woven p row steps) r) := by
  obtain ⟨wl, we⟩ := woven_ser h (steps := steps) (row := row)
  have e1 : sumTo firsts.length (fun j => ser h ((woven p row steps).getD j []) * spr p.toNat (F j)) = 0 := by
    have a : sumTo firsts.length (fun j => ser h ((woven p row steps).getD j []) * spr p.toNat (F j)) = sumTo firsts.length (fun j => sumTo firsts.length (fun i => ser h (row.getD i []) * ser h (lineOf steps i j) * spr p.toNat (F j))) := sumTo_congr fun j hj => by
      rw [we j (by omega), hl, ← sumTo_mulr]
    rw [a, sumTo_swap, ← hn]
    refine sumTo_congr fun i hi => ?_
    rw [S.rec_ i hi]
    rw [← sumTo_mul]
    refine sumTo_congr fun j hj => ?_
    grind
  have e2 := congrArg (sec p.toNat r) e1
  rw [sec_sum, sec_zero] at e2
  unfold Nt
  rw [← e2]
  refine sumTo_congr fun j hj => ?_
  rw [sec_mul_spr hr]
  congr 1
  unfold partRow
  rw [List.getD_eq_getElem?_getD, List.getElem?_map, List.getElem?_eq_getElem (by omega)]
  show ser h (part p _ r) = _
  rw [ser_part h hp, List.getD_eq_getElem?_getD, List.getElem?_eq_getElem (by omega)]
  rfl
end
/-! ### lines with leads -/
theorem nodup_le : ∀ (V : Nat) (l : List Nat), l.Nodup → (∀ x ∈ l, x < V) → l.length ≤ V
  | 0, [], _, _ => Nat.le_refl _
  | 0, a :: _, _, h => absurd (h a List.mem_cons_self) (Nat.not_lt_zero _)
  | V + 1, l, nd, h => by
    have q := nodup_le V (l.filter fun x => decide (x ≠ V)) (List.filter_sublist.nodup nd) fun x hx => by
      obtain ⟨h1, h2⟩ := List.mem_filter.mp hx
      have := h x h1
      have := _root_.of_decide_eq_true h2
      omega
    have c : ∀ l : List Nat, l.Nodup → l.length ≤ (l.filter fun x => decide (x ≠ V)).length + 1 := by
      intro l
      induction l with
      | nil => intro _; exact Nat.zero_le _
      | cons a l ih =>
        intro nd
        obtain ⟨n1, n2⟩ := List.nodup_cons.mp nd
        rw [List.filter_cons, List.length_cons]
        by_cases e : a = V
        · have all : l.filter (fun x => decide (x ≠ V)) = l := List.filter_eq_self.mpr fun x hx => by
            apply _root_.decide_eq_true
            intro z
            rw [z, ← e] at hx
            exact n1 hx
          rw [if_neg (by simp [e]), all]
          exact Nat.le_refl _
        · rw [if_pos (by simp [e]), List.length_cons]
          have := ih n2
          omega
    have := c l nd
    omega
theorem leftS_len {p : Int} {l : List Int} {q : Nat × List Int} (h : q.2.length = l.length) : (leftS p l q).length = l.length := by
  unfold leftS
  rw [List.length_map, List.length_zip, h, Nat.min_self]
theorem leftS_at {p : Int} {l : List Int} {q : Nat × List Int} {t : Nat} (h : q.2.length = l.length) (ht : t < l.length) : (leftS p l q).getD t 0 = (l.getD t 0 - l.getD q.1 0 * q.2.getD t 0) % p := by
  unfold leftS
  rw [List.getD_eq_getElem?_getD, List.getElem?_map, List.getElem?_eq_getElem (by rw [List.length_zip]; omega), List.getElem_zip, List.getD_eq_getElem?_getD (l := l) (i := t), List.getElem?_eq_getElem ht, List.getD_eq_getElem?_getD (l := q.2), List.getElem?_eq_getElem (by omega)]
  rfl
structure Lines (p : Int) (V : Nat) (lines : List (Nat × List Int)) : Prop where
  wf : ∀ q ∈ lines, q.1 < V ∧ q.2.length = V ∧ Nm p q.2
  one : ∀ (i : Nat) q, lines[i]? = some q → q.2.getD q.1 0 = 1
  zero : ∀ (i j : Nat) q u, lines[i]? = some q → lines[j]? = some u → i < j → u.2.getD q.1 0 = 0
theorem Lines.nil {p : Int} {V : Nat} : Lines p V [] := ⟨(fun _ h => absurd h (by simp)), (fun i q e => absurd e (by simp)), (fun i j q u e => absurd e (by simp))⟩
theorem leftL_ok {p : Int} (hp : 0 < p) {V : Nat} {lines : List (Nat × List Int)} (h : Lines p V lines) {v : List Int} (hv : v.length = V) (hn : Nm p v) : (leftL p lines v).length = V ∧ Nm p (leftL p lines v) ∧ ∀ q ∈ lines, (leftL p lines v).getD q.1 0 = 0 := by
  have go : ∀ k, k ≤ lines.length → ((lines.take k).foldl (leftS p) v).length = V ∧ Nm p ((lines.take k).foldl (leftS p) v) ∧ ∀ (i : Nat) q, i < k → lines[i]? = some q → ((lines.take k).foldl (leftS p) v).getD q.1 0 = 0 := by
    intro k
    induction k with
    | zero => intro _; exact ⟨hv, hn, fun i q hi => absurd hi (Nat.not_lt_zero _)⟩
    | succ k ih =>
      intro hk
      obtain ⟨a, b, c⟩ := ih (by omega)
      have hx : lines[k]? = some lines[k] := by simp [show k < lines.length by omega]
      rw [List.take_add_one, hx, Option.toList_some, List.foldl_append, List.foldl_cons, List.foldl_nil]
      generalize (lines.take k).foldl (leftS p) v = l at a b c
      obtain ⟨w1, w2, w3⟩ := h.wf lines[k] (List.getElem_mem _)
      refine ⟨by rw [leftS_len (by omega)]; exact a, fun x hx => ?_, fun i q hi hq => ?_⟩
      · obtain ⟨w, _, rfl⟩ := List.mem_map.mp hx
        exact md hp _
      · have qV := (h.wf q (List.mem_of_getElem? hq)).1
        rw [leftS_at (by omega) (by omega)]
        by_cases e : i = k
        · subst e
          rw [hx] at hq
          have hq := Option.some.inj hq
          subst hq
          rw [h.one i _ hx, Int.mul_one, Int.sub_self]
          exact Int.zero_emod _
        · rw [c i q (by omega) hq, h.zero i k q _ hq hx (by omega), Int.mul_zero, Int.sub_zero]
          exact Int.zero_emod _
  obtain ⟨a, b, c⟩ := go lines.length (Nat.le_refl _)
  rw [List.take_length] at a b c
  refine ⟨a, b, fun q hq => ?_⟩
  obtain ⟨i, hi⟩ := List.mem_iff_getElem?.mp hq
  exact c i q (List.getElem?_eq_some_iff.mp hi).1 hi
/-- the next line -/
theorem Lines.snoc {p : Int} (hp : Pm p) {V : Nat} {lines : List (Nat × List Int)} (h : Lines p V lines) {l : List Int} (hl : l.length = V) (hn : Nm p l) (hz : ∀ q ∈ lines, l.getD q.1 0 = 0) {t : Nat} (ht : t < V) (hne : l.getD t 0 ≠ 0) :
    Lines p V (lines ++ [(t, l.map fun n => n * (back p (l.getD t 0) : Int) % p)]) := by
  have p0 := hp.pos
  have mapAt : ∀ k, k < V → (l.map fun n => n * (back p (l.getD t 0) : Int) % p).getD k 0 = l.getD k 0 * (back p (l.getD t 0) : Int) % p := fun k hk => by
    rw [List.getD_eq_getElem?_getD, List.getElem?_map, List.getElem?_eq_getElem (by omega), List.getD_eq_getElem?_getD (l := l) (i := k), List.getElem?_eq_getElem (by omega)]
    rfl
  have new : ∀ (i : Nat) q, (lines ++ [(t, l.map fun n => n * (back p (l.getD t 0) : Int) % p)])[i]? = some q → (i < lines.length ∧ lines[i]? = some q) ∨ (i = lines.length ∧ q = (t, l.map fun n => n * (back p (l.getD t 0) : Int) % p)) := fun i q e => by
    by_cases hi : i < lines.length
    · rw [List.getElem?_append_left hi] at e
      exact .inl ⟨hi, e⟩
    · rw [List.getElem?_append_right (by omega)] at e
      have hi2 : i - lines.length = 0 := by
        have := (List.getElem?_eq_some_iff.mp e).1
        rw [List.length_singleton] at this
        omega
      rw [hi2] at e
      exact .inr ⟨by omega, (Option.some.inj e).symm⟩
  refine ⟨fun q hq => ?_, fun i q e => ?_, fun i j q u e1 e2 hij => ?_⟩
  · rcases List.mem_append.mp hq with hq | hq
    · exact h.wf q hq
    · rw [List.mem_singleton.mp hq]
      refine ⟨ht, by rw [List.length_map]; exact hl, fun x hx => ?_⟩
      obtain ⟨w, _, rfl⟩ := List.mem_map.mp hx
      exact md p0 _
  · rcases new i q e with ⟨_, e⟩ | ⟨_, rfl⟩
    · exact h.one i q e
    · rw [mapAt t ht]
      have hb := hn.getD p0 t
      exact back_is (back_ne' hp hb.1 hb.2 hne)
  · rcases new i q e1 with ⟨hi, e1⟩ | ⟨hi, rfl⟩
    · rcases new j u e2 with ⟨hj, e2⟩ | ⟨hj, rfl⟩
      · exact h.zero i j q u e1 e2 hij
      · have hm := List.mem_of_getElem? e1
        rw [mapAt _ (h.wf q hm).1, hz q hm, Int.zero_mul]
        exact Int.zero_emod _
    · rcases new j u e2 with ⟨hj, e2⟩ | ⟨hj, _⟩ <;> omega
theorem Lines.len {p : Int} {V : Nat} {lines : List (Nat × List Int)} (h : Lines p V lines) : lines.length ≤ V := by
  rw [← List.length_map (f := Prod.fst)]
  refine nodup_le V _ ?_ fun x hx => ?_
  · rw [List.Nodup, List.pairwise_iff_getElem]
    intro i j hi hj hij e
    rw [List.getElem_map, List.getElem_map] at e
    rw [List.length_map] at hi hj
    have z := h.zero i j lines[i] lines[j] (by simp) (by simp) hij
    have o := h.one j lines[j] (by simp)
    rw [e] at z
    omega
  · obtain ⟨q, hq, rfl⟩ := List.mem_map.mp hx
    exact (h.wf q hq).1
/-! ### what the checker carries -/
structure Nought (p : Int) (rows : Rows) (steps : List (List (List Int))) (firsts : List Int) : Prop where
  pm : Pm p
  m5 : firsts.length ≤ 5
  nr : rows.length ≤ 32
  ns : steps.length ≤ 5
  sp : steps.length ≤ p.toNat
  st : ∀ s ∈ steps, s.length = firsts.length ∧ ∀ r ∈ s, r.length = firsts.length ∧ Nm p r
  row : ∀ row ∈ rows, row.length = firsts.length ∧ Po p 5000 row
  sys : ∃ (R : Type) (_ : CommRing R) (h : Hom R p) (F : Nat → Ser R), Sys h steps firsts F ∧ ∀ row ∈ rows, Nt h F firsts.length row
def mx (W : Nat) (row : List (List Int)) : Nat := row.foldl (fun a poly => max a poly.length) W
theorem mx_ok : ∀ (row : List (List Int)) (W : Nat), (mx W row = W ∨ ∃ g ∈ row, g.length = mx W row) ∧ W ≤ mx W row ∧ ∀ g ∈ row, g.length ≤ mx W row
  | [], W => ⟨.inl rfl, Nat.le_refl _, fun g hg => by cases hg⟩
  | a :: row, W => by
    obtain ⟨h1, h2, h3⟩ := mx_ok row (max W a.length)
    have e : mx W (a :: row) = mx (max W a.length) row := rfl
    rw [e]
    refine ⟨?_, by omega, fun g hg => ?_⟩
    · rcases h1 with h1 | ⟨g, hg, h1⟩
      · rw [h1]
        rcases Nat.le_total W a.length with l | l
        · exact .inr ⟨a, List.mem_cons_self, by omega⟩
        · exact .inl (by omega)
      · exact .inr ⟨g, List.mem_cons_of_mem _ hg, h1⟩
    · rcases List.mem_cons.mp hg with rfl | hg
      · omega
      · exact h3 g hg
def flat (W : Nat) (row : List (List Int)) : List Int := row.flatMap fun poly => poly ++ List.replicate (W - poly.length) 0
theorem flat_len {W : Nat} : ∀ {row : List (List Int)}, (∀ g ∈ row, g.length ≤ W) → (flat W row).length = row.length * W
  | [], _ => by unfold flat; simp
  | a :: row, h => by
    have ih := flat_len (row := row) fun g hg => h g (List.mem_cons_of_mem _ hg)
    have ha := h a List.mem_cons_self
    unfold flat at ih ⊢
    rw [List.flatMap_cons, List.length_append, ih, List.length_append, List.length_replicate, List.length_cons, Nat.succ_mul]
    omega
theorem flat_nm {p : Int} (hp : 0 < p) {W : Nat} {row : List (List Int)} (h : ∀ g ∈ row, Nm p g) : Nm p (flat W row) := fun x hx => by
  obtain ⟨g, hg, hx⟩ := List.mem_flatMap.mp hx
  exact (h g hg).app (.rep0 hp _) x hx
section
variable {R : Type} [CommRing R] {p : Int} (h : Hom R p)
include h
theorem sum_f : ∀ (row : List (List Int)) (firsts : List Int), row.length = firsts.length → h.f ((((row.zip firsts).filter fun w => !w.1.isEmpty).map fun w => w.1.getD 0 0 * w.2).sum) = sumTo firsts.length (fun j => h.f ((row.getD j []).getD 0 0) * h.f (firsts.getD j 0))
  | [], [], _ => h.zero
  | a :: row, b :: firsts, hl => by
    have ih := sum_f row firsts (by simpa using hl)
    rw [List.length_cons, sumTo_head, List.zip_cons_cons, List.filter_cons]
    have e : sumTo firsts.length (fun i => h.f (((a :: row).getD (i + 1) []).getD 0 0) * h.f ((b :: firsts).getD (i + 1) 0)) = sumTo firsts.length (fun j => h.f ((row.getD j []).getD 0 0) * h.f (firsts.getD j 0)) := rfl
    rw [e, ← ih]
    show _ = h.f (a.getD 0 0) * h.f b + _
    cases a with
    | nil =>
      rw [if_neg (by simp)]
      have z : h.f (([] : List Int).getD 0 0) = 0 := h.zero
      rw [z]
      grind
    | cons c a =>
      rw [if_pos (by simp), List.map_cons, List.sum_cons, h.add, h.mul]
theorem nought_sum {steps : List (List (List Int))} {firsts : List Int} {F : Nat → Ser R} (hp : 0 < p) (S : Sys h steps firsts F) {row : List (List Int)} (hl : row.length = firsts.length) (hn : Nt h F firsts.length row) :
    (((row.zip firsts).filter fun w => !w.1.isEmpty).map fun w => w.1.getD 0 0 * w.2).sum % p = 0 := by
  have b := md hp (((row.zip firsts).filter fun w => !w.1.isEmpty).map fun w => w.1.getD 0 0 * w.2).sum
  refine h.inj _ b.1 b.2 ?_
  rw [h.mod, sum_f h row firsts hl]
  have e := congrArg (fun s : Ser R => s.at_ 0) hn
  have e : (sumTo firsts.length (fun j => ser h (row.getD j []) * F j)).at_ 0 = (0 : Ser R).at_ 0 := e
  rw [Ser.sum_at, Ser.zero_at] at e
  rw [← e]
  refine sumTo_congr fun j hj => ?_
  rw [Ser.mul_at, sumTo_succ, sumTo_zero, Nat.sub_zero, S.ini j hj]
  show _ = 0 + h.f _ * _
  grind
end
theorem woven_lens {p : Int} (hp : Pm p) {steps : List (List (List Int))} (hs : steps.length ≤ p.toNat) {W : Nat} {row : List (List Int)} (hr : Po p W row) : ∀ g ∈ woven p row steps, g.length ≤ W + p.toNat - 1 ∧ Nm p g := by
  have p2 := hp.two
  unfold woven
  refine foldl_inv (fun acc : List (List Int) => ∀ g ∈ acc, g.length ≤ W + p.toNat - 1 ∧ Nm p g) _ _ _ (fun g hg => ?_) fun acc q hq ha => ?_
  · obtain ⟨_, _, rfl⟩ := List.mem_map.mp hg
    exact ⟨Nat.zero_le _, .nil⟩
  · unfold wovenS
    refine foldl_inv (fun acc : List (List Int) => ∀ g ∈ acc, g.length ≤ W + p.toNat - 1 ∧ Nm p g) _ _ _ ha fun acc j _ ha g hg => ?_
    rcases List.mem_or_eq_of_mem_set hg with hg | hg
    · exact ha g hg
    · subst hg
      have hq2 := hr _ (enumL_mem hq).2.2
      have l1 := add_len p 1 (acc.getD j []) (mul p q.2 (lineOf steps q.1 j))
      have l2 := mul_len2 hp q.2 (lineOf steps q.1 j)
      have l3 : (lineOf steps q.1 j).length ≤ p.toNat := by
        unfold lineOf
        refine Nat.le_trans (trim_len _) ?_
        rw [List.length_map]
        exact hs
      have l4 : (acc.getD j []).length ≤ W + p.toNat - 1 ∧ Nm p (acc.getD j []) := by
        by_cases hj : j < acc.length
        · exact ha _ (getD_mem hj)
        · rw [List.getD_eq_getElem?_getD, List.getElem?_eq_none (by omega)]
          exact ⟨Nat.zero_le _, .nil⟩
      exact ⟨by omega, add_nm hp.pos _ _ l4.2⟩
theorem part_short {p : Int} (hp : Pm p) {W : Nat} (hW : 2 ≤ W) {g : List Int} (hg : g.length ≤ W + p.toNat - 1) (r : Nat) : (part p g r).length ≤ W := by
  unfold part
  refine Nat.le_trans (trim_len _) ?_
  unfold stepL
  refine Nat.le_trans (List.length_filterMap_le _ _) ?_
  rw [List.length_range]
  unfold stepsOf
  split
  · rcases hp with rfl | rfl | rfl
    · have e : (2 : Int).toNat = 2 := rfl
      rw [e] at hg ⊢
      omega
    · have e : (3 : Int).toNat = 3 := rfl
      rw [e] at hg ⊢
      omega
    · have e : (5 : Int).toNat = 5 := rfl
      rw [e] at hg ⊢
      omega
  · omega
theorem part_nm {p : Int} {g : List Int} (h : Nm p g) (r : Nat) : Nm p (part p g r) := trim_nm fun x hx => by
  unfold stepL at hx
  obtain ⟨m, _, e⟩ := List.mem_filterMap.mp hx
  exact h x (List.mem_of_getElem? e)
end Dg
end
section
set_option linter.all false
/-! The sum row is nought, if the powers kill the series. -/
namespace Dg
open Lean.Grind
section
variable {R : Type} [CommRing R] {p : Int} (h : Hom R p)
theorem plusRow_at {poly : List Int} {acc line : List (List Int)} {j : Nat} (h1 : j < acc.length) (h2 : j < line.length) : (plusRow p poly acc line).getD j [] = add p 1 (acc.getD j []) (mul p poly (line.getD j [])) := by
  unfold plusRow
  rw [List.getD_eq_getElem?_getD, List.getElem?_map, List.getElem?_eq_getElem (by rw [List.length_zip]; omega), List.getElem_zip, List.getD_eq_getElem?_getD (l := acc), List.getElem?_eq_getElem h1, List.getD_eq_getElem?_getD (l := line), List.getElem?_eq_getElem h2]
  rfl
theorem plus_go {m : Nat} {L : Nat → List (List Int)} : ∀ (ys : List (List Int)) (s : Nat) (acc : List (List Int)), acc.length = m → (∀ i, i < ys.length → (L (s + i)).length = m) →
    (((List.range' s ys.length).zip ys).foldl (fun acc q => plusRow p q.2 acc (L q.1)) acc).length = m ∧ ∀ j, j < m → ser h ((((List.range' s ys.length).zip ys).foldl (fun acc q => plusRow p q.2 acc (L q.1)) acc).getD j []) = ser h (acc.getD j []) + sumTo ys.length (fun i => ser h (ys.getD i []) * ser h ((L (s + i)).getD j []))
  | [], s, acc, hl, _ => ⟨hl, fun j _ => by
    show ser h (acc.getD j []) = _
    rw [List.length_nil, sumTo_zero]
    grind⟩
  | y :: ys, s, acc, hl, hL => by
    have l0 : (L s).length = m := by
      have := hL 0 (by simp)
      rwa [Nat.add_zero] at this
    have l1 : (plusRow p y acc (L s)).length = m := by rw [plusRow_len (by omega)]; exact hl
    obtain ⟨l2, e2⟩ := plus_go ys (s + 1) (plusRow p y acc (L s)) l1 (fun i hi => by
      have := hL (i + 1) (by simpa using hi)
      rwa [show s + 1 + i = s + (i + 1) by omega])
    rw [List.length_cons, List.range'_succ, List.zip_cons_cons, List.foldl_cons]
    refine ⟨l2, fun j hj => ?_⟩
    rw [e2 j hj, plusRow_at (by omega) (by omega), ser_add1, ser_mul, sumTo_head]
    have e : sumTo ys.length (fun i => ser h (ys.getD i []) * ser h ((L (s + 1 + i)).getD j [])) = sumTo ys.length (fun i => ser h ((y :: ys).getD (i + 1) []) * ser h ((L (s + (i + 1))).getD j [])) := sumTo_congr fun i _ => by
      rw [show s + 1 + i = s + (i + 1) by omega]
      rfl
    rw [← e]
    show _ = _ + (ser h y * ser h ((L (s + 0)).getD j []) + _)
    rw [Nat.add_zero]
    grind
theorem plus_all {m : Nat} {L : Nat → List (List Int)} (ys : List (List Int)) (hL : ∀ i, i < ys.length → (L i).length = m) :
    ((enumL ys).foldl (fun acc q => plusRow p q.2 acc (L q.1)) (List.replicate m [])).length = m ∧ ∀ j, j < m → ser h (((enumL ys).foldl (fun acc q => plusRow p q.2 acc (L q.1)) (List.replicate m [])).getD j []) = sumTo ys.length (fun i => ser h (ys.getD i []) * ser h ((L i).getD j [])) := by
  rw [enumL_eq]
  obtain ⟨l, e⟩ := plus_go h (m := m) (L := L) ys 0 (List.replicate m []) List.length_replicate (fun i hi => by rw [Nat.zero_add]; exact hL i hi)
  refine ⟨l, fun j hj => ?_⟩
  have z : (List.replicate m ([] : List Int)).getD j [] = [] := by
    rw [List.getD_eq_getElem?_getD, List.getElem?_replicate]
    split <;> rfl
  rw [e j hj, z, ser_nil]
  have q : sumTo ys.length (fun i => ser h (ys.getD i []) * ser h ((L (0 + i)).getD j [])) = sumTo ys.length (fun i => ser h (ys.getD i []) * ser h ((L i).getD j [])) := sumTo_congr fun i _ => by rw [Nat.zero_add]
  rw [q]
  grind
omit h in
theorem spr_spr {a b : Nat} (ha : 0 < a) (f : Ser R) : spr a (spr b f) = spr (a * b) f := Ser.ext_at fun n => by
  show (if n % a = 0 then (if n / a % b = 0 then f.at_ (n / a / b) else 0) else 0) = if n % (a * b) = 0 then f.at_ (n / (a * b)) else 0
  rw [Nat.div_div_eq_div_mul]
  have e := Nat.mod_mul (x := n) (a := a) (b := b)
  rw [e]
  by_cases h1 : n % a = 0
  · rw [if_pos h1, h1, Nat.zero_add]
    by_cases h2 : n / a % b = 0
    · rw [if_pos h2, if_pos (by rw [h2, Nat.mul_zero])]
    · rw [if_neg h2, if_neg (fun z => h2 ((Nat.mul_eq_zero.mp z).resolve_left (by omega)))]
  · rw [if_neg h1, if_neg (by omega)]
omit h in
theorem spr_one (f : Ser R) : spr 1 f = f := Ser.ext_at fun n => by
  show (if n % 1 = 0 then f.at_ (n / 1) else 0) = _
  rw [Nat.mod_one, if_pos rfl, Nat.div_one]
omit h in
theorem spr_pow {c : Nat} (hc : 0 < c) : ∀ (s : Nat) (f : Ser R), spr (c ^ s) f = sprN c s f
  | 0, f => spr_one f
  | s + 1, f => by
    rw [sprN_succ, ← spr_pow hc s f, spr_spr hc, Nat.pow_succ, Nat.mul_comm]
theorem ser_single (n : Int) : ser h (trim [n]) = Ser.con (h.f n) := by
  rw [ser_trim]
  refine Ser.ext_at fun k => ?_
  cases k with
  | zero => rfl
  | succ k => exact h.zero
/-- the series of a table -/
def tot (begin : List Int) (m : Nat) (F : Nat → Ser R) : Ser R := sumTo m (fun j => Ser.con (h.f (begin.getD j 0)) * F j)
theorem ones_at {begin : List Int} {j : Nat} (hj : j < begin.length) : (ones begin).getD j [] = trim [begin.getD j 0] := by
  unfold ones
  rw [List.getD_eq_getElem?_getD, List.getElem?_map, List.getElem?_eq_getElem hj, List.getD_eq_getElem?_getD, List.getElem?_eq_getElem hj]
  rfl
theorem rowAt_ser {begin firsts : List Int} {steps : List (List (List Int))} {F : Nat → Ser R} (T : Tb p begin steps firsts) (S : Sys h steps firsts F) (t : Nat) : ∀ k, (rowAt p begin steps firsts.length t k).length = firsts.length ∧
    sumTo firsts.length (fun j => ser h ((rowAt p begin steps firsts.length t k).getD j []) * sprN p.toNat (t + k) (F j)) = sprN p.toNat t (tot h begin firsts.length F)
  | 0 => by
    have pp : 0 < p.toNat := by have := T.pm.pos; omega
    refine ⟨by unfold rowAt ones; rw [List.range_zero, List.foldl_nil, List.length_map]; exact T.nb, ?_⟩
    unfold tot
    rw [sprN_sum]
    refine sumTo_congr fun j hj => ?_
    have nb := T.nb
    show ser h ((ones begin).getD j []) * _ = _
    rw [ones_at (by omega), ser_single, sprN_mul pp, sprN_con pp, Nat.add_zero]
  | k + 1 => by
    have pp : 0 < p.toNat := by have := T.pm.pos; omega
    obtain ⟨l, e⟩ := rowAt_ser T S t k
    rw [rowAt_succ]
    unfold wstep
    obtain ⟨l2, e2⟩ := plus_all h (m := firsts.length) (L := fun i => (wideOf steps firsts.length (p.toNat ^ (t + k))).getD i []) (rowAt p begin steps firsts.length t k) (fun i hi => by
      rw [wideOf_get (by omega), List.length_map, List.length_range])
    refine ⟨l2, ?_⟩
    rw [← e]
    have a : sumTo firsts.length (fun j => ser h (((enumL (rowAt p begin steps firsts.length t k)).foldl (fun acc q => plusRow p q.2 acc ((wideOf steps firsts.length (p.toNat ^ (t + k))).getD q.1 [])) (List.replicate firsts.length [])).getD j []) * sprN p.toNat (t + (k + 1)) (F j)) =
        sumTo firsts.length (fun j => sumTo firsts.length (fun i => ser h ((rowAt p begin steps firsts.length t k).getD i []) * sprN p.toNat (t + k) (ser h (lineOf steps i j)) * sprN p.toNat (t + k) (spr p.toNat (F j)))) := sumTo_congr fun j hj => by
      rw [e2 j hj, l, ← sumTo_mulr]
      refine sumTo_congr fun i hi => ?_
      have w : ser h (((wideOf steps firsts.length (p.toNat ^ (t + k))).getD i []).getD j []) = sprN p.toNat (t + k) (ser h (lineOf steps i j)) := by
        rw [wideOf_get hi, List.getD_eq_getElem?_getD, List.getElem?_map, List.getElem?_range hj]
        show ser h (spread _ _) = _
        rw [ser_spread h (Nat.pow_pos pp), spr_pow pp]
      rw [w, show t + (k + 1) = (t + k) + 1 by omega, sprN_in]
    rw [a, sumTo_swap]
    refine sumTo_congr fun i hi => ?_
    rw [S.rec_ i hi, sprN_sum, ← sumTo_mul]
    refine sumTo_congr fun j hj => ?_
    rw [sprN_mul pp]
    grind
theorem sumRow_ser {begin firsts : List Int} {steps : List (List (List Int))} {F : Nat → Ser R} (T : Tb p begin steps firsts) (S : Sys h steps firsts F) {powers : List (List Int)} (h0 : 0 < powers.length) :
    (sumRow p begin steps firsts.length powers).length = firsts.length ∧ sumTo firsts.length (fun j => ser h ((sumRow p begin steps firsts.length powers).getD j []) * sprN p.toNat (powers.length - 1) (F j)) = sumTo powers.length (fun t => ser h (powers.getD t []) * sprN p.toNat t (tot h begin firsts.length F)) := by
  unfold sumRow
  obtain ⟨l2, e2⟩ := plus_all h (m := firsts.length) (L := fun t => rowAt p begin steps firsts.length t (powers.length - 1 - t)) powers (fun t _ => (rowAt_ser h T S t _).1)
  refine ⟨l2, ?_⟩
  have a : sumTo firsts.length (fun j => ser h (((enumL powers).foldl (fun acc q => plusRow p q.2 acc (rowAt p begin steps firsts.length q.1 (powers.length - 1 - q.1))) (List.replicate firsts.length [])).getD j []) * sprN p.toNat (powers.length - 1) (F j)) =
      sumTo firsts.length (fun j => sumTo powers.length (fun t => ser h (powers.getD t []) * (ser h ((rowAt p begin steps firsts.length t (powers.length - 1 - t)).getD j []) * sprN p.toNat (powers.length - 1) (F j)))) := sumTo_congr fun j hj => by
    rw [e2 j hj, ← sumTo_mulr]
    exact sumTo_congr fun t _ => by grind
  rw [a, sumTo_swap]
  refine sumTo_congr fun t ht => ?_
  rw [← (rowAt_ser h T S t (powers.length - 1 - t)).2, ← sumTo_mul]
  rw [show t + (powers.length - 1 - t) = powers.length - 1 by omega]
/-- a part of a nought row is nought, one spread less -/
theorem nt_part {m k : Nat} {F : Nat → Ser R} (hp : 0 < p) {row : List (List Int)} (hl : row.length = m) (hn : Nt h (fun j => sprN p.toNat (k + 1) (F j)) m row) {r : Nat} (hr : r < p.toNat) : Nt h (fun j => sprN p.toNat k (F j)) m (partRow p row r) := by
  have e2 := congrArg (sec p.toNat r) hn
  have e2 : sec p.toNat r (sumTo m (fun j => ser h (row.getD j []) * sprN p.toNat (k + 1) (F j))) = sec p.toNat r 0 := e2
  rw [sec_sum, sec_zero] at e2
  unfold Nt
  rw [← e2]
  refine sumTo_congr fun j hj => ?_
  rw [sprN_succ, sec_mul_spr hr]
  congr 1
  unfold partRow
  rw [List.getD_eq_getElem?_getD, List.getElem?_map, List.getElem?_eq_getElem (by omega)]
  show ser h (part p _ r) = _
  rw [ser_part h hp, List.getD_eq_getElem?_getD, List.getElem?_eq_getElem (by omega)]
  rfl
end
theorem sumRow_po {p : Int} {begin firsts : List Int} {steps : List (List (List Int))} (T : Tb p begin steps firsts) {powers : List (List Int)} (hl : powers.length ≤ 6) (hq : p.toNat ^ (powers.length - 1) ≤ 32) (hpo : Po p 2048 powers) : Po p 5000 (sumRow p begin steps firsts.length powers) := by
  have p2 := T.pm.two
  unfold sumRow
  have q : (fun acc : List (List Int) => acc.length = firsts.length ∧ Po p (2048 + 1000) acc) ((enumL powers).foldl (fun found q => plusRow p q.2 found (rowAt p begin steps firsts.length q.1 (powers.length - 1 - q.1))) (List.replicate firsts.length [])) :=
    foldl_inv (fun acc : List (List Int) => acc.length = firsts.length ∧ Po p (2048 + 1000) acc) _ _ _ ⟨List.length_replicate, fun g hg => by rw [List.eq_of_mem_replicate hg]; exact ⟨Nat.zero_le _, .nil⟩⟩ fun acc q hm ha => by
      obtain ⟨q1, q2, q3⟩ := enumL_mem hm
      obtain ⟨r1, r2⟩ := rowAt_ok T (t := q.1) (k := powers.length - 1 - q.1) (Nat.le_trans (Nat.pow_le_pow_right (by omega) (by omega)) hq)
      have r3 : Po p 1000 (rowAt p begin steps firsts.length q.1 (powers.length - 1 - q.1)) := r2.mono (by
        have : (powers.length - 1 - q.1) * 160 ≤ 5 * 160 := Nat.mul_le_mul_right _ (by omega)
        omega)
      exact ⟨by rw [plusRow_len (by rw [r1, ha.1])]; exact ha.1, plusRow_po T.pm.pos ha.2 (hpo _ q3).1 r3⟩
  exact q.2.mono (by omega)
/-- what the law's last check wants -/
structure Fulf (p : Int) (begin : List Int) (steps : List (List (List Int))) (firsts : List Int) (powers : List (List Int)) : Prop where
  tb : Tb p begin steps firsts
  m5 : firsts.length ≤ 5
  l0 : 0 < powers.length
  l6 : powers.length ≤ 6
  pw : p.toNat ^ (powers.length - 1) ≤ 32
  po : Po p 2048 powers
  sys : ∃ (R : Type) (_ : CommRing R) (h : Hom R p) (F : Nat → Ser R), Sys h steps firsts F ∧ sumTo powers.length (fun t => ser h (powers.getD t []) * sprN p.toNat t (tot h begin firsts.length F)) = 0
end Dg
end
section
set_option linter.all false
/-! The base rows of a table, as series. -/
namespace Dg
open Lean.Grind
/-- the firsts fit the step of nought -/
def Cons (p : Int) (steps : List (List (List Int))) (firsts : List Int) : Prop := ∀ (R : Type) [CommRing R] (h : Hom R p), ∀ i, i < firsts.length → sumTo firsts.length (fun j => h.f ((((steps.getD 0 []).getD i []).getD j 0)) * h.f (firsts.getD j 0)) = h.f (firsts.getD i 0)
section
variable {R : Type} [CommRing R] {p : Int} (h : Hom R p)
def Fn (c : Nat) (steps : List (List (List Int))) (firsts : List Int) : Nat → Nat → R
  | n, i => if hn : n = 0 ∨ c < 2 then h.f (firsts.getD i 0) else sumTo firsts.length (fun j => h.f (((steps.getD (n % c) []).getD i []).getD j 0) * Fn c steps firsts (n / c) j)
termination_by n => n
decreasing_by
  have : n ≠ 0 := fun z => hn (.inl z)
  exact Nat.div_lt_self (by omega) (by omega)
def Fs (c : Nat) (steps : List (List (List Int))) (firsts : List Int) (i : Nat) : Ser R := ⟨fun n => Fn h c steps firsts n i⟩
theorem fn_step {begin firsts : List Int} {steps : List (List (List Int))} (T : Tb p begin steps firsts) (C : Cons p steps firsts) {i : Nat} (hi : i < firsts.length) (n r : Nat) (hr : r < p.toNat) :
    Fn h p.toNat steps firsts (p.toNat * n + r) i = sumTo firsts.length (fun j => h.f (((steps.getD r []).getD i []).getD j 0) * Fn h p.toNat steps firsts n j) := by
  have p2 := T.pm.two
  have e1 : (p.toNat * n + r) % p.toNat = r := by rw [Nat.mul_add_mod, Nat.mod_eq_of_lt hr]
  have e2 : (p.toNat * n + r) / p.toNat = n := by
    rw [Nat.mul_add_div (by omega), Nat.div_eq_of_lt hr, Nat.add_zero]
  by_cases hz : p.toNat * n + r = 0
  · have hr0 : r = 0 := by omega
    have hn0 : n = 0 := by
      rcases Nat.eq_zero_or_pos n with z | z
      · exact z
      · have := Nat.mul_pos (show 0 < p.toNat by omega) z
        omega
    subst hr0
    subst hn0
    rw [Nat.mul_zero]
    have f0 : ∀ j, Fn h p.toNat steps firsts 0 j = h.f (firsts.getD j 0) := fun j => by
      rw [Fn, dif_pos (.inl rfl)]
    rw [f0 i, ← C R h i hi]
    exact sumTo_congr fun j _ => by rw [f0 j]
  · rw [Fn, dif_neg (by omega), e1, e2]
theorem line_at {begin firsts : List Int} {steps : List (List (List Int))} (T : Tb p begin steps firsts) (i j k : Nat) : (lineOf steps i j).getD k 0 = ((steps.getD k []).getD i []).getD j 0 := by
  unfold lineOf
  rw [trim_getD, List.getD_eq_getElem?_getD, List.getElem?_map]
  by_cases hk : k < steps.length
  · rw [List.getElem?_eq_getElem hk, List.getD_eq_getElem?_getD (l := steps), List.getElem?_eq_getElem hk]
    rfl
  · rw [List.getElem?_eq_none (by omega), List.getD_eq_getElem?_getD (l := steps), List.getElem?_eq_none (by omega)]
    rfl
theorem sys_of {begin firsts : List Int} {steps : List (List (List Int))} (T : Tb p begin steps firsts) (C : Cons p steps firsts) : Sys h steps firsts (Fs h p.toNat steps firsts) where
  rec_ i hi := by
    have p2 := T.pm.two
    refine ser_by_sec (p := p.toNat) (by omega) fun r hr => ?_
    rw [sec_sum]
    refine Ser.ext_at fun n => ?_
    show Fn h p.toNat steps firsts (p.toNat * n + r) i = _
    rw [fn_step h T C hi n r hr, Ser.sum_at]
    refine sumTo_congr fun j hj => ?_
    rw [sec_mul_spr hr]
    have ec : sec p.toNat r (ser h (lineOf steps i j)) = Ser.con (h.f (((steps.getD r []).getD i []).getD j 0)) := Ser.ext_at fun k => by
      show h.f ((lineOf steps i j).getD (p.toNat * k + r) 0) = _
      rw [line_at T]
      cases k with
      | zero => rw [Nat.mul_zero, Nat.zero_add]; rfl
      | succ k =>
        have np := T.np
        have big : steps.length ≤ p.toNat * (k + 1) + r := by
          rw [np, Nat.mul_succ]
          omega
        rw [List.getD_eq_getElem?_getD (l := steps), List.getElem?_eq_none big]
        exact h.zero
    rw [ec, Ser.con_mul_at]
    rfl
  ini j hj := by
    show Fn h p.toNat steps firsts 0 j = _
    rw [Fn, dif_pos (.inl rfl)]
end
end Dg
end
section
set_option linter.all false
/-! What a Space holds, in plain Lean. -/
namespace Dg
abbrev SLine := Nat × List Int × List Int
def mixS (p often : Int) (mix : List Int) (numbers : List Int) : List Int := (enumL numbers).foldl (fun acc q => acc.set q.1 ((acc.getD q.1 0 + often * q.2) % p)) mix
def bdS (p : Int) (s : List Int × List Int) (q : SLine) : List Int × List Int :=
  if s.1.getD q.1 0 ≠ 0 then ((s.1.zip q.2.1).map fun w => (w.1 - s.1.getD q.1 0 * w.2) % p, mixS p (s.1.getD q.1 0) s.2 q.2.2) else s
def bdM (p : Int) (n : Nat) (lines : List SLine) (v : List Int) : List Int × List Int := lines.foldl (bdS p) (v, List.replicate n 0)
/-- the lines are of one length, their mixes fit -/
structure SL (p : Int) (V : Nat) (lines : List SLine) : Prop where
  wf : ∀ q ∈ lines, q.1 < V ∧ q.2.1.length = V ∧ Nm p q.2.1 ∧ q.2.2.length ≤ lines.length ∧ Nm p q.2.2
theorem bdS_ok {p : Int} (hp : 0 < p) {V n : Nat} {s : List Int × List Int} {q : SLine} (h1 : s.1.length = V ∧ Nm p s.1) (h2 : s.2.length = n ∧ Nm p s.2) (hq : q.1 < V ∧ q.2.1.length = V ∧ Nm p q.2.1 ∧ q.2.2.length ≤ n ∧ Nm p q.2.2) : ((bdS p s q).1.length = V ∧ Nm p (bdS p s q).1) ∧ ((bdS p s q).2.length = n ∧ Nm p (bdS p s q).2) := by
  unfold bdS
  split
  · refine ⟨⟨by rw [List.length_map, List.length_zip]; omega, fun x hx => ?_⟩, ?_, ?_⟩
    · obtain ⟨w, _, rfl⟩ := List.mem_map.mp hx
      exact md hp _
    · unfold mixS
      refine foldl_inv (fun acc : List Int => acc.length = n) _ _ _ h2.1 fun acc q _ ha => by rw [List.length_set]; exact ha
    · unfold mixS
      exact foldl_inv (Nm p) _ _ _ h2.2 fun acc q _ ha => ha.set (md hp _)
  · exact ⟨h1, h2⟩
theorem bdM_ok {p : Int} (hp : 0 < p) {V : Nat} {lines : List SLine} (h : SL p V lines) {v : List Int} (hv : v.length = V ∧ Nm p v) : ((bdM p lines.length lines v).1.length = V ∧ Nm p (bdM p lines.length lines v).1) ∧ ((bdM p lines.length lines v).2.length = lines.length ∧ Nm p (bdM p lines.length lines v).2) := by
  unfold bdM
  exact foldl_inv (fun s : List Int × List Int => (s.1.length = V ∧ Nm p s.1) ∧ (s.2.length = lines.length ∧ Nm p s.2)) _ _ _ ⟨hv, List.length_replicate, .rep0 hp _⟩ fun s q hq hs => bdS_ok hp hs.1 hs.2 (h.wf q hq)
def mixM (p : Int) (n : Nat) (lines : List SLine) (v : List Int) : Option (List Int) := if (bdM p n lines v).1.any (fun n => n != 0) then none else some (bdM p n lines v).2
def firstAt (l : List Int) : List Nat := ((enumL l).filter fun q => !decide (q.2 = 0)).map fun q => q.1
def takeM (p : Int) (n : Nat) (lines : List SLine) (v : List Int) : SLine :=
  ((firstAt (bdM p n lines v).1).getD 0 0, (bdM p n lines v).1.map (fun x => (back p ((bdM p n lines v).1.getD ((firstAt (bdM p n lines v).1).getD 0 0) 0) : Int) * x % p),
    ((bdM p n lines v).2.map fun x => -(back p ((bdM p n lines v).1.getD ((firstAt (bdM p n lines v).1).getD 0 0) 0) : Int) * x % p) ++ [(back p ((bdM p n lines v).1.getD ((firstAt (bdM p n lines v).1).getD 0 0) 0) : Int)])
theorem firstAt_ok {l : List Int} (h : l.any (fun n => n != 0) = true) : 0 < (firstAt l).length ∧ (firstAt l).getD 0 0 < l.length ∧ l.getD ((firstAt l).getD 0 0) 0 ≠ 0 := by
  obtain ⟨x, hx, hn⟩ := List.any_eq_true.mp h
  have hn : x ≠ 0 := by simpa using hn
  obtain ⟨k, hk⟩ := List.mem_iff_getElem?.mp hx
  have hkl := (List.getElem?_eq_some_iff.mp hk).1
  have e : (k, x) ∈ enumL l := by
    have : (enumL l)[k]? = some (k, x) := by
      unfold enumL
      rw [List.getElem?_zip_eq_some]
      exact ⟨List.getElem?_range hkl, hk⟩
    exact List.mem_of_getElem? this
  have pos : 0 < (firstAt l).length := by
    unfold firstAt
    rw [List.length_map]
    exact List.length_pos_of_mem (List.mem_filter.mpr ⟨e, by simpa using hn⟩)
  refine ⟨pos, ?_⟩
  have hm := getD_mem (d := 0) pos
  generalize (firstAt l).getD 0 0 = t at hm ⊢
  obtain ⟨q, hq, rfl⟩ := List.mem_map.mp hm
  obtain ⟨q1, q2⟩ := List.mem_filter.mp hq
  obtain ⟨a, b, _⟩ := enumL_mem q1
  refine ⟨a, ?_⟩
  rw [List.getD_eq_getElem?_getD, b]
  simpa using q2
end Dg
end
section
set_option linter.all false
/-! The linear algebra of a Space. -/
namespace Dg
open Lean.Grind
def leads (lines : List SLine) : List (Nat × List Int) := lines.map fun q => (q.1, q.2.1)
theorem mixS_len (p often : Int) (mix numbers : List Int) : (mixS p often mix numbers).length = mix.length := foldl_len _ (fun acc x => List.length_set) _ _
theorem mixS_at {p often : Int} {mix numbers : List Int} (hl : numbers.length ≤ mix.length) (t : Nat) : (mixS p often mix numbers).getD t 0 = if t < numbers.length then (mix.getD t 0 + often * numbers.getD t 0) % p else mix.getD t 0 := by
  unfold mixS
  rw [enumL_eq]
  obtain ⟨f1, f2⟩ := fold_set (π := fun i => i) (fun _ _ e => e) (fun a (b : Int) => (a + often * b) % p) numbers 0 mix (fun i hi => by omega)
  by_cases ht : t < numbers.length
  · rw [if_pos ht]
    have e := f1 t numbers[t] (by simp [ht])
    rw [Nat.zero_add] at e
    rw [e, List.getD_eq_getElem?_getD (l := numbers), List.getElem?_eq_getElem ht]
    rfl
  · rw [if_neg ht]
    exact f2 t (fun i hi q => by omega)
section
variable {R : Type} [CommRing R] {p : Int} (h : Hom R p)
/-- what stands in a space: lines, and what was taken -/
structure SI (V : Nat) (lines : List SLine) (tk : List (List Int)) : Prop where
  n : lines.length = tk.length
  ld : Lines p V (leads lines)
  nm : ∀ q ∈ lines, q.2.2.length ≤ lines.length ∧ Nm p q.2.2
  rel : ∀ q ∈ lines, ∀ x, x < V → h.f (q.2.1.getD x 0) = sumTo tk.length (fun t => h.f (q.2.2.getD t 0) * h.f ((tk.getD t []).getD x 0))
theorem SI.nil {V : Nat} : SI h V [] [] := ⟨rfl, Lines.nil, fun q hq => absurd hq (by simp), fun q hq => absurd hq (by simp)⟩
variable {h}
theorem SI.sl {V : Nat} {lines : List SLine} {tk : List (List Int)} (S : SI h V lines tk) : SL p V lines := ⟨fun q hq => by
  obtain ⟨a, b, c⟩ := S.ld.wf (q.1, q.2.1) (List.mem_map.mpr ⟨q, hq, rfl⟩)
  obtain ⟨d, e⟩ := S.nm q hq
  exact ⟨a, b, c, d, e⟩⟩
theorem SI.few {V : Nat} {lines : List SLine} {tk : List (List Int)} (S : SI h V lines tk) : lines.length ≤ V := by
  have := S.ld.len
  unfold leads at this
  rwa [List.length_map] at this
/-- bringing down -/
theorem bd_go {V : Nat} {all : List SLine} {tk : List (List Int)} (hp : 0 < p) (S : SI h V all tk) {v : List Int} : ∀ (lines : List SLine) (s : List Int × List Int), (∀ q ∈ lines, q ∈ all) → s.1.length = V ∧ Nm p s.1 → s.2.length = all.length ∧ Nm p s.2 →
    (∀ x, x < V → h.f (v.getD x 0) = h.f (s.1.getD x 0) + sumTo tk.length (fun t => h.f (s.2.getD t 0) * h.f ((tk.getD t []).getD x 0))) →
    (lines.foldl (bdS p) s).1 = (leads lines).foldl (leftS p) s.1 ∧
    ∀ x, x < V → h.f (v.getD x 0) = h.f ((lines.foldl (bdS p) s).1.getD x 0) + sumTo tk.length (fun t => h.f ((lines.foldl (bdS p) s).2.getD t 0) * h.f ((tk.getD t []).getD x 0))
  | [], s, _, _, _, e => ⟨rfl, e⟩
  | q :: lines, s, hq, h1, h2, e => by
    have qa := hq q List.mem_cons_self
    have w := S.sl.wf q qa
    have ok := bdS_ok hp h1 h2 ⟨w.1, w.2.1, w.2.2.1, w.2.2.2.1, w.2.2.2.2⟩
    have e1 : (bdS p s q).1 = leftS p s.1 (q.1, q.2.1) := by
      unfold bdS
      by_cases hc : s.1.getD q.1 0 ≠ 0
      · rw [if_pos hc]
        rfl
      · rw [if_neg hc]
        have hc : s.1.getD q.1 0 = 0 := Classical.not_not.mp hc
        apply List.ext_getElem
        · rw [leftS_len (by show q.2.1.length = _; omega)]
        · intro i hi1 hi2
          have a := leftS_at (p := p) (l := s.1) (q := (q.1, q.2.1)) (t := i) (by show q.2.1.length = _; omega) hi1
          rw [hc, Int.zero_mul, Int.sub_zero] at a
          have b := h1.2.getD hp i
          rw [Int.emod_eq_of_lt b.1 b.2] at a
          rw [List.getD_eq_getElem?_getD, List.getElem?_eq_getElem hi2, List.getD_eq_getElem?_getD, List.getElem?_eq_getElem hi1] at a
          exact a.symm
    have e2 : ∀ x, x < V → h.f (v.getD x 0) = h.f ((bdS p s q).1.getD x 0) + sumTo tk.length (fun t => h.f ((bdS p s q).2.getD t 0) * h.f ((tk.getD t []).getD x 0)) := by
      intro x hx
      unfold bdS
      by_cases hc : s.1.getD q.1 0 ≠ 0
      · rw [if_pos hc]
        have la : ((s.1.zip q.2.1).map fun w => (w.1 - s.1.getD q.1 0 * w.2) % p).getD x 0 = (s.1.getD x 0 - s.1.getD q.1 0 * q.2.1.getD x 0) % p := leftS_at (p := p) (l := s.1) (q := (q.1, q.2.1)) (t := x) (by show q.2.1.length = _; omega) (by omega)
        show _ = h.f (((s.1.zip q.2.1).map fun w => (w.1 - s.1.getD q.1 0 * w.2) % p).getD x 0) + sumTo tk.length (fun t => h.f ((mixS p (s.1.getD q.1 0) s.2 q.2.2).getD t 0) * _)
        rw [la, h.mod, h.sub, h.mul, S.rel q qa x hx, e x hx]
        have ms : sumTo tk.length (fun t => h.f ((mixS p (s.1.getD q.1 0) s.2 q.2.2).getD t 0) * h.f ((tk.getD t []).getD x 0)) = sumTo tk.length (fun t => h.f (s.2.getD t 0) * h.f ((tk.getD t []).getD x 0) + h.f (s.1.getD q.1 0) * (h.f (q.2.2.getD t 0) * h.f ((tk.getD t []).getD x 0))) := sumTo_congr fun t ht => by
          rw [mixS_at (by omega)]
          by_cases hl : t < q.2.2.length
          · rw [if_pos hl, h.mod, h.add, h.mul]
            grind
          · rw [if_neg hl]
            have z : q.2.2.getD t 0 = 0 := by rw [List.getD_eq_getElem?_getD, List.getElem?_eq_none (by omega)]; rfl
            rw [z, h.zero]
            grind
        rw [ms, sumTo_add, sumTo_mul]
        grind
      · rw [if_neg hc]
        exact e x hx
    obtain ⟨a, b⟩ := bd_go hp S lines (bdS p s q) (fun u hu => hq u (List.mem_cons_of_mem _ hu)) ok.1 ok.2 e2
    refine ⟨?_, b⟩
    rw [List.foldl_cons, a, e1]
    rfl
theorem bd_ok {V : Nat} {lines : List SLine} {tk : List (List Int)} (hp : 0 < p) (S : SI h V lines tk) {v : List Int} (hv : v.length = V ∧ Nm p v) :
    (bdM p lines.length lines v).1 = leftL p (leads lines) v ∧ ∀ x, x < V → h.f (v.getD x 0) = h.f ((bdM p lines.length lines v).1.getD x 0) + sumTo tk.length (fun t => h.f ((bdM p lines.length lines v).2.getD t 0) * h.f ((tk.getD t []).getD x 0)) := by
  unfold bdM leftL
  refine bd_go hp S lines _ (fun q hq => hq) hv ⟨List.length_replicate, .rep0 hp _⟩ fun x hx => ?_
  have z : sumTo tk.length (fun t => h.f ((List.replicate lines.length (0 : Int)).getD t 0) * h.f ((tk.getD t []).getD x 0)) = 0 := sumTo_none fun t ht => by
    have z : (List.replicate lines.length (0 : Int)).getD t 0 = 0 := by
      rw [List.getD_eq_getElem?_getD, List.getElem?_replicate]
      split <;> rfl
    rw [z, h.zero]
    grind
  rw [z]
  grind
/-- a mix that is found -/
theorem mix_ok {V : Nat} {lines : List SLine} {tk : List (List Int)} (hp : 0 < p) (S : SI h V lines tk) {v mix : List Int} (hv : v.length = V ∧ Nm p v) (e : mixM p lines.length lines v = some mix) :
    mix.length = tk.length ∧ Nm p mix ∧ ∀ x, x < V → h.f (v.getD x 0) = sumTo tk.length (fun t => h.f (mix.getD t 0) * h.f ((tk.getD t []).getD x 0)) := by
  unfold mixM at e
  by_cases hc : (bdM p lines.length lines v).1.any (fun n => n != 0) = true
  · rw [if_pos hc] at e
    cases e
  · rw [if_neg hc] at e
    have e := Option.some.inj e
    obtain ⟨_, b1, b2⟩ := bdM_ok hp S.sl hv
    subst e
    refine ⟨by rw [b1]; exact S.n, b2, fun x hx => ?_⟩
    rw [(bd_ok hp S hv).2 x hx]
    have z : (bdM p lines.length lines v).1.getD x 0 = 0 := by
      refine Classical.byContradiction fun ne => hc ?_
      by_cases hx2 : x < (bdM p lines.length lines v).1.length
      · exact List.any_eq_true.mpr ⟨_, getD_mem hx2, by simpa using ne⟩
      · rw [List.getD_eq_getElem?_getD, List.getElem?_eq_none (by omega)] at ne
        exact absurd rfl ne
    rw [z, h.zero]
    grind
theorem getD_app {α : Type} {xs : List α} {y d : α} {k : Nat} : (xs ++ [y]).getD k d = if k < xs.length then xs.getD k d else if k = xs.length then y else d := by
  rw [List.getD_eq_getElem?_getD]
  by_cases h1 : k < xs.length
  · rw [if_pos h1, List.getElem?_append_left h1, List.getD_eq_getElem?_getD]
  · rw [if_neg h1, List.getElem?_append_right (by omega)]
    by_cases h2 : k = xs.length
    · rw [if_pos h2, h2, Nat.sub_self]
      rfl
    · rw [if_neg h2, List.getElem?_eq_none (by rw [List.length_singleton]; omega)]
      rfl
theorem getD_map {α β : Type} {xs : List α} {g : α → β} {d : α} {d' : β} {k : Nat} (hk : k < xs.length) : (xs.map g).getD k d' = g (xs.getD k d) := by
  rw [List.getD_eq_getElem?_getD, List.getElem?_map, List.getElem?_eq_getElem hk, List.getD_eq_getElem?_getD, List.getElem?_eq_getElem hk]
  rfl
/-- one more is taken -/
theorem take_ok {V : Nat} {lines : List SLine} {tk : List (List Int)} (hp : Pm p) (S : SI h V lines tk) {v : List Int} (hv : v.length = V ∧ Nm p v) (hne : (bdM p lines.length lines v).1.any (fun n => n != 0) = true) : SI h V (lines ++ [takeM p lines.length lines v]) (tk ++ [v]) := by
  have p0 := hp.pos
  obtain ⟨⟨a1, a2⟩, b1, b2⟩ := bdM_ok p0 S.sl hv
  obtain ⟨e1, e2⟩ := bd_ok p0 S hv
  obtain ⟨t1, t2, t3⟩ := firstAt_ok hne
  obtain ⟨c1, c2, c3⟩ := leftL_ok p0 S.ld hv.1 hv.2
  have et : takeM p lines.length lines v = ((firstAt (bdM p lines.length lines v).1).getD 0 0, (bdM p lines.length lines v).1.map (fun x => (back p ((bdM p lines.length lines v).1.getD ((firstAt (bdM p lines.length lines v).1).getD 0 0) 0) : Int) * x % p),
    ((bdM p lines.length lines v).2.map fun x => -(back p ((bdM p lines.length lines v).1.getD ((firstAt (bdM p lines.length lines v).1).getD 0 0) 0) : Int) * x % p) ++ [(back p ((bdM p lines.length lines v).1.getD ((firstAt (bdM p lines.length lines v).1).getD 0 0) 0) : Int)]) := rfl
  rw [et]
  rw [← e1] at c1 c2 c3
  generalize bdM p lines.length lines v = s at a1 a2 b1 b2 e2 t1 t2 t3 c1 c2 c3 ⊢
  generalize (firstAt s.1).getD 0 0 = t at t2 t3 ⊢
  have sn := S.ld.snoc hp c1 c2 c3 (by omega) t3
  have lb := a2.getD p0 t
  have bb := back_lt (back_ne' hp lb.1 lb.2 t3)
  generalize back p (s.1.getD t 0) = bk at sn bb ⊢
  have em : (s.1.map fun x => (bk : Int) * x % p) = s.1.map fun x => x * (bk : Int) % p := List.map_congr_left fun x _ => by rw [Int.mul_comm]
  have n := S.n
  refine ⟨by rw [List.length_append, List.length_append, n]; rfl, ?_, fun q hq => ?_, fun q hq x hx => ?_⟩
  · unfold leads
    rw [List.map_append]
    show Lines p V (leads lines ++ [(t, s.1.map fun x => (bk : Int) * x % p)])
    rw [em]
    exact sn
  · rw [List.length_append, List.length_singleton]
    rcases List.mem_append.mp hq with hq | hq
    · obtain ⟨u1, u2⟩ := S.nm q hq
      exact ⟨by omega, u2⟩
    · rw [List.mem_singleton.mp hq]
      refine ⟨?_, ?_⟩
      · show ((s.2.map _) ++ [_]).length ≤ _
        rw [List.length_append, List.length_map, List.length_singleton]
        omega
      · show Nm p ((s.2.map _) ++ [_])
        refine Nm.app (fun y hy => ?_) fun y hy => ?_
        · obtain ⟨w, _, rfl⟩ := List.mem_map.mp hy
          exact md p0 _
        · rw [List.mem_singleton.mp hy]
          omega
  · rw [List.length_append, List.length_singleton, sumTo_succ]
    have same : ∀ (g : Nat → R), sumTo tk.length (fun u => g u * h.f (((tk ++ [v]).getD u []).getD x 0)) = sumTo tk.length (fun u => g u * h.f ((tk.getD u []).getD x 0)) := fun g => sumTo_congr fun u hu => by rw [getD_app, if_pos hu]
    have last : ((tk ++ [v]).getD tk.length []) = v := by rw [getD_app, if_neg (by omega), if_pos rfl]
    rw [same, last]
    rcases List.mem_append.mp hq with hq | hq
    · rw [S.rel q hq x hx]
      have z : q.2.2.getD tk.length 0 = 0 := by
        have := (S.nm q hq).1
        rw [List.getD_eq_getElem?_getD, List.getElem?_eq_none (by omega)]
        rfl
      rw [z, h.zero]
      grind
    · rw [List.mem_singleton.mp hq]
      show h.f ((s.1.map fun x => (bk : Int) * x % p).getD x 0) = sumTo tk.length (fun u => h.f (((s.2.map fun x => -(bk : Int) * x % p) ++ [(bk : Int)]).getD u 0) * _) + h.f (((s.2.map fun x => -(bk : Int) * x % p) ++ [(bk : Int)]).getD tk.length 0) * h.f (v.getD x 0)
      rw [getD_map (d := 0) (by omega), h.mod, h.mul]
      have l2 : (s.2.map fun x => -(bk : Int) * x % p).length = tk.length := by rw [List.length_map]; omega
      have lst : ((s.2.map fun x => -(bk : Int) * x % p) ++ [(bk : Int)]).getD tk.length 0 = (bk : Int) := by rw [getD_app, l2, if_neg (by omega), if_pos rfl]
      have old : sumTo tk.length (fun u => h.f (((s.2.map fun x => -(bk : Int) * x % p) ++ [(bk : Int)]).getD u 0) * h.f ((tk.getD u []).getD x 0)) = sumTo tk.length (fun u => - h.f (bk : Int) * (h.f (s.2.getD u 0) * h.f ((tk.getD u []).getD x 0))) := sumTo_congr fun u hu => by
        rw [getD_app, l2, if_pos hu, getD_map (d := 0) (by omega), h.mod, h.mul, h.neg]
        grind
      rw [lst, old, sumTo_mul, e2 x hx]
      grind
end
end Dg
end
section
set_option linter.all false
/-! Columns: what is spanned. -/
namespace Dg
open Lean.Grind
/-- v is a sum of the found (for each ring) -/
def Span (p : Int) (V : Nat) (found : List (List Int)) (v : List Int) : Prop := ∀ (R : Type) [CommRing R] (h : Hom R p), ∃ c : Nat → R, ∀ x, x < V → h.f (v.getD x 0) = sumTo found.length (fun t => c t * h.f ((found.getD t []).getD x 0))
def SIA (p : Int) (V : Nat) (lines : List SLine) (tk : List (List Int)) : Prop := ∀ (R : Type) [CommRing R] (h : Hom R p), SI h V lines tk
theorem Span.more {p : Int} {V : Nat} {found : List (List Int)} {v w : List Int} (s : Span p V found v) : Span p V (found ++ [w]) v := fun R _ h => by
  obtain ⟨c, e⟩ := s R h
  refine ⟨fun t => if t < found.length then c t else 0, fun x hx => ?_⟩
  rw [List.length_append, List.length_singleton, sumTo_succ]
  dsimp only
  rw [if_neg (Nat.lt_irrefl _), e x hx]
  have q : sumTo found.length (fun t => (if t < found.length then c t else 0) * h.f (((found ++ [w]).getD t []).getD x 0)) = sumTo found.length (fun t => c t * h.f ((found.getD t []).getD x 0)) := sumTo_congr fun t ht => by
    rw [if_pos ht, getD_app, if_pos ht]
  rw [q]
  grind
theorem Span.self {p : Int} {V : Nat} {found : List (List Int)} {v : List Int} : Span p V (found ++ [v]) v := fun R _ h => by
  refine ⟨fun t => if t < found.length then 0 else 1, fun x hx => ?_⟩
  rw [List.length_append, List.length_singleton, sumTo_succ]
  dsimp only
  rw [if_neg (Nat.lt_irrefl _), sumTo_none fun t ht => by rw [if_pos ht]; grind, getD_app, if_neg (Nat.lt_irrefl _), if_pos rfl]
  grind
theorem span_mix {p : Int} {V : Nat} {lines : List SLine} {tk : List (List Int)} (hp : 0 < p) (S : SIA p V lines tk) {v mix : List Int} (hv : v.length = V ∧ Nm p v) (e : mixM p lines.length lines v = some mix) : Span p V tk v := fun R _ h => by
  obtain ⟨_, _, q⟩ := mix_ok hp (S R h) hv e
  exact ⟨fun t => h.f (mix.getD t 0), q⟩
theorem SIA.any {p : Int} (hp : Pm p) {V : Nat} {lines : List SLine} {tk : List (List Int)} (S : SIA p V lines tk) : lines.length ≤ V ∧ lines.length = tk.length ∧ SL p V lines := by
  obtain ⟨R, _, ⟨h⟩⟩ := hom_of hp
  exact ⟨(S R h).few, (S R h).n, (S R h).sl⟩
/-- the state of columns_of -/
structure CI (p : Int) (V : Nat) (steps : List (List (List Int))) (firsts : List Int) (lines : List SLine) (found waiting : List (List Int)) (at_ : Nat) : Prop where
  sia : SIA p V lines found
  le : at_ ≤ waiting.length
  ok : ∀ w ∈ waiting, w.length = V ∧ Nm p w
  fok : ∀ w ∈ found, w.length = V ∧ Nm p w
  done : ∀ i, i < at_ → Span p V found (waiting.getD i [])
  led : ∀ c ∈ found, ∀ s ∈ steps, columnLed p s c ∈ waiting
  fst : firsts ∈ waiting
  len : waiting.length = 1 + steps.length * found.length
structure Cols (p : Int) (V : Nat) (steps : List (List (List Int))) (firsts : List Int) (found : List (List Int)) : Prop where
  ok : ∀ c ∈ found, c.length = V ∧ Nm p c
  few : found.length ≤ V
  fst : Span p V found firsts
  led : ∀ c ∈ found, ∀ s ∈ steps, Span p V found (columnLed p s c)
theorem CI.cols {p : Int} (hp : Pm p) {V : Nat} {steps : List (List (List Int))} {firsts : List Int} {lines : List SLine} {found waiting : List (List Int)} {at_ : Nat} (c : CI p V steps firsts lines found waiting at_) (h : waiting.length ≤ at_) : Cols p V steps firsts found := by
  have all : ∀ w ∈ waiting, Span p V found w := fun w hw => by
    obtain ⟨i, hi, rfl⟩ := List.mem_iff_getElem.mp hw
    have := c.done i (by omega)
    rwa [List.getD_eq_getElem?_getD, List.getElem?_eq_getElem hi] at this
  obtain ⟨a, b, _⟩ := c.sia.any hp
  exact ⟨c.fok, by omega, all _ c.fst, fun u hu s hs => all _ (c.led u hu s hs)⟩
theorem summed_nm {p : Int} (hp : 0 < p) (v c : List Int) : 0 ≤ summed p v c ∧ summed p v c < p := md hp _
theorem columnLed_ok {p : Int} (hp : 0 < p) (s : List (List Int)) (c : List Int) : (columnLed p s c).length = s.length ∧ Nm p (columnLed p s c) := ⟨by unfold columnLed; rw [List.length_map], fun x hx => by
  obtain ⟨r, _, rfl⟩ := List.mem_map.mp hx
  exact summed_nm hp _ _⟩
/-- a column that is taken -/
theorem CI.take {p : Int} (hp : Pm p) {V : Nat} {steps : List (List (List Int))} {firsts : List Int} {lines : List SLine} {found waiting : List (List Int)} {at_ : Nat} (c : CI p V steps firsts lines found waiting at_) (hat : at_ < waiting.length) (hs : ∀ s ∈ steps, s.length = V)
    (hn : mixM p lines.length lines (waiting.getD at_ []) = none) : CI p V steps firsts (lines ++ [takeM p lines.length lines (waiting.getD at_ [])]) (found ++ [waiting.getD at_ []]) (waiting ++ steps.map fun s => columnLed p s (waiting.getD at_ [])) (at_ + 1) := by
  have wok := c.ok _ (getD_mem (d := []) hat)
  have hany : (bdM p lines.length lines (waiting.getD at_ [])).1.any (fun n => n != 0) = true := by
    unfold mixM at hn
    by_cases h : (bdM p lines.length lines (waiting.getD at_ [])).1.any (fun n => n != 0) = true
    · exact h
    · rw [if_neg h] at hn
      cases hn
  refine ⟨fun R _ h => take_ok hp (c.sia R h) wok hany, by rw [List.length_append]; omega, fun w hw => ?_, fun w hw => ?_, fun i hi => ?_, fun u hu s hss => ?_, List.mem_append_left _ c.fst, ?_⟩
  · rcases List.mem_append.mp hw with hw | hw
    · exact c.ok w hw
    · obtain ⟨s, hs2, rfl⟩ := List.mem_map.mp hw
      obtain ⟨a, b⟩ := columnLed_ok hp.pos s (waiting.getD at_ [])
      exact ⟨by rw [a]; exact hs s hs2, b⟩
  · rcases List.mem_append.mp hw with hw | hw
    · exact c.fok w hw
    · rw [List.mem_singleton.mp hw]
      exact wok
  · have e : (waiting ++ steps.map fun s => columnLed p s (waiting.getD at_ [])).getD i [] = waiting.getD i [] := by
      rw [List.getD_eq_getElem?_getD, List.getElem?_append_left (by omega), List.getD_eq_getElem?_getD]
    rw [e]
    by_cases h : i < at_
    · exact (c.done i h).more
    · have : i = at_ := by omega
      rw [this]
      exact Span.self
  · rcases List.mem_append.mp hu with hu | hu
    · exact List.mem_append_left _ (c.led u hu s hss)
    · rw [List.mem_singleton.mp hu]
      exact List.mem_append_right _ (List.mem_map.mpr ⟨s, hss, rfl⟩)
  · rw [List.length_append, List.length_append, List.length_map, List.length_singleton, c.len, Nat.mul_add]
    omega
theorem CI.skip {p : Int} (hp : Pm p) {V : Nat} {steps : List (List (List Int))} {firsts : List Int} {lines : List SLine} {found waiting : List (List Int)} {at_ : Nat} (c : CI p V steps firsts lines found waiting at_) (hat : at_ < waiting.length) {mix : List Int}
    (hn : mixM p lines.length lines (waiting.getD at_ []) = some mix) : CI p V steps firsts lines found waiting (at_ + 1) :=
  ⟨c.sia, hat, c.ok, c.fok, fun i hi => by
    by_cases h : i < at_
    · exact c.done i h
    · have e : i = at_ := by omega
      rw [e]
      exact span_mix hp.pos c.sia (c.ok _ (getD_mem hat)) hn, c.led, c.fst, c.len⟩
end Dg
end
section
set_option linter.all false
/-! A vector that all columns kill has no row. -/
namespace Dg
open Lean.Grind
section
variable {R : Type} [CommRing R] {p : Int} (h : Hom R p)
theorem sum_zip : ∀ (v c : List Int), v.length = c.length → h.f ((v.zip c).map fun w => w.1 * w.2).sum = sumTo c.length (fun j => h.f (v.getD j 0) * h.f (c.getD j 0))
  | [], [], _ => h.zero
  | a :: v, b :: c, hl => by
    have ih := sum_zip v c (by simpa using hl)
    rw [List.length_cons, sumTo_head, List.zip_cons_cons, List.map_cons, List.sum_cons, h.add, h.mul, ih]
    rfl
theorem summed_f {v c : List Int} (hl : v.length = c.length) : h.f (summed p v c) = sumTo c.length (fun j => h.f (v.getD j 0) * h.f (c.getD j 0)) := by
  unfold summed
  rw [h.mod, sum_zip h v c hl]
theorem columnLed_at {s : List (List Int)} {c : List Int} {i : Nat} (hi : i < s.length) : (columnLed p s c).getD i 0 = summed p (s.getD i []) c := by
  unfold columnLed
  rw [getD_map (d := []) hi]
theorem fn_span {begin firsts : List Int} {steps : List (List (List Int))} {found : List (List Int)} (T : Tb p begin steps firsts) (C : Cons p steps firsts) (K : Cols p firsts.length steps firsts found) :
    ∀ (N n : Nat), n < N → ∃ c : Nat → R, ∀ j, j < firsts.length → Fn h p.toNat steps firsts n j = sumTo found.length (fun t => c t * h.f ((found.getD t []).getD j 0))
  | 0, n, hn => absurd hn (Nat.not_lt_zero _)
  | N + 1, n, hn => by
    have p2 := T.pm.two
    by_cases hz : n = 0
    · subst hz
      obtain ⟨c, e⟩ := K.fst R h
      refine ⟨c, fun j hj => ?_⟩
      rw [← e j hj, Fn, dif_pos (.inl rfl)]
    · have lt : n / p.toNat < n := Nat.div_lt_self (by omega) (by omega)
      obtain ⟨c, e⟩ := fn_span T C K N (n / p.toNat) (by omega)
      have hr : n % p.toNat < p.toNat := Nat.mod_lt _ (by omega)
      have hs : steps.getD (n % p.toNat) [] ∈ steps := getD_mem (by rw [T.np]; exact hr)
      have sl := T.st _ hs
      have ex : ∀ t, ∃ d : Nat → R, t < found.length → ∀ x, x < firsts.length → h.f ((columnLed p (steps.getD (n % p.toNat) []) (found.getD t [])).getD x 0) = sumTo found.length (fun s => d s * h.f ((found.getD s []).getD x 0)) := fun t => by
        by_cases ht : t < found.length
        · obtain ⟨d, hd⟩ := K.led _ (getD_mem (d := []) ht) _ hs R h
          exact ⟨d, fun _ => hd⟩
        · exact ⟨fun _ => 0, fun z => absurd z ht⟩
      refine ⟨fun s => sumTo found.length (fun t => c t * Classical.choose (ex t) s), fun i hi => ?_⟩
      have e0 : n = p.toNat * (n / p.toNat) + n % p.toNat := (Nat.div_add_mod n p.toNat).symm
      have e1 : Fn h p.toNat steps firsts n i = sumTo firsts.length (fun j => h.f (((steps.getD (n % p.toNat) []).getD i []).getD j 0) * Fn h p.toNat steps firsts (n / p.toNat) j) := by
        have q := fn_step h T C hi (n / p.toNat) (n % p.toNat) hr
        rw [← e0] at q
        exact q
      have rowl : ((steps.getD (n % p.toNat) []).getD i []).length = firsts.length := (T.rw _ hs _ (getD_mem (by omega))).1
      have e2 : Fn h p.toNat steps firsts n i = sumTo found.length (fun t => c t * h.f ((columnLed p (steps.getD (n % p.toNat) []) (found.getD t [])).getD i 0)) := by
        rw [e1]
        have a : sumTo firsts.length (fun j => h.f (((steps.getD (n % p.toNat) []).getD i []).getD j 0) * Fn h p.toNat steps firsts (n / p.toNat) j) = sumTo firsts.length (fun j => sumTo found.length (fun t => c t * (h.f (((steps.getD (n % p.toNat) []).getD i []).getD j 0) * h.f ((found.getD t []).getD j 0)))) := sumTo_congr fun j hj => by
          rw [e j hj, ← sumTo_mul]
          exact sumTo_congr fun t _ => by grind
        rw [a, sumTo_swap]
        refine sumTo_congr fun t ht => ?_
        rw [sumTo_mul]
        congr 1
        have fl := (K.ok _ (getD_mem (d := []) ht)).1
        rw [columnLed_at (by omega), summed_f h (by omega), fl]
      rw [e2]
      have b : sumTo found.length (fun t => c t * h.f ((columnLed p (steps.getD (n % p.toNat) []) (found.getD t [])).getD i 0)) = sumTo found.length (fun t => sumTo found.length (fun s => c t * Classical.choose (ex t) s * h.f ((found.getD s []).getD i 0))) := sumTo_congr fun t ht => by
        rw [Classical.choose_spec (ex t) ht i hi, ← sumTo_mul]
        exact sumTo_congr fun s _ => by grind
      rw [b, sumTo_swap]
      refine sumTo_congr fun s _ => ?_
      rw [sumTo_mulr]
/-- the row of a vector over the ring -/
theorem killed {begin firsts : List Int} {steps : List (List (List Int))} {found : List (List Int)} (T : Tb p begin steps firsts) (C : Cons p steps firsts) (K : Cols p firsts.length steps firsts found) {u : Nat → R}
    (hu : ∀ c ∈ found, sumTo firsts.length (fun j => u j * h.f (c.getD j 0)) = 0) : sumTo firsts.length (fun j => Ser.con (u j) * Fs h p.toNat steps firsts j) = 0 := by
  refine Ser.ext_at fun n => ?_
  rw [Ser.sum_at, Ser.zero_at]
  obtain ⟨c, e⟩ := fn_span h T C K (n + 1) n (Nat.lt_succ_self n)
  have a : sumTo firsts.length (fun j => (Ser.con (u j) * Fs h p.toNat steps firsts j).at_ n) = sumTo firsts.length (fun j => sumTo found.length (fun t => c t * (u j * h.f ((found.getD t []).getD j 0)))) := sumTo_congr fun j hj => by
    rw [Ser.con_mul_at]
    show u j * Fn h p.toNat steps firsts n j = _
    rw [e j hj, ← sumTo_mul]
    exact sumTo_congr fun t _ => by grind
  rw [a, sumTo_swap]
  refine sumTo_none fun t ht => ?_
  rw [sumTo_mul, hu _ (getD_mem ht)]
  grind
end
end Dg
end
section
set_option linter.all false
/-! The least table: rows of the vectors taken. -/
namespace Dg
open Lean.Grind
section
variable {R : Type} [CommRing R] {p : Int} (h : Hom R p)
/-- the row of a vector -/
def Row (m : Nat) (F : Nat → Ser R) (v : List Int) : Ser R := sumTo m (fun j => Ser.con (h.f (v.getD j 0)) * F j)
theorem con_add (a b : R) : Ser.con (a + b) = Ser.con a + Ser.con b := Ser.ext_at fun n => by
  rw [Ser.add_at]
  cases n with
  | zero => rfl
  | succ n => show (0 : R) = 0 + 0; grind
theorem con_mul (a b : R) : Ser.con (a * b) = Ser.con a * Ser.con b := Ser.ext_at fun n => by
  rw [Ser.con_mul_at]
  cases n with
  | zero => rfl
  | succ n => show (0 : R) = a * 0; grind
theorem con_sub (a b : R) : Ser.con (a - b) = Ser.con a - Ser.con b := Ser.ext_at fun n => by
  rw [Ser.sub_at]
  cases n with
  | zero => rfl
  | succ n => show (0 : R) = 0 - 0; grind
theorem con_sum (n : Nat) (f : Nat → R) : Ser.con (sumTo n f) = sumTo n (fun i => Ser.con (f i)) := by
  induction n with
  | zero => exact Ser.con_zero
  | succ n ih => rw [sumTo_succ, sumTo_succ, con_add, ih]
/-- the same sign, the same row -/
theorem row_mix {begin firsts : List Int} {steps : List (List (List Int))} {found : List (List Int)} (T : Tb p begin steps firsts) (C : Cons p steps firsts) (K : Cols p firsts.length steps firsts found) {v : List Int} {tk : List (List Int)} {c : Nat → R}
    (hv : v.length = firsts.length) (ht : ∀ t ∈ tk, t.length = firsts.length)
    (hs : ∀ x, x < found.length → h.f (summed p v (found.getD x [])) = sumTo tk.length (fun t => c t * h.f (summed p (tk.getD t []) (found.getD x [])))) :
    Row h firsts.length (Fs h p.toNat steps firsts) v = sumTo tk.length (fun t => Ser.con (c t) * Row h firsts.length (Fs h p.toNat steps firsts) (tk.getD t [])) := by
  have k := killed h T C K (u := fun j => h.f (v.getD j 0) - sumTo tk.length (fun t => c t * h.f ((tk.getD t []).getD j 0))) fun w hw => by
    obtain ⟨x, hx, rfl⟩ := List.mem_iff_getElem.mp hw
    have hl := (K.ok _ hw).1
    have q := hs x hx
    rw [show found.getD x [] = found[x] by rw [List.getD_eq_getElem?_getD, List.getElem?_eq_getElem hx]; rfl] at q
    rw [summed_f h (by omega), hl] at q
    have e : sumTo firsts.length (fun j => (h.f (v.getD j 0) - sumTo tk.length (fun t => c t * h.f ((tk.getD t []).getD j 0))) * h.f (found[x].getD j 0)) = sumTo firsts.length (fun j => h.f (v.getD j 0) * h.f (found[x].getD j 0) - sumTo tk.length (fun t => c t * (h.f ((tk.getD t []).getD j 0) * h.f (found[x].getD j 0)))) := sumTo_congr fun j _ => by
      have z : sumTo tk.length (fun t => c t * h.f ((tk.getD t []).getD j 0)) * h.f (found[x].getD j 0) = sumTo tk.length (fun t => c t * (h.f ((tk.getD t []).getD j 0) * h.f (found[x].getD j 0))) := by
        rw [← sumTo_mulr]
        exact sumTo_congr fun t _ => by grind
      rw [← z]
      grind
    rw [e, sumTo_sub, q, sumTo_swap]
    have e2 : sumTo tk.length (fun t => sumTo firsts.length (fun j => c t * (h.f ((tk.getD t []).getD j 0) * h.f (found[x].getD j 0)))) = sumTo tk.length (fun t => c t * h.f (summed p (tk.getD t []) found[x])) := sumTo_congr fun t htt => by
      have := ht _ (getD_mem (d := []) htt)
      rw [sumTo_mul, summed_f h (by omega), hl]
    rw [e2]
    grind
  have e : sumTo firsts.length (fun j => Ser.con (h.f (v.getD j 0) - sumTo tk.length (fun t => c t * h.f ((tk.getD t []).getD j 0))) * Fs h p.toNat steps firsts j) = sumTo firsts.length (fun j => Ser.con (h.f (v.getD j 0)) * Fs h p.toNat steps firsts j - sumTo tk.length (fun t => Ser.con (c t) * (Ser.con (h.f ((tk.getD t []).getD j 0)) * Fs h p.toNat steps firsts j))) := sumTo_congr fun j _ => by
    have z : Ser.con (sumTo tk.length (fun t => c t * h.f ((tk.getD t []).getD j 0))) * Fs h p.toNat steps firsts j = sumTo tk.length (fun t => Ser.con (c t) * (Ser.con (h.f ((tk.getD t []).getD j 0)) * Fs h p.toNat steps firsts j)) := by
      rw [con_sum, ← sumTo_mulr]
      exact sumTo_congr fun t _ => by rw [con_mul]; grind
    rw [con_sub, ← z]
    grind
  rw [e, sumTo_sub, sumTo_swap] at k
  unfold Row
  have e3 : sumTo tk.length (fun t => sumTo firsts.length (fun j => Ser.con (c t) * (Ser.con (h.f ((tk.getD t []).getD j 0)) * Fs h p.toNat steps firsts j))) = sumTo tk.length (fun t => Ser.con (c t) * sumTo firsts.length (fun j => Ser.con (h.f ((tk.getD t []).getD j 0)) * Fs h p.toNat steps firsts j)) := sumTo_congr fun t _ => by rw [sumTo_mul]
  rw [e3] at k
  grind
theorem ledS_f {m : Nat} {acc : List Int} {q : Int × List Int} (ha : acc.length = m) (hq : q.2.length = m) : (ledS p acc q).length = m ∧ ∀ j, j < m → h.f ((ledS p acc q).getD j 0) = h.f (acc.getD j 0) + h.f q.1 * h.f (q.2.getD j 0) := by
  unfold ledS
  by_cases hc : q.1 ≠ 0
  · rw [if_pos hc]
    refine ⟨by rw [List.length_map, List.length_zip]; omega, fun j hj => ?_⟩
    rw [List.getD_eq_getElem?_getD, List.getElem?_map, List.getElem?_eq_getElem (by rw [List.length_zip]; omega), List.getElem_zip, List.getD_eq_getElem?_getD (l := acc), List.getElem?_eq_getElem (by omega), List.getD_eq_getElem?_getD (l := q.2), List.getElem?_eq_getElem (by omega)]
    show h.f ((acc[j] + q.1 * q.2[j]) % p) = h.f acc[j] + h.f q.1 * h.f q.2[j]
    rw [h.mod, h.add, h.mul]
  · rw [if_neg hc]
    have hc : q.1 = 0 := Classical.not_not.mp hc
    refine ⟨ha, fun j _ => ?_⟩
    rw [hc, h.zero]
    grind
theorem led_go {m : Nat} : ∀ (v : List Int) (s : List (List Int)) (acc : List Int), v.length = s.length → acc.length = m → (∀ r ∈ s, r.length = m) → ((v.zip s).foldl (ledS p) acc).length = m ∧ ∀ j, j < m → h.f (((v.zip s).foldl (ledS p) acc).getD j 0) = h.f (acc.getD j 0) + sumTo v.length (fun i => h.f (v.getD i 0) * h.f ((s.getD i []).getD j 0))
  | [], [], acc, _, ha, _ => ⟨ha, fun j _ => by
    show h.f (acc.getD j 0) = _
    rw [List.length_nil, sumTo_zero]
    grind⟩
  | a :: v, r :: s, acc, hl, ha, hs => by
    obtain ⟨l1, e1⟩ := ledS_f h (q := (a, r)) ha (hs r List.mem_cons_self)
    obtain ⟨l2, e2⟩ := led_go v s (ledS p acc (a, r)) (by simpa using hl) l1 fun r hr => hs r (List.mem_cons_of_mem _ hr)
    rw [List.zip_cons_cons, List.foldl_cons]
    refine ⟨l2, fun j hj => ?_⟩
    rw [e2 j hj, e1 j hj, List.length_cons, sumTo_head]
    show _ = _ + (h.f a * h.f (r.getD j 0) + sumTo v.length (fun i => h.f (v.getD i 0) * h.f ((s.getD i []).getD j 0)))
    grind
theorem led_f {m : Nat} {v : List Int} {s : List (List Int)} (hv : v.length = m) (hs : s.length = m) (hr : ∀ r ∈ s, r.length = m) : (led p v s).length = m ∧ ∀ j, j < m → h.f ((led p v s).getD j 0) = sumTo m (fun i => h.f (v.getD i 0) * h.f ((s.getD i []).getD j 0)) := by
  unfold led
  obtain ⟨l, e⟩ := led_go h (m := m) v s (List.replicate v.length 0) (by omega) (by rw [List.length_replicate]; exact hv) hr
  refine ⟨l, fun j hj => ?_⟩
  have z : (List.replicate v.length (0 : Int)).getD j 0 = 0 := by
    rw [List.getD_eq_getElem?_getD, List.getElem?_replicate]
    split <;> rfl
  rw [e j hj, z, h.zero, hv]
  grind
/-- a part of a vector's row: the row of the vector led on -/
theorem row_sec {begin firsts : List Int} {steps : List (List (List Int))} {F : Nat → Ser R} (T : Tb p begin steps firsts) (S : Sys h steps firsts F) {v : List Int} (hv : v.length = firsts.length) {r : Nat} (hr : r < p.toNat) :
    sec p.toNat r (Row h firsts.length F v) = Row h firsts.length F (led p v (steps.getD r [])) := by
  have hs : steps.getD r [] ∈ steps := getD_mem (by rw [T.np]; exact hr)
  obtain ⟨_, le⟩ := led_f h hv (T.st _ hs) fun row hrow => (T.rw _ hs row hrow).1
  unfold Row
  have e0 : sumTo firsts.length (fun j => Ser.con (h.f (v.getD j 0)) * F j) = sumTo firsts.length (fun i => sumTo firsts.length (fun j => Ser.con (h.f (v.getD j 0)) * ser h (lineOf steps j i)) * spr p.toNat (F i)) := by
    have a : sumTo firsts.length (fun j => Ser.con (h.f (v.getD j 0)) * F j) = sumTo firsts.length (fun j => sumTo firsts.length (fun i => Ser.con (h.f (v.getD j 0)) * ser h (lineOf steps j i) * spr p.toNat (F i))) := sumTo_congr fun j hj => by
      rw [S.rec_ j hj, ← sumTo_mul]
      exact sumTo_congr fun i _ => by grind
    rw [a, sumTo_swap]
    exact sumTo_congr fun i _ => by rw [sumTo_mulr]
  rw [e0, sec_sum]
  refine sumTo_congr fun i hi => ?_
  rw [sec_mul_spr hr, sec_sum, le i hi, con_sum]
  congr 1
  refine sumTo_congr fun j hj => ?_
  have ec : sec p.toNat r (ser h (lineOf steps j i)) = Ser.con (h.f (((steps.getD r []).getD j []).getD i 0)) := Ser.ext_at fun k => by
    show h.f ((lineOf steps j i).getD (p.toNat * k + r) 0) = _
    rw [line_at T]
    cases k with
    | zero => rw [Nat.mul_zero, Nat.zero_add]; rfl
    | succ k =>
      have np := T.np
      have big : steps.length ≤ p.toNat * (k + 1) + r := by
        rw [np, Nat.mul_succ]
        omega
      rw [List.getD_eq_getElem?_getD (l := steps), List.getElem?_eq_none big]
      exact h.zero
  rw [con_mul, ← ec]
  refine Ser.ext_at fun n => ?_
  show (Ser.con (h.f (v.getD j 0)) * ser h (lineOf steps j i)).at_ (p.toNat * n + r) = _
  rw [Ser.con_mul_at, Ser.con_mul_at]
  rfl
/-- the kept table goes on and begins as the rows of what was taken -/
theorem keep_sys {begin firsts begin' firsts' : List Int} {steps steps' : List (List (List Int))} {F : Nat → Ser R} (T : Tb p begin steps firsts) (S : Sys h steps firsts F) (T' : Tb p begin' steps' firsts') {tk : List (List Int)} (hl : tk.length = firsts'.length) (ht : ∀ t ∈ tk, t.length = firsts.length)
    (hrec : ∀ k, k < firsts'.length → ∀ r, r < p.toNat → Row h firsts.length F (led p (tk.getD k []) (steps.getD r [])) = sumTo firsts'.length (fun l => Ser.con (h.f (((steps'.getD r []).getD k []).getD l 0)) * Row h firsts.length F (tk.getD l [])))
    (hini : ∀ k, k < firsts'.length → firsts'.getD k 0 = summed p (tk.getD k []) firsts) : Sys h steps' firsts' (fun k => Row h firsts.length F (tk.getD k [])) where
  rec_ k hk := by
    have p2 := T.pm.two
    refine ser_by_sec (p := p.toNat) (by omega) fun r hr => ?_
    rw [row_sec h T S (ht _ (getD_mem (by omega))) hr, hrec k hk r hr, sec_sum]
    refine sumTo_congr fun l hl2 => ?_
    rw [sec_mul_spr hr]
    congr 1
    refine Ser.ext_at fun n => ?_
    show _ = h.f ((lineOf steps' k l).getD (p.toNat * n + r) 0)
    rw [line_at T']
    cases n with
    | zero => rw [Nat.mul_zero, Nat.zero_add]; rfl
    | succ n =>
      have np := T'.np
      have big : steps'.length ≤ p.toNat * (n + 1) + r := by
        rw [np, Nat.mul_succ]
        omega
      have z : steps'.getD (p.toNat * (n + 1) + r) [] = [] := by
        rw [List.getD_eq_getElem?_getD, List.getElem?_eq_none big]
        rfl
      rw [z]
      exact h.zero.symm
  ini k hk := by
    have hv := ht _ (getD_mem (d := []) (show k < tk.length by omega))
    rw [hini k hk, summed_f h hv]
    unfold Row
    rw [Ser.sum_at]
    refine sumTo_congr fun j hj => ?_
    rw [Ser.con_mul_at, S.ini j hj]
end
end Dg
end
section
set_option Elab.async false
set_option linter.all false
set_option maxRecDepth 100000
set_option maxHeartbeats 4000000
namespace Dg
open PySem PySem.Spec PyProof.Rows L2
/-! ### t[r::c] of a tuple -/
def stepV (xs : List V) (r c : Nat) : List V := (List.range (stepsOf xs.length r c)).filterMap fun m => xs[r + m * c]?
section
variable {prog : Program} {w : World} {A : Around} {E : Value → Shared → Prop} {s : Shared}
theorem stepsOf_places {n r c : Nat} (hc : 0 < c) : Builtin.Slice.slicePlaces ((min r n : Nat) : Int) (n : Int) (c : Int) = stepsOf n r c := by
  unfold Builtin.Slice.slicePlaces stepsOf
  rw [if_pos (show (c : Int) > 0 by omega)]
  by_cases h : r < n
  · rw [if_pos h, if_pos (by omega)]
    have e : ((n : Int) - ((min r n : Nat) : Int) - 1) = ((n - r - 1 : Nat) : Int) := by omega
    rw [e, ← Int.natCast_ediv]
    generalize (n - r - 1) / c = z
    omega
  · rw [if_neg h, if_neg (by omega)]
    rfl
theorem slice_adj {n r c : Nat} (hc : 0 < c) : Builtin.Slice.sliceAdjust (some (r : Int)) none (c : Int) (n : Int) = (((min r n : Nat) : Int), (n : Int)) := by
  have h1 : ¬ ((c : Int) < 0) := by omega
  unfold Builtin.Slice.sliceAdjust
  simp only [h1, if_false]
  refine Prod.ext ?_ rfl
  show (if (r : Int) < 0 then max ((r : Int) + (n : Int)) 0 else min (r : Int) (n : Int)) = ((min r n : Nat) : Int)
  rw [if_neg (by omega)]
  omega
theorem applied_step {sl : Addr} {vl vu vs : Value} {r c n : Nat} {Q : Int × Int × Nat → Shared → Prop} (hs : s.heap.IsSliceOf sl vl vu vs) (pl : IsPart vl (some (r : Int))) (pu : IsPart vu none) (ps : IsPart vs (some (c : Int))) (hc : 0 < c)
    (h : Q (((min r n : Nat) : Int), (c : Int), stepsOf n r c) s) : wpAny (model prog w) A (Builtin.Slice.sliceApplied (.ref sl) (pure (n : Int))) Q E s := by
  obtain ⟨os, hos, _, hds⟩ := id hs
  unfold Builtin.Slice.sliceApplied Builtin.Slice.sliceFields
  refine wpAny_bind (wpAny_bind (wpAny_field hos hds (x := vl) rfl (wpAny_bind (wpAny_field hos hds (x := vu) rfl (wpAny_bind (wpAny_field hos hds (x := vs) rfl (wpAny_pure ?_)))))))
  refine wpAny_bind (HT.slicePart_ ps ?_)
  show wpAny _ _ (if ((c : Int) == 0) = true then _ else _) _ _ s
  rw [if_neg (by simp; omega)]
  refine wpAny_bind (HT.slicePart_ pl (wpAny_bind (HT.slicePart_ pu (wpAny_bind (wpAny_pure ?_)))))
  show wpAny _ _ (match Builtin.Slice.sliceAdjust (some (r : Int)) none (c : Int) (n : Int) with | (lo, hi) => pure (lo, (c : Int), Builtin.Slice.slicePlaces lo hi (c : Int))) _ _ s
  rw [slice_adj hc]
  show wpAny _ _ (pure (((min r n : Nat) : Int), (c : Int), Builtin.Slice.slicePlaces ((min r n : Nat) : Int) (n : Int) (c : Int))) _ _ s
  rw [stepsOf_places hc]
  exact wpAny_pure h
theorem get_step {t sl : Addr} {its : List Value} {vl vu vs : Value} {r c : Nat} {Q : Value → Shared → Prop} (ht : IsTup s.heap t its.toArray) (hs : s.heap.IsSliceOf sl vl vu vs) (pl : IsPart vl (some (r : Int))) (pu : IsPart vu none) (ps : IsPart vs (some (c : Int))) (hc : 2 ≤ c)
    (hsz : stepsOf its.length r c ≤ sizeLine)
    (h : Q (.ref s.heap.objs.size) { s with heap := s.heap.push { cls := .type "tuple", data := .seq ((List.range (stepsOf its.length r c)).filterMap fun m => its[r + m * c]?).toArray } }) :
    wpAny (model prog w) A (getItem (.ref t) (.ref sl)) Q E s := by
  have hq : (List.range (stepsOf its.length r c)).filterMap (fun (m : Nat) => its.toArray[(((min r its.length : Nat) : Int) + (m : Int) * (c : Int)).toNat]?) = (List.range (stepsOf its.length r c)).filterMap fun m => its[r + m * c]? := by
    by_cases hr : r < its.length
    · congr 1
      funext m
      have e : (((min r its.length : Nat) : Int) + (m : Int) * (c : Int)).toNat = r + m * c := by
        rw [← Int.natCast_mul, Nat.min_eq_left (Nat.le_of_lt hr)]
        omega
      rw [e, List.getElem?_toArray]
    · unfold stepsOf
      rw [if_neg hr]
      rfl
  have hfit : sizeOk (.seq ((List.range (stepsOf its.length r c)).filterMap fun m => its[r + m * c]?).toArray) := by
    show (((List.range (stepsOf its.length r c)).filterMap fun m => its[r + m * c]?).toArray).size ≤ sizeLine
    rw [List.size_toArray]
    exact Nat.le_trans (List.length_filterMap_le ..) (by rw [List.length_range]; exact hsz)
  obtain ⟨os, hos, hcs, hds⟩ := id hs
  have hTs : s.TypeIs (.ref sl) "slice" := ⟨os, hos, hcs⟩
  unfold getItem
  try with_reducible refine wpAny_holding ?_
  first | refine wpAny_bind (wpAny_pure ?_) | skip
  refine wpAny_bind (wpAny_sequenceKey ht.typeIs (by decide) ?_)
  refine wpAny_bind (wpAny_callSpecial?_slot (name := Str.ofString "__getitem__") ht.typeIs PyProof.Rows.slot_tuple_getitem
    (wpAny_call_entry PyProof.Rows.slot_tuple_getitem ht.typeIs PyProof.Rows.entry_tuple_getitem ?_ (PyProof.Rows.args_tuple_getitem _ _)))
  show wpAny _ _ (Builtin.Tuple.tupleItemsOf (.ref t) >>= _) _ _ s
  refine wpAny_bind (PyProof.Rows.tupleItemsOf_ ht ?_)
  refine wpAny_bind (wpAny_typeOf hTs ?_)
  rw [if_pos (by decide)]
  have hz : ((its.toArray.size : Nat) : Int) = (its.length : Int) := by rw [List.size_toArray]
  rw [hz]
  refine wpAny_bind (applied_step hs pl pu ps (by omega) ?_)
  show wpAny _ _ (if (((min r its.length : Nat) : Int) == 0 && (c : Int) == 1 && stepsOf its.length r c == its.toArray.size) = true then _ else _) _ _ s
  rw [if_neg (by
    intro q
    rw [Bool.and_eq_true, Bool.and_eq_true] at q
    have q1 : (c : Int) = 1 := eq_of_beq q.1.2
    omega), hq]
  first
    | exact wpAny_bind (m := Builtin.Tuple.tupleExact _) (wpAny_newObj_type (wpAny_pure ⟨_, rfl, wpAny_pure h⟩) hfit)
    | exact wpAny_bind (m := Builtin.Tuple.tupleExact _) (wpAny_newObj_type (wpAny_bind (wpAny_pure (wpAny_pure ⟨_, rfl, wpAny_pure h⟩))) hfit)
    | exact wpAny_bind (wpAny_bind (m := Builtin.Tuple.tupleExact _) (wpAny_newObj_type (wpAny_pure (wpAny_pure ⟨_, rfl, wpAny_pure h⟩)) hfit))
    | exact wpAny_bind (wpAny_bind (m := Builtin.Tuple.tupleExact _) (wpAny_newObj_type (wpAny_pure ⟨_, rfl, wpAny_pure h⟩) hfit))
end
theorem vals_pick {xs : List V} {us : List Value} (r : Vals xs us) (f : Nat → Nat) : ∀ l : List Nat, Vals (l.filterMap fun m => xs[f m]?) (l.filterMap fun m => us[f m]?)
  | [] => .nil
  | m :: l => by
    rw [List.filterMap_cons, List.filterMap_cons]
    cases e : xs[f m]? with
    | none =>
      rw [r.none_of e]
      exact vals_pick r f l
    | some x =>
      obtain ⟨u, hu, ru⟩ := r.get e
      rw [hu]
      exact .cons ru (vals_pick r f l)
theorem stepV_length (xs : List V) (r c : Nat) : (stepV xs r c).length ≤ stepsOf xs.length r c := by
  unfold stepV
  exact Nat.le_trans (List.length_filterMap_le ..) (by rw [List.length_range]; exact Nat.le_refl _)
theorem stepsOf_le {n r c : Nat} : stepsOf n r c ≤ n := by
  unfold stepsOf
  split
  · have := Nat.div_le_self (n - r - 1) c
    omega
  · omega
def tStep (K : PySem.W.Frag) (te : TE) (tl ts : TO) : TE := fun σ H Q => te σ H fun x H1 => tl σ H1 fun l H2 => ts σ H2 fun c H3 => ∃ (a : Addr) (xs : List V) (r k : Nat),
  x = .ref a ∧ SqT K H3 a xs ∧ l = some (r : Int) ∧ c = some (k : Int) ∧ 2 ≤ k ∧ ∀ p, H3 p = none → Q (.ref p) (upd H3 p (.tup (stepV xs r k)))
theorem pe_stepT {X : Cx} {e lo st : Expr} {te : TE} {tl ts : TO} {pos p2 : Pos} (he : PE X e te) (hl : PO X (some lo) tl) (hst : PO X (some st) ts) : PE X (.Subscript e (.Slice (some lo) none (some st) p2) pos) (tStep X.K te tl ts) := by
  refine ⟨fun pins s σ H Q I h => ?_⟩
  refine Subscript_ (thn (he.run pins s σ H _ I h) fun v s1 ⟨x, H1, I1, r1, q1⟩ => ?_)
  refine wpAny_Slice (thn (hl.run pins s1 σ H1 _ I1 q1) fun vl s2 ⟨l, H2, I2, pl, q2⟩ => ?_)
  refine thn (po_none.run pins s2 σ H2 (fun o H3 => o = none ∧ H3 = H2) I2 ⟨rfl, rfl⟩) fun vu s3 ⟨u, H3, I3, pu, eu, e3⟩ => ?_
  rw [e3] at I3
  refine thn (hst.run pins s3 σ H2 _ I3 q2) fun vs s4 ⟨o, H4, I4, ps, q4⟩ => ?_
  obtain ⟨a, xs, r, k, ex, hx, e1, e2, hk, q⟩ := q4
  subst ex e1 e2 eu
  cases r1
  have I5 : Inv X pins σ H4 { s4 with heap := s4.heap.push { cls := .type "slice", data := .fields #[vl, vu, vs] } } := I4.kept (t' := s4.toks) fun b ob q => Heap.get?_push_of_some _ q
  obtain ⟨its, rv, ht, hz⟩ := I5.tuple hx
  have hlen : its.length = xs.length := rv.length.symm
  show wpAny (model X.prog X.w) X.A (subscriptTail e (.Slice (some lo) none (some st) p2) (.ref a) (.ref s4.heap.objs.size)) (EP X pins σ Q) X.xe { s4 with heap := s4.heap.push { cls := .type "slice", data := .fields #[vl, vu, vs] } }
  have hsl : stepsOf its.length r k ≤ sizeLine := by
    rw [hlen]
    exact Nat.le_trans stepsOf_le hz
  refine tail_any (ops := [.ref a, .ref s4.heap.objs.size]) ht.typeIs PyProof.Rows.slot_tuple_getitem.lookup ?_ (by with_unfolding_all rfl)
  refine get_step ht (Heap.IsSliceOf.new _ vl vu vs) pl pu ps hk hsl ?_
  refine ⟨.ref _, _, I5.laid (t' := s4.toks) (o := .tup (stepV xs r k)) (fun b ob q => Heap.get?_push_of_some _ q) (Nat.le_refl _) ?_, rfl, q _ (I5.hok.fresh (Nat.le_refl _))⟩
  have hv : Vals (stepV xs r k) ((List.range (stepsOf its.length r k)).filterMap fun m => its[r + m * k]?) := by
    unfold stepV
    rw [hlen]
    exact vals_pick rv (fun m => r + m * k) _
  exact ⟨Nat.le_trans (stepV_length xs r k) (by rw [← hlen]; exact hsl), _, hv, ⟨_, Heap.get?_push_size _ rfl, rfl, _, rfl⟩⟩
end Dg
end
section
set_option Elab.async false
set_option linter.all false
set_option maxRecDepth 100000
set_option maxHeartbeats 4000000
namespace Dg
open PySem PySem.Spec PyProof.Rows L2
/-! ### lists (true) and tuples (false), their iterators -/
def SqK (K : PySem.W.Frag) (H : Hp) (a : Addr) (xs : List V) : Bool → Prop
  | true => SqL K H a xs
  | false => SqT K H a xs
def IterK (h : Heap) (it a : Addr) (i : Nat) : Bool → Prop
  | true => h.IsListIter it a i
  | false => h.IsTupleIter it a i
def SeqK (h : Heap) (a : Addr) (items : Array Value) : Bool → Prop
  | true => h.IsList a items
  | false => h.IsTuple a items
def iterK (a : Addr) : Bool → Obj
  | true => { cls := .type "list_iterator", data := .fields #[.ref a, .int 0 0] }
  | false => { cls := .type "tuple_iterator", data := .fields #[.ref a, .int 0 0] }
theorem iterK_new {h : Heap} {it a : Addr} : ∀ {b : Bool}, h.get? it = some (iterK a b) → IterK h it a 0 b
  | true, e => ⟨_, e, rfl, rfl⟩
  | false, e => ⟨_, e, rfl, rfl⟩
theorem IterK.obj {h : Heap} {it a : Addr} {i : Nat} : ∀ {b : Bool}, IterK h it a i b → ∃ o vs, h.get? it = some o ∧ o.data = .fields vs
  | true, ⟨o, e, _, d⟩ => ⟨o, _, e, d⟩
  | false, ⟨o, e, _, d⟩ => ⟨o, _, e, d⟩
theorem IterK.keep {h h' : Heap} {it a : Addr} {i : Nat} (k : ∀ o, h.get? it = some o → h'.get? it = some o) : ∀ {b : Bool}, IterK h it a i b → IterK h' it a i b
  | true, st => Heap.IsListIter.at st k
  | false, st => Heap.IsTupleIter.at st k
theorem SeqK.obj {h : Heap} {a : Addr} {items : Array Value} : ∀ {b : Bool}, SeqK h a items b → ∃ o n, h.get? a = some o ∧ o.data = .seq items n
  | true, ⟨o, e, _, n, d⟩ => ⟨o, n, e, d⟩
  | false, ⟨o, e, _, n, d⟩ => ⟨o, n, e, d⟩
theorem apartK {h : Heap} {it a c : Addr} {i : Nat} {items : Array Value} {b b' : Bool} (x : IterK h it a i b) (y : SeqK h c items b') : c ≠ it := fun e => by
  obtain ⟨o, vs, e1, d1⟩ := x.obj
  obtain ⟨o', n, e2, d2⟩ := y.obj
  rw [e, e1] at e2
  cases e2
  rw [d1] at d2
  cases d2
theorem begK (a : Addr) (items : Array Value) : ∀ b : Bool, Begins (.ref a) (iterK a b) fun h => SeqK h a items b
  | true => begins_list a items
  | false => begins_tuple a items
theorem drawK {prog : Program} {w : World} {A : Around} (hh : A.handled = none) (it a : Addr) (hne : a ≠ it) (items : Array Value) :
    ∀ b : Bool, Draws prog w A it [it, a] items.size (fun i v => items[i]? = some v) (fun i h => IterK h it a i b ∧ SeqK h a items b)
  | true => Draws.list hh it a hne items
  | false => Draws.tuple hh it a hne items
section
variable {X : Cx} {pins : List (Addr × Obj)} {σ : L2.St} {H : Hp} {s : Shared}
theorem seqK_of (I : Inv X pins σ H s) {a : Addr} {xs : List V} : ∀ {b : Bool}, SqK X.K H a xs b → ∃ its : List Value, Vals xs its ∧ SeqK s.heap a its.toArray b ∧ xs.length ≤ sizeLine
  | true, h => by
    obtain ⟨its, r, p, z⟩ := I.list h
    exact ⟨its, r, p.isList, z⟩
  | false, h => by
    obtain ⟨its, r, p, z⟩ := I.tuple h
    exact ⟨its, r, p, z⟩
theorem sqK_inj (I : Inv X pins σ H s) {a : Addr} {xs ys : List V} : ∀ {b : Bool}, SqK X.K H a xs b → SqK X.K H a ys b → xs = ys
  | true, h, h' => I.list_inj h h'
  | false, h, h' => I.tuple_inj h h'
end

/-! ### enumerate(tuple) -/
theorem meets_enum_tup (l : Addr) (items : Array Value) :
    Meets (Builtin.«enumerate.__new__» ⟨[.type "enumerate", .ref l], []⟩) (fun _ R s => s.heap.IsTuple l items ∧
      R (.ok (.ret (.ref (s.heap.push { cls := .type "tuple_iterator", data := .fields #[.ref l, .int 0 0] }).objs.size)))
        { s with heap := (s.heap.push { cls := .type "tuple_iterator", data := .fields #[.ref l, .int 0 0] }).push { cls := .type "enumerate", data := .fields #[.none, .bool false, .ref s.heap.objs.size, rawInt 0, .none, .none] } }) :=
  .of_wp fun prog w A R s h => by
    obtain ⟨hp, g, d, tk, os⟩ := s
    obtain ⟨hT, h⟩ := h
    have hsub := sub_enumerate
    obtain ⟨⟨c0, dct, dt, sl⟩, hl, hc0, n0, hd0⟩ := id hT
    simp only at hc0 hd0
    subst hc0 hd0
    wp_walk using AutoSeq1.wpAny_loadPart' hl
    refine wpAny_stack_any fun st => wpAny_pure ?_
    split
    · rename_i c _ _ _ _ _
      cases (c == Value.type "enumerate")
      · wp_walk using AutoSeq1.wpAny_loadPart' hl, wpAny_pyIter_tuple hT
        exact ⟨_, rfl, h⟩
      · wp_walk using AutoSeq1.wpAny_loadPart' hl, wpAny_pyIter_tuple hT
        exact ⟨_, rfl, h⟩
    · wp_walk using AutoSeq1.wpAny_loadPart' hl, wpAny_pyIter_tuple hT
      exact ⟨_, rfl, h⟩
theorem call_enum_tup {prog : Program} {w : World} {A : Around} {E : Value → Shared → Prop} {s : Shared} {l : Addr} {items : Array Value} {Q : Value → Shared → Prop} (hL : s.heap.IsTuple l items)
    (h : ∀ h', IsEnum h' (s.heap.objs.size + 1) s.heap.objs.size 0 .none → h'.IsTupleIter s.heap.objs.size l 0 → h'.objs.size = s.heap.objs.size + 2 →
      (∀ b o, s.heap.get? b = some o → h'.get? b = some o) → Q (.ref (s.heap.objs.size + 1)) { s with heap := h' }) :
    wpAny (model prog w) A (call (.type "enumerate") [.ref l]) Q E s := by
  refine callType_new F.called_enumerate (by decide) (F.typeCall_enumerate_1 _) (F.newCall_enumerate_1 _) (fun obj => F.args_object_init_2 obj _) F.entry_enumerate_new (meets_enum_tup l items) ⟨hL, ?_⟩
  generalize ho1 : ({ cls := .type "tuple_iterator", data := .fields #[.ref l, .int 0 0] } : Obj) = o1
  have f1 : o1.isFreed = false := by rw [← ho1]; rfl
  have hz : (s.heap.push o1).objs.size = s.heap.objs.size + 1 := Heap.size_push ..
  have he := Heap.get?_push_size (s.heap.push o1) (o := { cls := .type "enumerate", data := .fields #[.none, .bool false, .ref s.heap.objs.size, rawInt 0, .none, .none] }) rfl
  rw [hz] at he
  show _ ∧ _
  rw [hz]
  refine ⟨⟨_, he, rfl⟩, h _ he ⟨o1, Heap.get?_push_of_some _ (Heap.get?_push_size _ f1), by rw [← ho1], by rw [← ho1]; rfl⟩ (by rw [Heap.size_push, hz]) fun b o x => Heap.get?_push_of_some _ (Heap.get?_push_of_some _ x)⟩
/-- the tuple at a, each item in a new pair with its place -/
def IteT (K : PySem.W.Frag) (a : Addr) : It where
  go i H := ∃ (xs : List V) (x : V), SqT K H a xs ∧ xs[i]? = some x
  yld i H v H' := ∃ T x, v = .ref T ∧ H T = none ∧ H' = upd H T (.tup [.int (i : Nat), x]) ∧ ∀ xs, SqT K H a xs → xs[i]? = some x
  stop i H := ∃ xs : List V, SqT K H a xs ∧ xs.length = i
theorem turn_enumT {P : Program} {w : World} {K : PySem.W.Frag} {elts : List Expr} {kk : Nat} {tpos : Pos} (a e it : Addr) :
    Turn P w K (.Tuple elts kk tpos) (IteT K a) [e, it] e (fun i h => (∃ old, IsEnum h e it ((i : Nat) : Int) old) ∧ IterK h it a i false ∧ e ≠ it) where
  mem := by simp
  obj := fun i h st b hb => by
    obtain ⟨⟨old, he⟩, hi, _⟩ := st
    obtain ⟨o, vs, ho, hd⟩ := hi.obj
    rcases (show b = e ∨ b = it by simpa using hb) with z | z
    · rw [z]
      exact ⟨_, he, fun v q => nomatch q⟩
    · rw [z]
      exact ⟨o, ho, fun v q => by rw [hd] at q; cases q⟩
  keep := fun i h h' ⟨⟨old, he⟩, hi, hne⟩ k => ⟨⟨old, k e (by simp) _ he⟩, hi.keep fun o q => k it (by simp) o q, hne⟩
  item := by
    intro X hP hw hK hc i pins s σ H E I hf st hg
    subst hP hw hK
    obtain ⟨⟨old, he⟩, hit, hne⟩ := st
    obtain ⟨xs, x, hq, hx⟩ := hg
    obtain ⟨its, rv, p, _⟩ := seqK_of (b := false) I hq
    obtain ⟨u, hu, ru⟩ := rv.get hx
    have hlt : i < its.toArray.size := by
      rw [List.size_toArray]
      exact (List.getElem?_eq_some_iff.mp hu).1
    have hae : e ∉ [it, a] := fun z => by
      rcases (show e = it ∨ e = a by simpa using z) with z | z
      · exact hne z
      · obtain ⟨o', n, e2, d2⟩ := p.obj
        rw [← z, he] at e2
        cases e2
        cases d2
    have hel : e < s.heap.objs.size := Heap.lt_size he
    have hil : it < s.heap.objs.size := by
      obtain ⟨o, vs, ho, _⟩ := hit.obj
      exact Heap.lt_size ho
    refine wpAny_pyNext_enum_itemD (drawK (A := X.A.in1) (I.ok.hd hc) it a (apartK hit p) its.toArray false) he ⟨hit, p⟩ hlt hne hae fun x' h' tk px ho hst' hT hsz hk => ?_
    have ex : x' = u := by
      have q : its.toArray[i]? = some x' := px
      rw [List.getElem?_toArray, hu] at q
      exact (Option.some.inj q).symm
    subst ex
    refine ⟨_, rfl, wpAny_letOwnedTupleGo_enum (s := { s with heap := h', toks := tk + 1 }) ho fun h'' he' sb => ?_⟩
    have hT2 : h''.get? s.heap.objs.size = some { cls := .type "tuple", data := .seq #[.int i tk, x'] } := (sb.2 _ (Nat.ne_of_gt hel)).trans hT
    have new : ObjOk X.prog X.w (upd H s.heap.objs.size (.tup [.int (i : Nat), x])) h'' s.heap.objs.size (.tup [.int (i : Nat), x]) :=
      ⟨by show 2 ≤ sizeLine; decide, [.int i tk, x'], .cons ⟨_, rfl⟩ (.cons ru .nil), ⟨_, hT2, rfl, _, rfl⟩⟩
    have I1 : Inv X pins σ (upd H s.heap.objs.size (.tup [.int (i : Nat), x])) { s with heap := h'', toks := tk + 1 } :=
      I.turnedNew (ch := [e, it]) (fun b ob hb q => (sb.2 b (fun z => hb (by simp [z]))).trans (hk b ob (fun z => hb (by simp [z])) (fun z => hb (by simp [z])) q)) hf (Nat.le_refl _) new
    refine ⟨.ref s.heap.objs.size, _, I1, rfl, ⟨_, x, rfl, I.hok.fresh (Nat.le_refl _), rfl, fun ys hy => by rw [I.tuple_inj hy hq]; exact hx⟩, ⟨⟨x', ?_⟩, hst'.1.keep fun o q => (sb.2 it (Ne.symm hne)).trans q, hne⟩, fun b hb => ?_⟩
    · have e1 : ((i + 1 : Nat) : Int) = (i : Int) + 1 := by omega
      rw [e1]
      exact he'
    · have hb' : b < s.heap.objs.size := by
        rcases (show b = e ∨ b = it by simpa using hb) with z | z
        · rw [z]
          exact hel
        · rw [z]
          exact hil
      rw [upd_ne (Nat.ne_of_lt hb')]
      exact (hf b hb).1
  done := by
    intro X hP hw hK hc i pins s σ H E I hf st hg
    subst hP hw hK
    obtain ⟨⟨old, he⟩, hit, hne⟩ := st
    obtain ⟨xs, hq, hx⟩ := hg
    obtain ⟨its, rv, p, _⟩ := seqK_of (b := false) I hq
    obtain ⟨f0, f1, f2, f3, f4, f5⟩ := hf it (by simp)
    have hl : its.toArray.size = i := by
      rw [List.size_toArray, ← rv.length]
      exact hx
    exact wpAny_pyNext_enum_endD (drawK (A := X.A.in1) (I.ok.hd hc) it a (apartK hit p) its.toArray false) he (by rw [hl]; exact ⟨hit, p⟩) fun h' eb => ⟨rfl, I.turned (t' := s.toks) (fun b o hb q => eb b o hb q) f0 f1 f3 f4 f5⟩
  self := fun A i s Q E st h => let ⟨⟨_, he⟩, _⟩ := st; wpAny_pyIter_enum he h
def iEnumT (K : PySem.W.Frag) (ta : TA) : TI := fun σ H R => ta σ H fun vs H1 => ∃ a xs, vs = [.ref a] ∧ SqT K H1 a xs ∧ R (IteT K a) H1
theorem pi_enumT {X : Cx} {e : Expr} {ta : TA} {p pos tpos : Pos} {elts : List Expr} {kk : Nat} (hg : Gl X "enumerate") (hm : X.mg "enumerate" = none) (ha : PA X [e] ta) (hs : starEach [e] X.env = [(false, eval e X.env)] := by rfl) :
    PI X (.Tuple elts kk tpos) (.Call (.Name "enumerate" p) [e] [] pos) (iEnumT X.K ta) := by
  refine ⟨fun pins s σ H R I h => ?_⟩
  refine Call_ (ld_blt I hg hm boot_enumerate (PyProof.Rows.callWith_type1 (thn (ha.run pos pins s σ H _ I h) fun us s1 ⟨vs, H1, I1, r1, q1⟩ => ?_) hs rfl))
  obtain ⟨a, xs, ex, hq, q⟩ := q1
  subst ex
  cases r1 with
  | cons r rr =>
    cases rr
    cases r
    obtain ⟨its, rv, p', _⟩ := seqK_of (b := false) I1 hq
    refine call_enum_tup p' fun h' he hit hsz hk => wpAny_pyIter_enum he ?_
    have I2 : Inv X pins σ H1 { s1 with heap := h' } := I1.kept (t' := s1.toks) hk
    refine ⟨s1.heap.objs.size + 1, [s1.heap.objs.size + 1, s1.heap.objs.size], _, _, H1, rfl, I2, turn_enumT a (s1.heap.objs.size + 1) s1.heap.objs.size, ⟨⟨.none, he⟩, hit, Nat.succ_ne_self _⟩, fun b hb => ?_, q⟩
    have hle : s1.heap.objs.size ≤ b := by
      rcases (show b = s1.heap.objs.size + 1 ∨ b = s1.heap.objs.size by simpa using hb) with z | z
      · rw [z]
        exact Nat.le_succ _
      · rw [z]
        exact Nat.le_refl _
    exact I1.fpOk hle (I1.hok.fresh hle)
theorem walk_enumT {K : PySem.W.Frag} {a : Addr} {xs : List V} : L2.Walk (IteT K a) xs.length (fun H => SqT K H a xs) (YPair (fun i => some (.int (i : Nat))) (fun i => xs[i]?)) where
  goes i _ hi q := ⟨xs, xs[i], q, by simp [hi]⟩
  stops _ q := ⟨xs, q, rfl⟩
  yields i H v H' _ q y := by
    obtain ⟨T, x, h1, h2, h3, h4⟩ := y
    exact ⟨T, .int (i : Nat), x, h1, h2, h3, rfl, h4 xs q⟩
/-! ### zip of lists and tuples, mixed -/
def ItzK (K : PySem.W.Frag) (a b : Addr) (m k : Bool) : It where
  go i H := ∃ (xs ys : List V) (x y : V), SqK K H a xs m ∧ SqK K H b ys k ∧ xs[i]? = some x ∧ ys[i]? = some y
  yld i H v H' := ∃ T x y, v = .ref T ∧ H T = none ∧ H' = upd H T (.tup [x, y]) ∧ (∀ xs, SqK K H a xs m → xs[i]? = some x) ∧ ∀ ys, SqK K H b ys k → ys[i]? = some y
  stop i H := ∃ xs ys : List V, SqK K H a xs m ∧ SqK K H b ys k ∧ i = min xs.length ys.length
/-- the walked ones stand apart from the walk's own objects -/
theorem sepK {X : Cx} {pins : List (Addr × Obj)} {σ : L2.St} {H : Hp} {s : Shared} {a b z TI TO i1 i2 : Addr} {m k : Bool} {i : Nat} {xs ys : List V} {its its2 : List Value} {x0 y0 : Value} (I : Inv X pins σ H s) (hd : [z, TI, TO, i1, i2].Nodup) (hf : ∀ b ∈ [z, TI, TO, i1, i2], FpOk X pins H b)
    (hz : IsZip s.heap z TI TO .none) (hTO : IsTupOf2 s.heap TO x0 y0) (h1 : IterK s.heap i1 a i m) (h2 : IterK s.heap i2 b i k) (hqx : SqK X.K H a xs m) (hqy : SqK X.K H b ys k) (p : SeqK s.heap a its.toArray m) (p2 : SeqK s.heap b its2.toArray k) : ZipSep2 z TI TO i1 i2 [i1, a] [i2, b] := by
  simp only [List.nodup_cons, List.mem_cons, List.not_mem_nil, or_false, not_or] at hd
  obtain ⟨⟨zTI, zTO, zi1, zi2⟩, ⟨TITO, TIi1, TIi2⟩, ⟨TOi1, TOi2⟩, i12, _⟩ := hd
  -- what is tracked stands apart from the walk's own objects
  have far : ∀ (c : Addr) (o : Obj) (its : List Value) (n : Nat), s.heap.get? c = some o → o.data = .seq its.toArray n → o.cls ≠ .none → c ≠ z ∧ c ≠ i1 ∧ c ≠ i2 := fun c o its n e d _ => by
    obtain ⟨o1, v1, e1, d1⟩ := h1.obj
    obtain ⟨o2, v2, e2, d2⟩ := h2.obj
    refine ⟨fun q => ?_, fun q => ?_, fun q => ?_⟩
    · rw [q, hz] at e
      cases e
      cases d
    · rw [q, e1] at e
      cases e
      rw [d1] at d
      cases d
    · rw [q, e2] at e
      cases e
      rw [d2] at d
      cases d
  have notOwn : ∀ (c : Addr) (zs : List V) (b : Bool), SqK X.K H c zs b → c ≠ TO := fun c zs b hq q => by
    have n0 : H TO = none := (hf TO (by simp)).1
    rw [q] at hq
    cases b with
    | true =>
      obtain ⟨its, _, ⟨o, n, e, hcl, _⟩, _⟩ := I.list hq
      rw [hTO] at e
      cases e
      exact absurd hcl (by simp)
    | false =>
      rcases hq with (z | ⟨o, z⟩) | ⟨o, its, n, e, _⟩
      · rw [n0] at z
        cases z
      · rw [n0] at z
        cases z
      · have e2 := I.bs TO _ (I.mod.kin TO _ e)
        have f2 := (hf TO (by simp)).2.2.2.1
        rcases f2 with f2 | f2
        · exact I.ok.noex TO _ (I.mod.kin TO _ e) f2
        · exact absurd (Nat.lt_of_lt_of_le (Heap.lt_size (I.mod.kin TO _ e)) (Nat.le_trans I.ok.bsz f2)) (Nat.lt_irrefl _)
  obtain ⟨oa, na, ea, da⟩ := p.obj
  obtain ⟨ob, nb, eb, db⟩ := p2.obj
  have fa := far a oa its na ea da
  have fb := far b ob its2 nb eb db
  have ca : oa.cls ≠ .none := by
    cases m with
    | true =>
      obtain ⟨o, e, c, _⟩ := p
      rw [ea] at e
      cases e
      rw [c]
      exact fun q => nomatch q
    | false =>
      obtain ⟨o, e, c, _⟩ := p
      rw [ea] at e
      cases e
      rw [c]
      exact fun q => nomatch q
  have cb : ob.cls ≠ .none := by
    cases k with
    | true =>
      obtain ⟨o, e, c, _⟩ := p2
      rw [eb] at e
      cases e
      rw [c]
      exact fun q => nomatch q
    | false =>
      obtain ⟨o, e, c, _⟩ := p2
      rw [eb] at e
      cases e
      rw [c]
      exact fun q => nomatch q
  obtain ⟨a1, a2, a3⟩ := fa ca
  obtain ⟨b1, b2, b3⟩ := fb cb
  have a4 := notOwn a xs m hqx
  have b4 := notOwn b ys k hqy
  refine ⟨Ne.symm zTI, Ne.symm zTO, TITO, TIi1, by simp, ?_, ?_, TIi2, by simp, ?_, ?_, ?_, ?_⟩
  · simp [zi1, Ne.symm a1]
  · simp [TOi1, Ne.symm a4]
  · simp [zi2, Ne.symm b1]
  · simp [TOi2, Ne.symm b4]
  · simp [i12, Ne.symm b2]
  · simp [Ne.symm i12, Ne.symm a3]
theorem turn_zipK {P : Program} {w : World} {K : PySem.W.Frag} {elts : List Expr} {kk : Nat} {tpos : Pos} {a b z TI TO i1 i2 : Addr} {m k : Bool} (hd : [z, TI, TO, i1, i2].Nodup) :
    Turn P w K (.Tuple elts kk tpos) (ItzK K a b m k) [z, TI, TO, i1, i2] z (fun i h => IsZip h z TI TO .none ∧ IsTupOf2 h TI (.ref i1) (.ref i2) ∧ (∃ x y, IsTupOf2 h TO x y) ∧ IterK h i1 a i m ∧ IterK h i2 b i k) where
  mem := by simp
  obj := fun i h st c hc => by
    obtain ⟨hz, hTI, ⟨x, y, hTO⟩, h1, h2⟩ := st
    obtain ⟨o1, v1, e1, d1⟩ := h1.obj
    obtain ⟨o2, v2, e2, d2⟩ := h2.obj
    rcases (show c = z ∨ c = TI ∨ c = TO ∨ c = i1 ∨ c = i2 by simpa using hc) with q | q | q | q | q <;> rw [q]
    · exact ⟨_, hz, fun v q => nomatch q⟩
    · exact ⟨_, hTI, fun v q => nomatch q⟩
    · exact ⟨_, hTO, fun v q => nomatch q⟩
    · exact ⟨o1, e1, fun v q => by rw [d1] at q; cases q⟩
    · exact ⟨o2, e2, fun v q => by rw [d2] at q; cases q⟩
  keep := fun i h h' ⟨hz, hTI, ⟨x, y, hTO⟩, h1, h2⟩ kp => ⟨kp z (by simp) _ hz, kp TI (by simp) _ hTI, ⟨x, y, kp TO (by simp) _ hTO⟩, h1.keep fun o q => kp i1 (by simp) o q, h2.keep fun o q => kp i2 (by simp) o q⟩
  item := by
    intro X hP hw hK hc i pins s σ H E I hf st hg
    subst hP hw hK
    obtain ⟨hz, hTI, ⟨x0, y0, hTO⟩, h1, h2⟩ := st
    obtain ⟨xs, ys, x, y, hqx, hqy, hx, hy⟩ := hg
    obtain ⟨its, rv, p, _⟩ := seqK_of I hqx
    obtain ⟨its2, rv2, p2, _⟩ := seqK_of I hqy
    obtain ⟨u, hu, ru⟩ := rv.get hx
    obtain ⟨u2, hu2, ru2⟩ := rv2.get hy
    have hzl : z < s.heap.objs.size := Heap.lt_size hz
    have S := sepK I hd hf hz hTO h1 h2 hqx hqy p p2
    simp only [List.nodup_cons, List.mem_cons, List.not_mem_nil, or_false, not_or] at hd
    obtain ⟨⟨zTI, zTO, zi1, zi2⟩, ⟨TITO, TIi1, TIi2⟩, ⟨TOi1, TOi2⟩, i12, _⟩ := hd
    have l1 : i < its.toArray.size := by
      rw [List.size_toArray]
      exact (List.getElem?_eq_some_iff.mp hu).1
    have l2 : i < its2.toArray.size := by
      rw [List.size_toArray]
      exact (List.getElem?_eq_some_iff.mp hu2).1
    have hh : X.A.in1.handled = none := I.ok.hd hc
    refine wpAny_pyNext_zipD2_item S (drawK hh i1 a (apartK h1 p) its.toArray m) (drawK hh i2 b (apartK h2 p2) its2.toArray k) hz hTI hTO ⟨h1, p⟩ ⟨h2, p2⟩ l1 l2 fun x1 x2 h' tk q1 q2 z' TO' st1 st2 hT hsz hk => ?_
    have ex1 : x1 = u := by
      have q : its.toArray[i]? = some x1 := q1
      rw [List.getElem?_toArray, hu] at q
      exact (Option.some.inj q).symm
    have ex2 : x2 = u2 := by
      have q : its2.toArray[i]? = some x2 := q2
      rw [List.getElem?_toArray, hu2] at q
      exact (Option.some.inj q).symm
    subst ex1 ex2
    refine ⟨_, rfl, wpAny_letOwnedTupleGo_zip (s := { s with heap := h', toks := tk }) z' fun h'' z'' sb => ?_⟩
    have hT2 : h''.get? s.heap.objs.size = some { cls := .type "tuple", data := .seq #[x1, x2] } := (sb.2 _ (Nat.ne_of_gt hzl)).trans hT
    have new : ObjOk X.prog X.w (upd H s.heap.objs.size (.tup [x, y])) h'' s.heap.objs.size (.tup [x, y]) :=
      ⟨by show 2 ≤ sizeLine; decide, [x1, x2], .cons ru (.cons ru2 .nil), ⟨_, hT2, rfl, _, rfl⟩⟩
    have I1 : Inv X pins σ (upd H s.heap.objs.size (.tup [x, y])) { s with heap := h'', toks := tk } :=
      I.turnedNew (t' := tk) (ch := [z, TI, TO, i1, i2]) (fun c o hb q => (sb.2 c (fun q' => hb (by simp [q']))).trans (hk c o (fun q' => hb (by simp [q'])) (fun q' => hb (by simp [q'])) (fun q' => hb (by simp [q'])) (fun q' => hb (by simp [q'])) q)) hf (Nat.le_refl _) new
    refine ⟨.ref s.heap.objs.size, _, I1, rfl, ⟨_, x, y, rfl, I.hok.fresh (Nat.le_refl _), rfl, fun l hl => by rw [sqK_inj I hl hqx]; exact hx, fun l hl => by rw [sqK_inj I hl hqy]; exact hy⟩, ⟨z'', ?_, ⟨x1, x2, ?_⟩, ?_, ?_⟩, fun c hcm => ?_⟩
    · exact (sb.2 _ (Ne.symm zTI)).trans (hk _ _ (Ne.symm zTI) TITO TIi1 TIi2 hTI)
    · exact (sb.2 _ (Ne.symm zTO)).trans TO'
    · exact st1.1.keep fun o q => (sb.2 _ (Ne.symm zi1)).trans q
    · exact st2.1.keep fun o q => (sb.2 _ (Ne.symm zi2)).trans q
    · have hlt : c < s.heap.objs.size := by
        obtain ⟨o1, v1, e1, d1⟩ := h1.obj
        obtain ⟨o2, v2, e2, d2⟩ := h2.obj
        rcases (show c = z ∨ c = TI ∨ c = TO ∨ c = i1 ∨ c = i2 by simpa using hcm) with q | q | q | q | q <;> rw [q]
        · exact hzl
        · exact Heap.lt_size hTI
        · exact Heap.lt_size hTO
        · exact Heap.lt_size e1
        · exact Heap.lt_size e2
      rw [upd_ne (Nat.ne_of_lt hlt)]
      exact (hf c hcm).1
  done := by
    intro X hP hw hK hc i pins s σ H E I hf st hg
    subst hP hw hK
    obtain ⟨hz, hTI, ⟨x0, y0, hTO⟩, h1, h2⟩ := st
    obtain ⟨xs, ys, hqx, hqy, hx⟩ := hg
    obtain ⟨its, rv, p, _⟩ := seqK_of I hqx
    obtain ⟨its2, rv2, p2, _⟩ := seqK_of I hqy
    have S := sepK I hd hf hz hTO h1 h2 hqx hqy p p2
    have hh : X.A.in1.handled = none := I.ok.hd hc
    have n1 := rv.length
    have n2 := rv2.length
    exact wpAny_pyNext_zipD2_end S (drawK hh i1 a (apartK h1 p) its.toArray m) (drawK hh i2 b (apartK h2 p2) its2.toArray k) hz hTI hTO ⟨h1, p⟩ ⟨h2, p2⟩ (by rw [List.size_toArray]; omega) (by rw [List.size_toArray]; omega) (by rw [List.size_toArray, List.size_toArray]; omega)
      fun h' tk hk => ⟨rfl, I.turnedL (t' := tk) (ch := [z, TI, TO, i1, i2]) (fun c o hb q => hk c o (fun q' => hb (by simp [q'])) (fun q' => hb (by simp [q'])) (fun q' => hb (by simp [q'])) (fun q' => hb (by simp [q'])) q) hf⟩
  self := fun A i s Q E st h => wpAny_pyIter_zip st.1 h
theorem nodup5 (N : Nat) : [N + 4, N + 2, N + 3, N, N + 1].Nodup := by
  simp only [List.nodup_cons, List.mem_cons, List.not_mem_nil, or_false, not_or, List.nodup_nil, and_true, not_false_eq_true]
  omega
theorem mem5 (N c : Nat) (h : c ∈ [N + 4, N + 2, N + 3, N, N + 1]) : N ≤ c := by
  simp only [List.mem_cons, List.not_mem_nil, or_false] at h
  omega
def iZipK (K : PySem.W.Frag) (m k : Bool) (ta : TA) : TI := fun σ H R => ta σ H fun vs H1 => ∃ a b xs ys, vs = [.ref a, .ref b] ∧ SqK K H1 a xs m ∧ SqK K H1 b ys k ∧ R (ItzK K a b m k) H1
theorem pi_zipK {X : Cx} {e e2 : Expr} {ta : TA} {p pos tpos : Pos} {elts : List Expr} {kk : Nat} (m k : Bool) (hg : Gl X "zip") (hm : X.mg "zip" = none) (ha : PA X [e, e2] ta)
    (hs : starEach [e, e2] X.env = (false, eval e X.env) :: starEach [e2] X.env := by rfl) (hpl : (backTo pos (starEach [e2] X.env)).any (·.1) = false := by rfl) :
    PI X (.Tuple elts kk tpos) (.Call (.Name "zip" p) [e, e2] [] pos) (iZipK X.K m k ta) := by
  refine ⟨fun pins s σ H R I h => ?_⟩
  refine Call_ (ld_blt I hg hm PyProof.Rows.boot_zip (PyProof.Rows.callWith_type1 (thn (ha.run pos pins s σ H _ I h) fun us s1 ⟨vs, H1, I1, r1, q1⟩ => ?_) hs hpl))
  obtain ⟨a, b, xs, ys, ex, hqx, hqy, q⟩ := q1
  subst ex
  cases r1 with
  | cons r rr =>
    cases rr with
    | cons r' rr =>
      cases rr
      cases r
      cases r'
      obtain ⟨its, rv, p1, _⟩ := seqK_of I1 hqx
      obtain ⟨its2, rv2, p2, _⟩ := seqK_of I1 hqy
      refine zip_begins2 (begK a its.toArray m) (begK b its2.toArray k) p1 p2 fun h' hz hTI hTO g1 g2 hsz hk => wpAny_pyIter_zip hz ?_
      have I2 : Inv X pins σ H1 { s1 with heap := h' } := I1.kept (t' := s1.toks) hk
      refine ⟨s1.heap.objs.size + 4, [s1.heap.objs.size + 4, s1.heap.objs.size + 2, s1.heap.objs.size + 3, s1.heap.objs.size, s1.heap.objs.size + 1], _, _, H1, rfl, I2, turn_zipK ?_, ⟨hz, hTI, ⟨_, _, hTO⟩, iterK_new g1, iterK_new g2⟩, fun c hcm => ?_, q⟩
      · exact nodup5 s1.heap.objs.size
      · have hle : s1.heap.objs.size ≤ c := mem5 s1.heap.objs.size c hcm
        exact I1.fpOk hle (I1.hok.fresh hle)
theorem walk_zipK {K : PySem.W.Frag} {a b : Addr} {xs ys : List V} {m k : Bool} {n : Nat} (hn : n = min xs.length ys.length) :
    L2.Walk (ItzK K a b m k) n (fun H => SqK K H a xs m ∧ SqK K H b ys k) (YPair (fun i => xs[i]?) (fun i => ys[i]?)) where
  goes i _ hi q := by
    have h1 : i < xs.length := by omega
    have h2 : i < ys.length := by omega
    exact ⟨xs, ys, xs[i], ys[i], q.1, q.2, by simp [h1], by simp [h2]⟩
  stops _ q := ⟨xs, ys, q.1, q.2, hn⟩
  yields i H v H' _ q y := by
    obtain ⟨T, x, z, h1, h2, h3, h4, h5⟩ := y
    exact ⟨T, x, z, h1, h2, h3, h4 xs q.1, h5 ys q.2⟩
end Dg
end
section
set_option Elab.async false
set_option linter.all false
set_option maxRecDepth 100000
set_option maxHeartbeats 4000000
namespace Dg
open PySem PySem.Spec PyProof.Rows L2
/-! ### any of ints -/
theorem dp_ints {K : PySem.W.Frag} {H : Hp} : ∀ ns : List Int, DpAll K H (ns.map V.int) (ns.map PyData.int)
  | [] => .nil
  | n :: ns => .cons (.int n) (dp_ints ns)
theorem any_ints (ns : List Int) : (ns.map PyData.int).any PyData.truthy = ns.any (fun n => n != 0) := by
  induction ns with
  | nil => rfl
  | cons n ns ih =>
    rw [List.map_cons, List.any_cons, List.any_cons, ih]
    rfl
theorem plain_ints : ∀ ns : List Int, PyData.plainAll (ns.map PyData.int) = true
  | [] => by simp [PyData.plainAll]
  | n :: ns => by
    rw [List.map_cons]
    simp only [PyData.plainAll, PyData.plain, plain_ints ns, Bool.and_self]
theorem fits_ints {ns : List Int} : ∀ x ∈ ns.map PyData.int, x.fits63 := fun x hx => by
  obtain ⟨n, _, rfl⟩ := List.mem_map.mp hx
  exact trivial
def rAnyI (K : PySem.W.Frag) (b : Bool) : List V → Hp → VK → Prop := fun vs H Q => ∃ (a : Addr) (ns : List Int), vs = [V.ref a] ∧ SqK K H a (ns.map V.int) b ∧ Q (.bl (ns.any fun n => n != 0)) H
section
variable {X : Cx}
theorem cr_anyI (b : Bool) (hc : X.calm = true) : CallR X (.builtin "any") (rAnyI X.K b) := by
  intro pins s σ H vs us Q I r h
  obtain ⟨a, ns, rfl, hs, q⟩ := h
  obtain ⟨its, rv, hl, _⟩ := seqK_of I hs
  rw [Vals.ref1 r]
  obtain ⟨as, hr⟩ := Dp.readsAll I (ns.map PyData.int) _ its (dp_ints ns) rv
  have fin : ∀ h' tk, (∀ b o, s.heap.get? b = some o → h'.get? b = some o) → EP X pins σ Q (.bool ((ns.map PyData.int).any PyData.truthy)) { s with heap := h', toks := tk } := fun h' tk hk => by
    rw [any_ints]
    exact ⟨.bl _, H, I.kept hk, rfl, q⟩
  cases b with
  | true => exact PySem.W.any_list_data (I.ok.hd hc) hl (by simpa using hr) (plain_ints ns) fits_ints fin
  | false => exact PySem.W.any_tuple_data (I.ok.hd hc) hl (by simpa using hr) (plain_ints ns) fits_ints fin
end
/-! ### max(ints, default=d) -/
theorem alike_ints (ns : List Int) : PySem.W.AlikeAll (ns.map PyData.int) := by
  refine ⟨fun x hx y hy => ?_, fun x hx => ?_⟩
  · obtain ⟨n, _, rfl⟩ := List.mem_map.mp hx
    obtain ⟨m, _, rfl⟩ := List.mem_map.mp hy
    rfl
  · obtain ⟨n, _, rfl⟩ := List.mem_map.mp hx
    exact fun z => nomatch z
theorem depth_ints : ∀ ns : List Int, PyData.depthAll (ns.map PyData.int) ≤ 1
  | [] => by simp [PyData.depthAll]
  | n :: ns => by
    have := depth_ints ns
    rw [List.map_cons]
    simp only [PyData.depthAll, PyData.depth]
    omega
def rMaxD (K : PySem.W.Frag) : List V → List V → Hp → VK → Prop := fun vs zs H Q => ∃ (a : Addr) (ns : List Int) (d : Int), vs = [V.ref a] ∧ zs = [V.int d] ∧ SqL K H a (ns.map V.int) ∧
  (ns = [] → Q (.int d) H) ∧ ∀ n ms, ns = n :: ms → Q (.int (ms.foldl max n)) H
section
variable {X : Cx}
theorem cr_maxD (hc : X.calm = true) (hu : X.A.units + 64 < cLine) : CallRK X (.builtin "max") [Str.ofString "default"] (rMaxD X.K) := by
  intro pins s σ H vs zs us ws Q I r r2 h
  obtain ⟨a, ns, d, rfl, rfl, hs, q0, q1⟩ := h
  obtain ⟨its, rv, hl, _⟩ := I.list hs
  obtain ⟨u, rfl, ru⟩ := vals1 r2
  rw [Vals.ref1 r]
  obtain ⟨as, hr⟩ := Dp.readsAll I (ns.map PyData.int) _ its (dp_ints ns) rv
  refine PySem.W.max_list_default (I.ok.hd hc) hl.isList (by simpa using hr) (alike_ints ns) (by have := depth_ints ns; omega) (fun e h' tk hk => ?_) fun y ys i v h' tk bs e hv hr' hk => ?_
  · have e' : ns = [] := List.map_eq_nil_iff.mp e
    exact ⟨.int d, H, I.kept hk, ru, q0 e'⟩
  · cases ns with
    | nil => cases e
    | cons n ms =>
      injection e with e1 e2
      subst e1 e2
      rw [PySem.W.maxD_ints] at hr'
      cases hr' with
      | int _ t => exact ⟨.int _, H, I.kept hk, ⟨t, rfl⟩, q1 n ms rfl⟩
end
/-! ### min(pairs of ints) -/
/-- the first of the least -/
def ltP (p q : Int × Int) : Bool := decide (p.1 < q.1 ∨ (p.1 = q.1 ∧ p.2 < q.2))
def minP (p : Int × Int) (ps : List (Int × Int)) : Int × Int := ps.foldl (fun a y => if ltP y a then y else a) p
abbrev pD (p : Int × Int) : PyData := .tuple [.int p.1, .int p.2]
theorem minD_pairs (ps : List (Int × Int)) : ∀ p, PySem.W.minD (pD p) (ps.map pD) = pD (minP p ps) := by
  induction ps with
  | nil => exact fun p => rfl
  | cons y ps ih =>
    intro p
    have e : PySem.W.minD (pD p) ((y :: ps).map pD) = PySem.W.minD (if PySem.W.dataLt (pD y) (pD p) then pD y else pD p) (ps.map pD) := rfl
    have e2 : (if PySem.W.dataLt (pD y) (pD p) then pD y else pD p) = pD (if ltP y p then y else p) := by
      rw [PySem.W.dataLt_ii]
      show (if ltP y p = true then pD y else pD p) = _
      split <;> rfl
    rw [e, e2, ih]
    rfl
theorem minP_mem (ps : List (Int × Int)) : ∀ p, minP p ps ∈ p :: ps := by
  induction ps with
  | nil => exact fun p => List.mem_cons_self
  | cons y ps ih =>
    intro p
    have e : minP p (y :: ps) = minP (if ltP y p then y else p) ps := rfl
    rw [e]
    rcases List.mem_cons.mp (ih (if ltP y p then y else p)) with h | h
    · rw [h]
      split
      · exact List.mem_cons_of_mem _ List.mem_cons_self
      · exact List.mem_cons_self
    · exact List.mem_cons_of_mem _ (List.mem_cons_of_mem _ h)
theorem minP_le (ps : List (Int × Int)) : ∀ p, ∀ q ∈ p :: ps, (minP p ps).1 ≤ q.1 := by
  induction ps with
  | nil =>
    intro p q hq
    rw [List.mem_singleton.mp hq]
    exact Int.le_refl _
  | cons y ps ih =>
    intro p q hq
    have e : minP p (y :: ps) = minP (if ltP y p then y else p) ps := rfl
    rw [e]
    have hh := ih (if ltP y p then y else p)
    have h0 := hh _ List.mem_cons_self
    have key : (if ltP y p then y else p).1 ≤ p.1 ∧ (if ltP y p then y else p).1 ≤ y.1 := by
      unfold ltP
      by_cases c : (y.1 < p.1 ∨ (y.1 = p.1 ∧ y.2 < p.2))
      · rw [decide_eq_true c]
        simp only [if_true]
        omega
      · rw [decide_eq_false c]
        simp only [Bool.false_eq_true, if_false]
        omega
    rcases List.mem_cons.mp hq with h | h
    · rw [h]
      omega
    · rcases List.mem_cons.mp h with h | h
      · rw [h]
        omega
      · exact hh q (List.mem_cons_of_mem _ h)
/-- the tuples of a list, each of two ints -/
inductive Prs (K : PySem.W.Frag) (H : Hp) : List V → List (Int × Int) → Prop
  | nil : Prs K H [] []
  | cons {t : Addr} {p : Int × Int} {vs : List V} {ps : List (Int × Int)} : SqT K H t [.int p.1, .int p.2] → Prs K H vs ps → Prs K H (.ref t :: vs) (p :: ps)
theorem dp_prs {K : PySem.W.Frag} {H : Hp} : ∀ {vs : List V} {ps : List (Int × Int)}, Prs K H vs ps → DpAll K H vs (ps.map pD)
  | _, _, .nil => .nil
  | _, _, .cons h t => .cons (.tup h (.cons (.int _) (.cons (.int _) .nil))) (dp_prs t)
theorem Prs.at_ {K : PySem.W.Frag} {H : Hp} : ∀ {vs : List V} {ps : List (Int × Int)} {i : Nat} {v : V}, Prs K H vs ps → vs[i]? = some v → ∃ t p, v = .ref t ∧ ps[i]? = some p ∧ SqT K H t [.int p.1, .int p.2]
  | _, _, _, _, .nil, e => by simp at e
  | _, _, 0, _, .cons h _, e => ⟨_, _, (Option.some.inj e).symm, rfl, h⟩
  | _, _, i + 1, _, .cons _ t, e => Prs.at_ (i := i) t e
theorem depth_pairs : ∀ ps : List (Int × Int), PyData.depthAll (ps.map pD) ≤ 4
  | [] => by simp [PyData.depthAll]
  | p :: ps => by
    have := depth_pairs ps
    rw [List.map_cons]
    simp only [PyData.depthAll, PyData.depth]
    omega
theorem alike_pairs (ps : List (Int × Int)) : PySem.W.AlikeAll (ps.map pD) := by
  refine ⟨fun x hx y hy => ?_, fun x hx => ?_⟩
  · obtain ⟨n, _, rfl⟩ := List.mem_map.mp hx
    obtain ⟨m, _, rfl⟩ := List.mem_map.mp hy
    rfl
  · obtain ⟨n, _, rfl⟩ := List.mem_map.mp hx
    exact fun z => nomatch z
def rMinP (K : PySem.W.Frag) : List V → Hp → VK → Prop := fun vs H Q => ∃ (a : Addr) (ws : List V) (p : Int × Int) (ps : List (Int × Int)), vs = [V.ref a] ∧ SqL K H a ws ∧ Prs K H ws (p :: ps) ∧
  ∀ t, SqT K H t [.int (minP p ps).1, .int (minP p ps).2] → Q (.ref t) H
section
variable {X : Cx}
theorem cr_minP (hc : X.calm = true) (hu : X.A.units + 64 < cLine) : CallR X (.builtin "min") (rMinP X.K) := by
  intro pins s σ H vs us Q I r h
  obtain ⟨a, ws, p, ps, rfl, hs, hp, q⟩ := h
  obtain ⟨its, rv, hl, _⟩ := I.list hs
  rw [Vals.ref1 r]
  obtain ⟨as, hr⟩ := Dp.readsAll I ((p :: ps).map pD) _ its (dp_prs hp) rv
  refine PySem.W.min_list_data (I.ok.hd hc) hl.isList (x := pD p) (xs := ps.map pD) (by simpa using hr) (alike_pairs (p :: ps)) (by have := depth_pairs (p :: ps); rw [List.map_cons] at this; omega) fun i v h' tk bs hv hr' hk => ?_
  rw [minD_pairs] at hr'
  rw [List.getElem?_toArray] at hv
  have hi : i < ws.length := by
    rw [rv.length]
    exact (List.getElem?_eq_some_iff.mp hv).1
  obtain ⟨t, p', e, _, ht⟩ := hp.at_ (List.getElem?_eq_getElem hi)
  obtain ⟨u, hu', ru⟩ := rv.get (List.getElem?_eq_getElem hi)
  rw [hv] at hu'
  rw [← Option.some.inj hu', e] at ru
  obtain rfl : v = Value.ref t := ru
  obtain ⟨its2, rv2, ⟨o, ho, hcl, n, hd⟩, _⟩ := I.tuple ht
  have ho' := hk _ _ ho
  cases hr' with
  | tuple g1 g2 g3 g4 =>
    rw [ho'] at g1
    cases g1
    rw [hd] at g3
    cases g3
    cases rv2 with
    | cons x1 y1 =>
      cases y1 with
      | cons x2 y2 =>
        cases y2
        obtain ⟨t1, rfl⟩ := x1
        obtain ⟨t2, rfl⟩ := x2
        cases g4 with
        | cons z1 w1 =>
          cases w1 with
          | cons z2 w2 =>
            generalize e1 : PyData.int (minP p ps).1 = d1 at z1
            generalize e2 : PyData.int (minP p ps).2 = d2 at z2
            cases z1
            cases z2
            injection e1 with e1
            injection e2 with e2
            refine ⟨.ref t, H, I.kept hk, rfl, q t ?_⟩
            rw [e1, e2]
            exact ht
end
/-! ### t * k, a few times -/
theorem tup_mul_one (l : Addr) (items : Array Value) (n : Nat) (dd : Option Addr) (sl : Array (Option Value)) (u : Tok) :
    Meets (Builtin.«tuple.__mul__» ⟨[.ref l, .int 1 u], []⟩) (fun _ R s => s.heap.get? l = some { cls := .type "tuple", dict := dd, data := .seq items n, slots := sl } ∧ R (.ok (.ret (Value.ref l))) s) :=
  .of_wp fun prog w A R s h => by
    obtain ⟨hp, g, d, tk, os⟩ := s
    obtain ⟨hl, h⟩ := h
    have f1 := AutoSeq1.idx_int
    wp_walk using AutoSeq1.wpAny_loadPart' hl
    repeat (first
      | (refine wpAny_ite_false (decide_eq_false (by decide)) ?_; wp_walk using AutoSeq1.wpAny_loadPart' hl)
      | (refine wpAny_ite_true (decide_eq_true (by simp)) ?_; wp_walk using AutoSeq1.wpAny_loadPart' hl))
    exact ⟨_, rfl, h⟩
theorem tup_mul_zero (l : Addr) (items : Array Value) (n : Nat) (dd : Option Addr) (sl : Array (Option Value)) (u : Tok) (he : items.isEmpty = false) :
    Meets (Builtin.«tuple.__mul__» ⟨[.ref l, .int 0 u], []⟩) (fun _ R s => s.heap.get? l = some { cls := .type "tuple", dict := dd, data := .seq items n, slots := sl } ∧
      R (.ok (.ret (Value.ref s.heap.objs.size))) { s with heap := s.heap.push { cls := Value.type "tuple", data := Data.seq #[] }, toks := s.toks }) :=
  .of_wp fun prog w A R s h => by
    obtain ⟨hp, g, d, tk, os⟩ := s
    obtain ⟨hl, h⟩ := h
    have f1 := AutoSeq1.idx_int
    wp_walk using AutoSeq1.wpAny_loadPart' hl
    repeat (first
      | (refine wpAny_ite_false (decide_eq_false (by decide)) ?_; wp_walk using AutoSeq1.wpAny_loadPart' hl)
      | (refine wpAny_ite_false (decide_eq_false (by simp [he])) ?_; wp_walk using AutoSeq1.wpAny_loadPart' hl)
      | (refine wpAny_ite_true (decide_eq_true (by simp)) ?_; wp_walk using AutoSeq1.wpAny_loadPart' hl))
    exact ⟨_, rfl, h⟩
/-- (x,) * k -/
def rRepS (K : PySem.W.Frag) : R2 := fun x y H Q => ∃ (l : Addr) (k : Nat) (v : V), x = .ref l ∧ y = .int (k : Int) ∧ SqT K H l [v] ∧ k ≤ 1000 ∧ (k = 1 → Q (.ref l) H) ∧ (k ≠ 1 → ∀ p, H p = none → Q (.ref p) (upd H p (.tup (List.replicate k v))))
theorem flat_rep {v : V} : ∀ k : Nat, (List.replicate k [v]).flatten = List.replicate k v
  | 0 => rfl
  | k + 1 => by
    rw [List.replicate_succ, List.flatten_cons, flat_rep k]
    rfl
theorem op_repS {X : Cx} : OpR X (binaryOp .Mult) (rRepS X.K) := by
  intro pins s σ H x y v u Q I rx ry h
  obtain ⟨l, k, x0, rfl, rfl, hT, hk, q1, q2⟩ := h
  by_cases h2 : 2 ≤ k
  · refine op_repT pins s σ H _ _ v u Q I rx ry ⟨l, (k : Int), [x0], rfl, rfl, hT, by simp, by omega, by omega, by simp, fun p hp => ?_⟩
    rw [Int.toNat_natCast, flat_rep]
    exact q2 (by omega) p hp
  · cases rx
    obtain ⟨t, rfl⟩ := ry
    obtain ⟨its, r, ⟨⟨cls, dd, data, sl⟩, ho, hc, n, hd⟩, hs⟩ := I.tuple hT
    simp only at hc hd
    subst hc hd
    have hi : its.toArray.isEmpty = false := by
      cases r with
      | cons a b => rfl
    rcases (show k = 0 ∨ k = 1 by omega) with e | e
    · subst e
      refine wpAny_binaryOp_repeat_ref (T := "tuple") (U := "int") (by decide) ⟨_, ho, rfl⟩ (fun s' => typeIs_int s' _ t) noFill_tuple_mul F.fills_int_mul F.slot_int_rmul repeat_tuple F.slot_int_index.lookup
        (call_meets F.slot_int_rmul (typeIs_int s _ t) F.entry_int_rmul (F.args_int_rmul_2 _ _) (int_rmul_tuple _ t l its.toArray n dd sl)
          ⟨ho, rfl, ⟨_, ho, rfl⟩, call_meets F.slot_tuple_mul ⟨_, ho, rfl⟩ F.entry_tuple_mul (F.args_tuple_mul_2 _ _) (tup_mul_zero l its.toArray n dd sl t hi) ⟨ho, ?_⟩⟩)
      exact ⟨.ref s.heap.objs.size, _, I.laid (t' := s.toks) (o := .tup []) (fun b ob q => Heap.get?_push_of_some _ q) (Nat.le_refl _) ⟨Nat.zero_le _, [], .nil, IsTup.new _ _⟩, rfl, q2 (by decide) _ (I.hok.fresh (Nat.le_refl _))⟩
    · subst e
      refine wpAny_binaryOp_repeat_ref (T := "tuple") (U := "int") (by decide) ⟨_, ho, rfl⟩ (fun s' => typeIs_int s' _ t) noFill_tuple_mul F.fills_int_mul F.slot_int_rmul repeat_tuple F.slot_int_index.lookup
        (call_meets F.slot_int_rmul (typeIs_int s _ t) F.entry_int_rmul (F.args_int_rmul_2 _ _) (int_rmul_tuple _ t l its.toArray n dd sl)
          ⟨ho, rfl, ⟨_, ho, rfl⟩, call_meets F.slot_tuple_mul ⟨_, ho, rfl⟩ F.entry_tuple_mul (F.args_tuple_mul_2 _ _) (tup_mul_one l its.toArray n dd sl t) ⟨ho, ?_⟩⟩)
      exact ⟨.ref l, H, I, rfl, q1 rfl⟩
end Dg
end
section
set_option Elab.async false
set_option linter.all false
set_option maxRecDepth 100000
set_option maxHeartbeats 4000000
/-! What a reading evaluates to, typed: G the part of the heap that stays for good, H the heap. -/
namespace Dg
open PySem PySem.Spec PyProof.Rows L2
/-- G is a part of H, and holds no table -/
structure Gd (G H : Hp) : Prop where
  sub : ∀ b o, G b = some o → H b = some o
  nt : ∀ b ps, G b ≠ some (.tbl ps)
/-- behind a pure reading: both have grown, and what is new in G' is new in H' -/
structure Fz (G H G' H' : Hp) : Prop where
  gg : ∀ b o, G b = some o → G' b = some o
  gd : Gd G' H'
  hh : ∀ b o, H b = some o → H' b = some o
  fr : ∀ b, H b ≠ none → G b = none → G' b = none
section
variable {G H G' H' G1 H1 G2 H2 : Hp} {p a m : Addr} {o : HO}
theorem Fz.refl (d : Gd G H) : Fz G H G H := ⟨fun _ _ h => h, d, fun _ _ h => h, fun _ _ h => h⟩
theorem Fz.trans (x : Fz G H G1 H1) (y : Fz G1 H1 G2 H2) : Fz G H G2 H2 := ⟨fun b o h => y.gg b o (x.gg b o h), y.gd, fun b o h => y.hh b o (x.hh b o h), fun b h n => y.fr b (fun z => by
  cases q : H b with
  | none => exact h q
  | some o => rw [x.hh b o q] at z; cases z) (x.fr b h n)⟩
theorem Fz.free (x : Fz G H G1 H1) (h : H1 p = none) : H p = none := by
  cases q : H p with
  | none => rfl
  | some o => rw [x.hh p o q] at h; cases h
theorem Gd.free (d : Gd G H) (h : H p = none) : G p = none := by
  cases q : G p with
  | none => rfl
  | some o => rw [d.sub p o q] at h; cases h
/-- a new object that is to stay -/
theorem Fz.new (d : Gd G H) (h : H p = none) (nt : ∀ ps, o ≠ .tbl ps) : Fz G H (upd G p o) (upd H p o) where
  gg b u e := by rw [upd_ne (ne_of_none e (d.free h))]; exact e
  gd := ⟨fun b u e => by
    by_cases hb : b = p
    · rw [hb, upd_same] at e ⊢
      exact e
    · rw [upd_ne hb] at e ⊢
      exact d.sub b u e, fun b ps e => by
    by_cases hb : b = p
    · rw [hb, upd_same] at e
      exact nt ps (Option.some.inj e)
    · rw [upd_ne hb] at e
      exact d.nt b ps e⟩
  hh b u e := by rw [upd_ne (ne_of_none e h)]; exact e
  fr b e n := by
    by_cases hb : b = p
    · rw [hb] at e
      exact absurd h e
    · rw [upd_ne hb]
      exact n
/-- a new object of one's own (that may be written) -/
theorem Fz.own (d : Gd G H) (h : H p = none) : Fz G H G (upd H p o) where
  gg _ _ e := e
  gd := ⟨fun b u e => by rw [upd_ne (ne_of_none (d.sub b u e) h)]; exact d.sub b u e, d.nt⟩
  hh b u e := by rw [upd_ne (ne_of_none e h)]; exact e
  fr _ _ n := n
/-- an own object (new behind G, H) is written -/
theorem Fz.mut (x : Fz G H G1 H1) (h : H m = none) (g : G1 m = none) : Fz G H G1 (upd H1 m o) where
  gg := x.gg
  gd := ⟨fun b u e => by
    have ne : b ≠ m := ne_of_none e g
    rw [upd_ne ne]
    exact x.gd.sub b u e, x.gd.nt⟩
  hh b u e := by rw [upd_ne (ne_of_none e h)]; exact x.hh b u e
  fr := x.fr
theorem Gd.mut (d : Gd G H) (g : G m = none) : Gd G (upd H m o) := ⟨fun b u e => by rw [upd_ne (ne_of_none e g)]; exact d.sub b u e, d.nt⟩
/-- an own object stays from now on -/
theorem Fz.keep (x : Fz G H G1 H1) (h : H m = none) (e : H1 m = some o) (g : G1 m = none) (nt : ∀ ps, o ≠ .tbl ps) : Fz G H (upd G1 m o) H1 where
  gg b u q := by rw [upd_ne (ne_of_none (x.gg b u q) g)]; exact x.gg b u q
  gd := ⟨fun b u q => by
    by_cases hb : b = m
    · rw [hb, upd_same] at q
      rw [hb, ← q]
      exact e
    · rw [upd_ne hb] at q
      exact x.gd.sub b u q, fun b ps q => by
    by_cases hb : b = m
    · rw [hb, upd_same] at q
      exact nt ps (Option.some.inj q)
    · rw [upd_ne hb] at q
      exact x.gd.nt b ps q⟩
  hh := x.hh
  fr b q n := by
    by_cases hb : b = m
    · rw [hb] at q
      exact absurd h q
    · rw [upd_ne hb]
      exact x.fr b q n
end
/-! ### values by types -/
abbrev Rl (α : Type) := Hp → Hp → V → α → Prop
class Mo {α : Type} (r : Rl α) : Prop where
  mo : ∀ {G H G' H' : Hp} {v : V} {x : α}, r G H v x → Fz G H G' H' → r G' H' v x
/-- items, one by one -/
inductive Al {α : Type} (r : V → α → Prop) : List V → List α → Prop
  | nil : Al r [] []
  | cons {v : V} {x : α} {vs : List V} {xs : List α} : r v x → Al r vs xs → Al r (v :: vs) (x :: xs)
section
variable {α β : Type} {r r' : V → α → Prop}
theorem Al.length : ∀ {vs : List V} {xs : List α}, Al r vs xs → vs.length = xs.length
  | _, _, .nil => rfl
  | _, _, .cons _ t => by rw [List.length_cons, List.length_cons, t.length]
theorem Al.imp (h : ∀ v x, r v x → r' v x) : ∀ {vs : List V} {xs : List α}, Al r vs xs → Al r' vs xs
  | _, _, .nil => .nil
  | _, _, .cons a t => .cons (h _ _ a) (t.imp h)
theorem Al.get : ∀ {vs : List V} {xs : List α} {i : Nat} {x : α}, Al r vs xs → xs[i]? = some x → ∃ v, vs[i]? = some v ∧ r v x
  | _, _, _, _, .nil, e => by simp at e
  | _, _, 0, _, .cons a _, e => ⟨_, rfl, by rw [← Option.some.inj e]; exact a⟩
  | _, _, i + 1, _, .cons _ t, e => Al.get (i := i) t e
theorem Al.getV : ∀ {vs : List V} {xs : List α} {i : Nat} {v : V}, Al r vs xs → vs[i]? = some v → ∃ x, xs[i]? = some x ∧ r v x
  | _, _, _, _, .nil, e => by simp at e
  | _, _, 0, _, .cons a _, e => ⟨_, rfl, by rw [← Option.some.inj e]; exact a⟩
  | _, _, i + 1, _, .cons _ t, e => Al.getV (i := i) t e
theorem Al.append : ∀ {vs ws : List V} {xs ys : List α}, Al r vs xs → Al r ws ys → Al r (vs ++ ws) (xs ++ ys)
  | _, _, _, _, .nil, s => s
  | _, _, _, _, .cons a t, s => .cons a (t.append s)
theorem Al.snoc {vs : List V} {xs : List α} {v : V} {x : α} (t : Al r vs xs) (a : r v x) : Al r (vs ++ [v]) (xs ++ [x]) := t.append (.cons a .nil)
theorem Al.set {v : V} {x : α} (a : r v x) : ∀ {vs : List V} {xs : List α} (i : Nat), Al r vs xs → Al r (vs.set i v) (xs.set i x)
  | _, _, _, .nil => .nil
  | _, _, 0, .cons _ t => .cons a t
  | _, _, i + 1, .cons b t => .cons b (Al.set a i t)
theorem Al.take : ∀ {vs : List V} {xs : List α} (n : Nat), Al r vs xs → Al r (vs.take n) (xs.take n)
  | _, _, 0, _ => .nil
  | _, _, _ + 1, .nil => .nil
  | _, _, n + 1, .cons a t => .cons a (t.take n)
theorem Al.drop : ∀ {vs : List V} {xs : List α} (n : Nat), Al r vs xs → Al r (vs.drop n) (xs.drop n)
  | _, _, 0, t => t
  | _, _, _ + 1, .nil => .nil
  | _, _, n + 1, .cons _ t => Al.drop n t
theorem Al.ofMap {f : β → V} {g : β → α} (h : ∀ b, r (f b) (g b)) : ∀ l : List β, Al r (l.map f) (l.map g)
  | [] => .nil
  | b :: l => .cons (h b) (Al.ofMap h l)
theorem Al.rep {v : V} {x : α} (a : r v x) : ∀ n : Nat, Al r (List.replicate n v) (List.replicate n x)
  | 0 => .nil
  | n + 1 => by
    rw [List.replicate_succ, List.replicate_succ]
    exact .cons a (Al.rep a n)
end
def rI : Rl Int := fun _ _ v i => v = .int i
def rB : Rl Bool := fun _ _ v b => v = .bl b
def rT {α : Type} (r : Rl α) : Rl (List α) := fun G H v xs => ∃ a vs, v = .ref a ∧ G a = some (.tup vs) ∧ Al (r G H) vs xs
def rL {α : Type} (r : Rl α) : Rl (List α) := fun G H v xs => ∃ a vs, v = .ref a ∧ G a = some (.lst vs) ∧ Al (r G H) vs xs
/-- a tuple of unlike things: two -/
def rP {α β : Type} (r : Rl α) (r' : Rl β) : Rl (α × β) := fun G H v x => ∃ a u w, v = .ref a ∧ G a = some (.tup [u, w]) ∧ r G H u x.1 ∧ r' G H w x.2
/-- a list that stands in H (one's own, or another's) -/
def rR {α : Type} (r : Rl α) : Rl (List α) := fun G H v xs => ∃ a vs, v = .ref a ∧ H a = some (.lst vs) ∧ Al (r G H) vs xs
instance : Mo rI := ⟨fun h _ => h⟩
instance : Mo rB := ⟨fun h _ => h⟩
instance {α : Type} {r : Rl α} [Mo r] : Mo (rT r) := ⟨fun ⟨a, vs, e, h, t⟩ z => ⟨a, vs, e, z.gg _ _ h, t.imp fun _ _ q => Mo.mo q z⟩⟩
instance {α : Type} {r : Rl α} [Mo r] : Mo (rL r) := ⟨fun ⟨a, vs, e, h, t⟩ z => ⟨a, vs, e, z.gg _ _ h, t.imp fun _ _ q => Mo.mo q z⟩⟩
instance {α β : Type} {r : Rl α} {r' : Rl β} [Mo r] [Mo r'] : Mo (rP r r') := ⟨fun ⟨a, u, w, e, h, t, t'⟩ z => ⟨a, u, w, e, z.gg _ _ h, Mo.mo t z, Mo.mo t' z⟩⟩
instance {α : Type} {r : Rl α} [Mo r] : Mo (rR r) := ⟨fun ⟨a, vs, e, h, t⟩ z => ⟨a, vs, e, z.hh _ _ h, t.imp fun _ _ q => Mo.mo q z⟩⟩
/-- data that lean on G alone: they stay behind a write, too -/
class Go {α : Type} (r : Rl α) : Prop where
  go : ∀ {G H H' : Hp} {v : V} {x : α}, r G H v x → r G H' v x
  up : ∀ {G G' H : Hp} {v : V} {x : α}, r G H v x → (∀ b o, G b = some o → G' b = some o) → r G' H v x
instance : Go rI := ⟨fun h => h, fun h _ => h⟩
instance : Go rB := ⟨fun h => h, fun h _ => h⟩
instance {α : Type} {r : Rl α} [Go r] : Go (rT r) := ⟨fun ⟨a, vs, e, h, t⟩ => ⟨a, vs, e, h, t.imp fun _ _ q => Go.go q⟩, fun ⟨a, vs, e, h, t⟩ z => ⟨a, vs, e, z _ _ h, t.imp fun _ _ q => Go.up q z⟩⟩
instance {α : Type} {r : Rl α} [Go r] : Go (rL r) := ⟨fun ⟨a, vs, e, h, t⟩ => ⟨a, vs, e, h, t.imp fun _ _ q => Go.go q⟩, fun ⟨a, vs, e, h, t⟩ z => ⟨a, vs, e, z _ _ h, t.imp fun _ _ q => Go.up q z⟩⟩
instance {α β : Type} {r : Rl α} {r' : Rl β} [Go r] [Go r'] : Go (rP r r') := ⟨fun ⟨a, u, w, e, h, t, t'⟩ => ⟨a, u, w, e, h, Go.go t, Go.go t'⟩, fun ⟨a, u, w, e, h, t, t'⟩ z => ⟨a, u, w, e, z _ _ h, Go.up t z, Go.up t' z⟩⟩
theorem Go.to {α : Type} {r : Rl α} [Go r] {G H G' H' : Hp} {v : V} {x : α} (h : r G H v x) (z : ∀ b o, G b = some o → G' b = some o) : r G' H' v x := Go.up (Go.go h) z
theorem al_ints {G H : Hp} : ∀ ns : List Int, Al (rI G H) (ns.map V.int) ns
  | [] => .nil
  | n :: ns => .cons rfl (al_ints ns)
theorem ints_al {G H : Hp} : ∀ {vs : List V} {ns : List Int}, Al (rI G H) vs ns → vs = ns.map V.int
  | _, _, .nil => rfl
  | _, _, .cons a t => by rw [List.map_cons, ints_al t, a]
theorem rT_int {G H : Hp} {v : V} {ns : List Int} (h : rT rI G H v ns) : ∃ a, v = .ref a ∧ G a = some (.tup (ns.map V.int)) := by
  obtain ⟨a, vs, e, g, t⟩ := h
  rw [ints_al t] at g
  exact ⟨a, e, g⟩
theorem rL_int {G H : Hp} {v : V} {ns : List Int} (h : rL rI G H v ns) : ∃ a, v = .ref a ∧ G a = some (.lst (ns.map V.int)) := by
  obtain ⟨a, vs, e, g, t⟩ := h
  rw [ints_al t] at g
  exact ⟨a, e, g⟩
theorem rR_int {G H : Hp} {v : V} {ns : List Int} (h : rR rI G H v ns) : ∃ a, v = .ref a ∧ H a = some (.lst (ns.map V.int)) := by
  obtain ⟨a, vs, e, g, t⟩ := h
  rw [ints_al t] at g
  exact ⟨a, e, g⟩
theorem rL.rr {α : Type} {r : Rl α} {G H : Hp} {v : V} {xs : List α} (d : Gd G H) (h : rL r G H v xs) : rR r G H v xs := by
  obtain ⟨a, vs, e, g, t⟩ := h
  exact ⟨a, vs, e, d.sub _ _ g, t⟩
theorem sqL_of {K : PySem.W.Frag} {H : Hp} {a : Addr} {xs : List V} (h : H a = some (.lst xs)) : SqL K H a xs := .inl (.inl h)
theorem sqT_of {K : PySem.W.Frag} {H : Hp} {a : Addr} {xs : List V} (h : H a = some (.tup xs)) : SqT K H a xs := .inl (.inl h)
/-! ### expressions -/
/-- the reading gives a value of the type r that stands for x -/
def EvR {α : Type} (te : TE) (σ : L2.St) (G H : Hp) (r : Rl α) (x : α) : Prop :=
  ∀ G1 H1, Fz G H G1 H1 → ∀ Q : VK, (∀ v G2 H2, Fz G1 H1 G2 H2 → r G2 H2 v x → Q v H2) → te σ H1 Q
def EvT (tt : TT) (σ : L2.St) (G H : Hp) (b : Bool) : Prop := ∀ G1 H1, Fz G H G1 H1 → ∀ Q : Bool → Hp → Prop, (∀ G2 H2, Fz G1 H1 G2 H2 → Q b H2) → tt σ H1 Q
def EvA (ta : TA) (σ : L2.St) (G H : Hp) (P : Hp → Hp → List V → Prop) : Prop := ∀ G1 H1, Fz G H G1 H1 → ∀ Q : List V → Hp → Prop, (∀ vs G2 H2, Fz G1 H1 G2 H2 → P G2 H2 vs → Q vs H2) → ta σ H1 Q
def EvO (to : TO) (σ : L2.St) (G H : Hp) (o : Option Int) : Prop := ∀ G1 H1, Fz G H G1 H1 → ∀ Q : Option Int → Hp → Prop, (∀ G2 H2, Fz G1 H1 G2 H2 → Q o H2) → to σ H1 Q
abbrev AP := Hp → Hp → List V → Prop
class MoA (P : AP) : Prop where
  mo : ∀ {G H G' H' : Hp} {vs : List V}, P G H vs → Fz G H G' H' → P G' H' vs
def aN : AP := fun _ _ vs => vs = []
def aC {α : Type} (r : Rl α) (x : α) (P : AP) : AP := fun G H vs => ∃ v ws, vs = v :: ws ∧ r G H v x ∧ P G H ws
instance : MoA aN := ⟨fun h _ => h⟩
instance {α : Type} {r : Rl α} {x : α} {P : AP} [Mo r] [MoA P] : MoA (aC r x P) := ⟨fun ⟨v, ws, e, h, t⟩ z => ⟨v, ws, e, Mo.mo h z, MoA.mo t z⟩⟩
section
variable {α β γ : Type} {σ : L2.St} {G H : Hp} {te ta tb : TE} {tt tu : TT} {r : Rl α} {r' : Rl β} {r'' : Rl γ} {x : α} {y : β} {z : γ}
theorem EvR.mono {G1 H1 : Hp} (e : EvR te σ G H r x) (f : Fz G H G1 H1) : EvR te σ G1 H1 r x := fun G2 H2 g Q q => e G2 H2 (f.trans g) Q q
theorem EvT.mono {G1 H1 : Hp} {b : Bool} (e : EvT tt σ G H b) (f : Fz G H G1 H1) : EvT tt σ G1 H1 b := fun G2 H2 g Q q => e G2 H2 (f.trans g) Q q
theorem EvA.mono {G1 H1 : Hp} {P : AP} {t : TA} (e : EvA t σ G H P) (f : Fz G H G1 H1) : EvA t σ G1 H1 P := fun G2 H2 g Q q => e G2 H2 (f.trans g) Q q
theorem EvR.is {w : α} (e : EvR te σ G H r x) (h : x = w) : EvR te σ G H r w := h ▸ e
theorem EvT.is {b c : Bool} (e : EvT tt σ G H b) (h : b = c) : EvT tt σ G H c := h ▸ e
theorem ev_v {i : Nat} {v : V} [Mo r] (e : σ[i]? = some (some v)) (h : r G H v x) : EvR (tVar i) σ G H r x := fun G1 H1 f Q q => ⟨v, e, q v G1 H1 (Fz.refl f.gd) (Mo.mo h f)⟩
theorem ev_i {i : Int} : EvR (tC (.int i)) σ G H rI i := fun G1 H1 f Q q => q _ G1 H1 (Fz.refl f.gd) rfl
theorem ev_b {b : Bool} : EvR (tC (.bl b)) σ G H rB b := fun G1 H1 f Q q => q _ G1 H1 (Fz.refl f.gd) rfl
/-- two values in a row -/
theorem ev_op [Mo r] {R : R2} (ha : EvR ta σ G H r x) (hb : EvR tb σ G H r' y) (hr : ∀ u v G1 H1, Fz G H G1 H1 → r G1 H1 u x → r' G1 H1 v y → ∀ Q : VK, (∀ w G2 H2, Fz G1 H1 G2 H2 → r'' G2 H2 w z → Q w H2) → R u v H1 Q) : EvR (tOp R ta tb) σ G H r'' z :=
  fun G1 H1 f Q q => ha G1 H1 f _ fun u G2 H2 f2 h2 => hb G2 H2 (f.trans f2) _ fun v G3 H3 f3 h3 => hr u v G3 H3 ((f.trans f2).trans f3) (Mo.mo h2 f3) h3 Q fun w G4 H4 f4 h4 => q w G4 H4 ((f2.trans f3).trans f4) h4
theorem ev_un {R : V → Hp → VK → Prop} (ha : EvR ta σ G H r x) (hr : ∀ u G1 H1, Fz G H G1 H1 → r G1 H1 u x → ∀ Q : VK, (∀ w G2 H2, Fz G1 H1 G2 H2 → r'' G2 H2 w z → Q w H2) → R u H1 Q) : EvR (tUn R ta) σ G H r'' z :=
  fun G1 H1 f Q q => ha G1 H1 f _ fun u G2 H2 f2 h2 => hr u G2 H2 (f.trans f2) h2 Q fun w G4 H4 f4 h4 => q w G4 H4 (f2.trans f4) h4
theorem ev_int {g : Int → Int → V} {i j k : Int} (ha : EvR ta σ G H rI i) (hb : EvR tb σ G H rI j) (e : g i j = .int k) : EvR (tOp (rI0 g) ta tb) σ G H rI k :=
  ev_op ha hb fun u v G1 H1 f hu hv Q q => ⟨i, j, hu, hv, q _ G1 H1 (Fz.refl f.gd) e⟩
theorem ev_intC {C : Int → Int → Prop} {g : Int → Int → V} {i j k : Int} (ha : EvR ta σ G H rI i) (hb : EvR tb σ G H rI j) (c : C i j) (e : g i j = .int k) : EvR (tOp (L2.rI C g) ta tb) σ G H rI k :=
  ev_op ha hb fun u v G1 H1 f hu hv Q q => ⟨i, j, hu, hv, c, q _ G1 H1 (Fz.refl f.gd) e⟩
theorem ev_cmp {g : Int → Int → V} {i j : Int} {b : Bool} (ha : EvR ta σ G H rI i) (hb : EvR tb σ G H rI j) (e : g i j = .bl b) : EvR (tOp (rI0 g) ta tb) σ G H rB b :=
  ev_op ha hb fun u v G1 H1 f hu hv Q q => ⟨i, j, hu, hv, q _ G1 H1 (Fz.refl f.gd) e⟩
theorem ev_eqI {i j : Int} (ha : EvR ta σ G H rI i) (hb : EvR tb σ G H rI j) : EvR (tOp rEq ta tb) σ G H rB (decide (i = j)) :=
  ev_op ha hb fun u v G1 H1 f hu hv Q q => by
    cases hu
    cases hv
    refine ⟨rfl, q _ G1 H1 (Fz.refl f.gd) ?_⟩
    show V.bl _ = V.bl _
    congr 1
    by_cases e : i = j
    · rw [decide_eq_true e, decide_eq_true (by rw [e])]
    · rw [decide_eq_false e, decide_eq_false (fun h => e (by injection h))]
theorem ev_neI {i j : Int} (ha : EvR ta σ G H rI i) (hb : EvR tb σ G H rI j) : EvR (tOp rNe ta tb) σ G H rB (!decide (i = j)) :=
  ev_op ha hb fun u v G1 H1 f hu hv Q q => by
    cases hu
    cases hv
    refine ⟨rfl, q _ G1 H1 (Fz.refl f.gd) ?_⟩
    show V.bl _ = V.bl _
    congr 2
    by_cases e : i = j
    · rw [decide_eq_true e, decide_eq_true (by rw [e])]
    · rw [decide_eq_false e, decide_eq_false (fun h => e (by injection h))]
theorem ev_neg {i : Int} (ha : EvR ta σ G H rI i) : EvR (tUn (rU fun i => .int (-i)) ta) σ G H rI (-i) := ev_un ha fun u G1 H1 f hu Q q => ⟨i, hu, q _ G1 H1 (Fz.refl f.gd) rfl⟩
/-! tests -/
theorem et_t {b : Bool} (h : EvR te σ G H rB b) : EvT (tTest te) σ G H b := fun G1 H1 f Q q => h G1 H1 f _ fun v G2 H2 f2 e => ⟨b, e, q G2 H2 f2⟩
theorem et_b {b : Bool} (h : EvR te σ G H rB b) : EvT (tB te) σ G H b := fun G1 H1 f Q q => h G1 H1 f _ fun v G2 H2 f2 e => ⟨b, e, q G2 H2 f2⟩
theorem et_yes : EvT tYes σ G H true := fun G1 H1 f Q q => q G1 H1 (Fz.refl f.gd)
theorem et_not {b : Bool} (h : EvT tt σ G H b) : EvT (tNot tt) σ G H (!b) := fun G1 H1 f Q q => h G1 H1 f _ fun G2 H2 f2 => q G2 H2 f2
theorem et_and {a b : Bool} (h : EvT tt σ G H a) (h' : a = true → EvT tu σ G H b) : EvT (tAnd tt tu) σ G H (a && b) := fun G1 H1 f Q q => h G1 H1 f _ fun G2 H2 f2 => by
  cases a with
  | true => exact (if_pos rfl).mpr (h' rfl G2 H2 (f.trans f2) _ fun G3 H3 f3 => q G3 H3 (f2.trans f3))
  | false => exact (if_neg Bool.false_ne_true).mpr (q G2 H2 f2)
/-! arguments, displays, calls -/
theorem ea_n : EvA tNil σ G H aN := fun G1 H1 f Q q => q [] G1 H1 (Fz.refl f.gd) rfl
theorem ea_c [Mo r] {tr : TA} {P : AP} (h : EvR te σ G H r x) (hr : EvA tr σ G H P) : EvA (tCons te tr) σ G H (aC r x P) := fun G1 H1 f Q q =>
  h G1 H1 f _ fun v G2 H2 f2 e => hr G2 H2 (f.trans f2) _ fun vs G3 H3 f3 p => q _ G3 H3 (f2.trans f3) ⟨v, vs, rfl, Mo.mo e f3, p⟩
/-- items of one type -/
def aL {α : Type} (r : Rl α) (xs : List α) : AP := fun G H vs => Al (r G H) vs xs
theorem el_n : EvA tNil σ G H (aL r []) := fun G1 H1 f Q q => q [] G1 H1 (Fz.refl f.gd) .nil
theorem el_c [Mo r] {tr : TA} {xs : List α} (h : EvR te σ G H r x) (hr : EvA tr σ G H (aL r xs)) : EvA (tCons te tr) σ G H (aL r (x :: xs)) := fun G1 H1 f Q q =>
  h G1 H1 f _ fun v G2 H2 f2 e => hr G2 H2 (f.trans f2) _ fun vs G3 H3 f3 p => q _ G3 H3 (f2.trans f3) (.cons (Mo.mo e f3) p)
theorem Gd.al_new [Mo r] {vs : List V} {xs : List α} {p : Addr} {o : HO} (d : Gd G H) (h : H p = none) (nt : ∀ ps, o ≠ .tbl ps) (t : Al (r G H) vs xs) : Al (r (upd G p o) (upd H p o)) vs xs := t.imp fun _ _ q => Mo.mo q (Fz.new d h nt)
/-- behind a new list, a new tuple -/
theorem new_lst [Mo r] {vs : List V} {xs : List α} {p : Addr} (d : Gd G H) (h : H p = none) (t : Al (r G H) vs xs) : Fz G H (upd G p (.lst vs)) (upd H p (.lst vs)) ∧ rL r (upd G p (.lst vs)) (upd H p (.lst vs)) (.ref p) xs :=
  ⟨Fz.new d h (fun _ z => nomatch z), p, vs, rfl, upd_same, d.al_new h (fun _ z => nomatch z) t⟩
theorem new_tup [Mo r] {vs : List V} {xs : List α} {p : Addr} (d : Gd G H) (h : H p = none) (t : Al (r G H) vs xs) : Fz G H (upd G p (.tup vs)) (upd H p (.tup vs)) ∧ rT r (upd G p (.tup vs)) (upd H p (.tup vs)) (.ref p) xs :=
  ⟨Fz.new d h (fun _ z => nomatch z), p, vs, rfl, upd_same, d.al_new h (fun _ z => nomatch z) t⟩
theorem big {n : Nat} (h : n ≤ 200000) : n ≤ sizeLine := by
  rw [sizeLine_eq]
  omega
theorem ev_lst [Mo r] {t : TA} {xs : List α} (h : EvA t σ G H (aL r xs)) (hz : xs.length ≤ 200000) : EvR (tLst t) σ G H (rL r) xs := fun G1 H1 f Q q =>
  h G1 H1 f _ fun vs G2 H2 f2 p => ⟨by rw [p.length]; exact big hz, fun b hb => let n := new_lst f2.gd hb p; q _ _ _ (f2.trans n.1) n.2⟩
theorem ev_tup [Mo r] {t : TA} {xs : List α} (h : EvA t σ G H (aL r xs)) (hz : xs.length ≤ 200000) : EvR (tTup t) σ G H (rT r) xs := fun G1 H1 f Q q =>
  h G1 H1 f _ fun vs G2 H2 f2 p => ⟨by rw [p.length]; exact big hz, fun b hb => let n := new_tup f2.gd hb p; q _ _ _ (f2.trans n.1) n.2⟩
/-- a tuple of two unlike things -/
theorem ev_pair [Mo r] [Mo r'] {t : TA} (h : EvA t σ G H (aC r x (aC r' y aN))) : EvR (tTup t) σ G H (rP r r') (x, y) := fun G1 H1 f Q q =>
  h G1 H1 f _ fun vs G2 H2 f2 p => by
    obtain ⟨u, ws, rfl, hu, w, zs, rfl, hw, rfl⟩ := p
    refine ⟨by show 2 ≤ sizeLine; decide, fun b hb => ?_⟩
    have n := Fz.new (o := .tup [u, w]) f2.gd hb (fun _ z => nomatch z)
    exact q _ _ _ (f2.trans n) ⟨b, u, w, rfl, upd_same, Mo.mo hu n, Mo.mo hw n⟩
/-- a def that writes nothing: its arguments by P, its value by r -/
def spF {ι : Type} {α : Type} (P : ι → AP) (pre : ι → Prop) (r : Rl α) (m : ι → α) : Sp := fun vs H Q _ => ∃ (x : ι) (G : Hp), Gd G H ∧ P x G H vs ∧ pre x ∧ ∀ v G' H', Fz G H G' H' → r G' H' v (m x) → Q v H'
theorem ev_call {ι : Type} {P : ι → AP} {pre : ι → Prop} {m : ι → α} {t : TA} {E : XK} (i : ι) (h : EvA t σ G H (P i)) (hp : pre i) : EvR (tCall (spF P pre r m) [] E t) σ G H r (m i) := fun G1 H1 f Q q =>
  h G1 H1 f _ fun vs G2 H2 f2 p => by
    refine ⟨i, G2, f2.gd, ?_, hp, fun v G3 H3 f3 e => q v G3 H3 (f2.trans f3) e⟩
    rw [List.append_nil]
    exact p
end
end Dg
end
section
set_option Elab.async false
set_option linter.all false
set_option maxRecDepth 100000
set_option maxHeartbeats 4000000
/-! The kit, further: subscripts, slices, lengths, lists, comprehensions, statements. -/
namespace Dg
open PySem PySem.Spec PyProof.Rows L2
def seqO : Bool → List V → HO
  | true => .lst
  | false => .tup
/-- read as a list (true), a tuple (false) -/
class Sq {α : Type} (r : Rl (List α)) (r0 : outParam (Rl α)) (b : outParam Bool) : Prop where
  sq : ∀ {G H : Hp} {v : V} {xs : List α}, Gd G H → r G H v xs → ∃ a vs, v = .ref a ∧ H a = some (seqO b vs) ∧ Al (r0 G H) vs xs
instance {α : Type} {r : Rl α} : Sq (rT r) r false := ⟨fun d ⟨a, vs, e, h, t⟩ => ⟨a, vs, e, d.sub _ _ h, t⟩⟩
instance {α : Type} {r : Rl α} : Sq (rL r) r true := ⟨fun d ⟨a, vs, e, h, t⟩ => ⟨a, vs, e, d.sub _ _ h, t⟩⟩
instance {α : Type} {r : Rl α} : Sq (rR r) r true := ⟨fun d ⟨a, vs, e, h, t⟩ => ⟨a, vs, e, h, t⟩⟩
theorem sqK_of {K : PySem.W.Frag} {H : Hp} {a : Addr} {vs : List V} : ∀ {b : Bool}, H a = some (seqO b vs) → SqK K H a vs b
  | true, h => sqL_of h
  | false, h => sqT_of h
theorem sqE_of {K : PySem.W.Frag} {H : Hp} {a : Addr} {vs : List V} : ∀ {b : Bool}, H a = some (seqO b vs) → SqL K H a vs ∨ SqT K H a vs
  | true, h => .inl (sqL_of h)
  | false, h => .inr (sqT_of h)
section
variable {α β γ : Type} {K : PySem.W.Frag} {σ : L2.St} {G H : Hp} {te ta tb : TE} {tt tu : TT} {r r0 : Rl α} {r' : Rl β} {r'' : Rl γ} {x : α} {y : β} {z : γ} {xs ys : List α}
/-! ### numbers -/
theorem ev_add {i j : Int} (ha : EvR ta σ G H rI i) (hb : EvR tb σ G H rI j) : EvR (tOp (rI0 fun i j => .int (i + j)) ta tb) σ G H rI (i + j) := ev_int ha hb rfl
theorem ev_sub {i j : Int} (ha : EvR ta σ G H rI i) (hb : EvR tb σ G H rI j) : EvR (tOp (rI0 fun i j => .int (i - j)) ta tb) σ G H rI (i - j) := ev_int ha hb rfl
theorem ev_mul {i j : Int} (ha : EvR ta σ G H rI i) (hb : EvR tb σ G H rI j) (c : CMul i j) : EvR (tOp (L2.rI CMul fun i j => .int (i * j)) ta tb) σ G H rI (i * j) := ev_intC ha hb c rfl
theorem ev_mod {i j : Int} (ha : EvR ta σ G H rI i) (hb : EvR tb σ G H rI j) (c : 0 < j) : EvR (tOp (L2.rI (fun _ j => 0 < j) fun i j => .int (i % j)) ta tb) σ G H rI (i % j) := ev_intC ha hb c rfl
theorem ev_div {i j : Int} (ha : EvR ta σ G H rI i) (hb : EvR tb σ G H rI j) (c : CDiv i j) : EvR (tOp (L2.rI CDiv fun i j => .int (i / j)) ta tb) σ G H rI (i / j) := ev_intC ha hb c rfl
theorem ev_pow {i j : Int} (ha : EvR ta σ G H rI i) (hb : EvR tb σ G H rI j) (c : CPow i j) : EvR (tOp (L2.rI CPow fun i j => .int (i ^ j.toNat)) ta tb) σ G H rI (i ^ j.toNat) := ev_intC ha hb c rfl
theorem ev_lt {i j : Int} (ha : EvR ta σ G H rI i) (hb : EvR tb σ G H rI j) : EvR (tOp (rI0 fun i j => .bl (decide (i < j))) ta tb) σ G H rB (decide (i < j)) := ev_cmp ha hb rfl
theorem ev_gt {i j : Int} (ha : EvR ta σ G H rI i) (hb : EvR tb σ G H rI j) : EvR (tOp (rI0 fun i j => .bl (decide (j < i))) ta tb) σ G H rB (decide (j < i)) := ev_cmp ha hb rfl
theorem ev_ge {i j : Int} (ha : EvR ta σ G H rI i) (hb : EvR tb σ G H rI j) : EvR (tOp (rI0 fun i j => .bl (decide (j ≤ i))) ta tb) σ G H rB (decide (j ≤ i)) := ev_cmp ha hb rfl
/-! ### subscripts, lengths -/
theorem ev_ixL {r : Rl (List α)} [Sq r r0 true] [Mo r] {k : Int} (j : Nat) (ha : EvR ta σ G H r xs) (hb : EvR tb σ G H rI k) (ek : k = (j : Int)) (e : xs[j]? = some x) : EvR (tOp (rIxL K) ta tb) σ G H r0 x :=
  ev_op ha hb fun u v G1 H1 f hu hv Q q => by
    obtain ⟨a, vs, rfl, h, t⟩ := Sq.sq f.gd hu
    obtain ⟨w, hw, rw_⟩ := t.get e
    exact ⟨a, vs, k, w, rfl, hv, sqL_of h, by rw [ek]; exact atI_nat hw, q w G1 H1 (Fz.refl f.gd) rw_⟩
theorem ev_ixT {r : Rl (List α)} [Sq r r0 false] [Mo r] {k : Int} (j : Nat) (ha : EvR ta σ G H r xs) (hb : EvR tb σ G H rI k) (ek : k = (j : Int)) (e : xs[j]? = some x) : EvR (tOp (rIxT K) ta tb) σ G H r0 x :=
  ev_op ha hb fun u v G1 H1 f hu hv Q q => by
    obtain ⟨a, vs, rfl, h, t⟩ := Sq.sq f.gd hu
    obtain ⟨w, hw, rw_⟩ := t.get e
    exact ⟨a, vs, k, w, rfl, hv, sqT_of h, by rw [ek]; exact atI_nat hw, q w G1 H1 (Fz.refl f.gd) rw_⟩
theorem atI_end {vs : List V} {w : V} (h : vs[vs.length - 1]? = some w) : atI vs (-1) = some w := by
  obtain ⟨hl, e⟩ := List.getElem?_eq_some_iff.mp h
  have hp : vs = vs.dropLast ++ [w] := by
    have ne : vs ≠ [] := fun z => by rw [z] at hl; simp at hl
    have q := List.dropLast_concat_getLast ne
    rw [List.getLast_eq_getElem, e] at q
    exact q.symm
  rw [hp]
  exact atI_last _ _
/-- t[-1] -/
theorem ev_endT {r : Rl (List α)} [Sq r r0 false] [Mo r] (ha : EvR ta σ G H r xs) (hb : EvR tb σ G H rI (-1)) (e : xs[xs.length - 1]? = some x) : EvR (tOp (rIxT K) ta tb) σ G H r0 x :=
  ev_op ha hb fun u v G1 H1 f hu hv Q q => by
    obtain ⟨a, vs, rfl, h, t⟩ := Sq.sq f.gd hu
    rw [← t.length] at e
    obtain ⟨w, hw, rw_⟩ := t.get e
    exact ⟨a, vs, -1, w, rfl, hv, sqT_of h, atI_end hw, q w G1 H1 (Fz.refl f.gd) rw_⟩
theorem ev_len {r : Rl (List α)} {b : Bool} [Sq r r0 b] (h : EvR te σ G H r xs) : EvR (tCB (fun vs H Q => ∃ p ys, vs = [.ref p] ∧ (SqL K H p ys ∨ SqT K H p ys) ∧ Q (.int ys.length) H) (tCons te tNil)) σ G H rI (xs.length : Int) := fun G1 H1 f Q q =>
  h G1 H1 f _ fun v G2 H2 f2 e => by
    obtain ⟨a, vs, rfl, ha, t⟩ := Sq.sq f2.gd e
    exact ⟨a, vs, rfl, sqE_of ha, q _ G2 H2 f2 (by rw [t.length]; rfl)⟩
/-! ### lists made of lists, tuples -/
theorem ev_list {r : Rl (List α)} {b : Bool} [Sq r r0 b] [Mo r0] (h : EvR te σ G H r xs) : EvR (tCB (fun vs H Q => ∃ p ys, vs = [.ref p] ∧ (SqL K H p ys ∨ SqT K H p ys) ∧ ∀ l, H l = none → Q (.ref l) (upd H l (.lst ys))) (tCons te tNil)) σ G H (rL r0) xs := fun G1 H1 f Q q =>
  h G1 H1 f _ fun v G2 H2 f2 e => by
    obtain ⟨a, vs, rfl, ha, t⟩ := Sq.sq f2.gd e
    exact ⟨a, vs, rfl, sqE_of ha, fun l hl => let n := new_lst f2.gd hl t; q _ _ _ (f2.trans n.1) n.2⟩
abbrev rTupC (K : PySem.W.Frag) : List V → Hp → VK → Prop := fun vs H Q => ∃ p ys, vs = [.ref p] ∧ ((SqL K H p ys ∧ ∀ l, H l = none → Q (.ref l) (upd H l (.tup ys))) ∨ (SqT K H p ys ∧ Q (.ref p) H))
theorem ev_tupleL {r : Rl (List α)} [Sq r r0 true] [Mo r0] (h : EvR te σ G H r xs) : EvR (tCB (rTupC K) (tCons te tNil)) σ G H (rT r0) xs := fun G1 H1 f Q q =>
  h G1 H1 f _ fun v G2 H2 f2 e => by
    obtain ⟨a, vs, rfl, ha, t⟩ := Sq.sq f2.gd e
    exact ⟨a, vs, rfl, .inl ⟨sqL_of ha, fun l hl => let n := new_tup f2.gd hl t; q _ _ _ (f2.trans n.1) n.2⟩⟩
theorem ev_tupleT (h : EvR te σ G H (rT r0) xs) : EvR (tCB (rTupC K) (tCons te tNil)) σ G H (rT r0) xs := fun G1 H1 f Q q =>
  h G1 H1 f _ fun v G2 H2 f2 e => by
    obtain ⟨a, vs, ev, ha, t⟩ := id e
    subst ev
    exact ⟨a, vs, rfl, .inr ⟨sqT_of (f2.gd.sub _ _ ha), q _ G2 H2 f2 e⟩⟩
theorem ev_cat {r1 r2 : Rl (List α)} [Sq r1 r0 true] [Sq r2 r0 true] [Mo r0] [Mo r1] (ha : EvR ta σ G H r1 xs) (hb : EvR tb σ G H r2 ys) (hz : xs.length + ys.length ≤ 200000) : EvR (tOp rCat ta tb) σ G H (rL r0) (xs ++ ys) :=
  ev_op ha hb fun u v G1 H1 f hu hv Q q => by
    obtain ⟨a, vs, rfl, h1, t1⟩ := Sq.sq f.gd hu
    obtain ⟨b, ws, rfl, h2, t2⟩ := Sq.sq f.gd hv
    exact ⟨a, b, vs, ws, rfl, rfl, h1, h2, by rw [t1.length, t2.length]; exact big hz, fun p hp => let n := new_lst f.gd hp (t1.append t2); q _ _ _ n.1 n.2⟩
theorem ev_catT [Mo r0] (ha : EvR ta σ G H (rT r0) xs) (hb : EvR tb σ G H (rT r0) ys) (hz : xs.length + ys.length ≤ 200000) : EvR (tOp (rCatA K) ta tb) σ G H (rT r0) (xs ++ ys) :=
  ev_op ha hb fun u v G1 H1 f hu hv Q q => by
    obtain ⟨a, vs, rfl, h1, t1⟩ := Sq.sq f.gd hu
    obtain ⟨b, ws, rfl, h2, t2⟩ := Sq.sq f.gd hv
    refine ⟨a, b, vs, ws, rfl, rfl, sqT_of h1, sqT_of h2, by rw [t1.length, t2.length]; exact big hz, fun e => q _ G1 H1 (Fz.refl f.gd) ?_, fun _ e => q _ G1 H1 (Fz.refl f.gd) ?_, fun _ _ p hp => let n := new_tup f.gd hp (t1.append t2); q _ _ _ n.1 n.2⟩
    · subst e
      cases t1
      exact hv
    · subst e
      cases t2
      rw [List.append_nil]
      exact hu
/-- [x] * k -/
theorem ev_rep [Mo r0] {r1 : Rl (List α)} [Sq r1 r0 true] [Mo r1] {k : Int} (n : Nat) (ha : EvR ta σ G H r1 [x]) (hb : EvR tb σ G H rI k) (hk : k.toNat = n) (h1 : -200000 ≤ k) (h2 : k ≤ 200000) : EvR (tOp rRep ta tb) σ G H (rL r0) (List.replicate n x) :=
  ev_op ha hb fun u v G1 H1 f hu hv Q q => by
    obtain ⟨a, vs, rfl, h, t⟩ := Sq.sq f.gd hu
    cases t with
    | cons tx t0 =>
      cases t0
      refine ⟨a, k, _, rfl, hv, h, by omega, by omega, ?_, fun p hp => ?_⟩
      · rw [List.length_singleton, Nat.one_mul]
        exact big (by omega)
      · rw [hk, flat_rep]
        have m := new_lst f.gd hp (Al.rep tx n)
        exact q _ _ _ m.1 m.2
/-- (x,) * k -/
theorem ev_repT [Mo r0] {k : Int} (n : Nat) (ha : EvR ta σ G H (rT r0) [x]) (hb : EvR tb σ G H rI k) (hk : k = (n : Int)) (hn : n ≤ 1000) : EvR (tOp (rRepS K) ta tb) σ G H (rT r0) (List.replicate n x) :=
  ev_op ha hb fun u v G1 H1 f hu hv Q q => by
    obtain ⟨a, vs, e, h, t⟩ := id hu
    cases t with
    | cons tx t0 =>
      cases t0
      refine ⟨a, n, _, e, by rw [← hk]; exact hv, sqT_of (f.gd.sub _ _ h), hn, fun e1 => ?_, fun _ p hp => ?_⟩
      · refine q _ G1 H1 (Fz.refl f.gd) ?_
        rw [e1]
        rw [e] at hu
        exact hu
      · have m := new_tup f.gd hp (Al.rep tx n)
        exact q _ _ _ m.1 m.2
/-! ### slices -/
theorem eo_n : EvO tNoPart σ G H none := fun G1 H1 f Q q => q G1 H1 (Fz.refl f.gd)
theorem eo_s {i : Int} (h : EvR te σ G H rI i) : EvO (tPart te) σ G H (some i) := fun G1 H1 f Q q => h G1 H1 f _ fun v G2 H2 f2 e => ⟨i, e, q G2 H2 f2⟩
theorem al_cut {s : V → α → Prop} {vs : List V} {xs : List α} (t : Al s vs xs) (lo hi : Option Int) : Al s (cutV vs lo hi) ((xs.drop (HT.sIx xs.length 0 lo)).take (HT.sIx xs.length xs.length hi - HT.sIx xs.length 0 lo)) := by
  unfold cutV
  rw [t.length]
  exact (t.drop _).take _
theorem ev_slL {r1 : Rl (List α)} [Sq r1 r0 true] [Mo r0] [Mo r1] {tl th : TO} {lo hi : Option Int} (h : EvR te σ G H r1 xs) (h1 : EvO tl σ G H lo) (h2 : EvO th σ G H hi) :
    EvR (tSl (rSlL K) te tl th) σ G H (rL r0) ((xs.drop (HT.sIx xs.length 0 lo)).take (HT.sIx xs.length xs.length hi - HT.sIx xs.length 0 lo)) := fun G1 H1 f Q q =>
  h G1 H1 f _ fun v G2 H2 f2 e => h1 G2 H2 (f.trans f2) _ fun G3 H3 f3 => h2 G3 H3 ((f.trans f2).trans f3) _ fun G4 H4 f4 => by
    obtain ⟨a, vs, rfl, ha, t⟩ := Sq.sq f4.gd (Mo.mo (Mo.mo e f3) f4)
    exact ⟨a, vs, rfl, sqL_of ha, fun p hp => let n := new_lst f4.gd hp (al_cut t lo hi); q _ _ _ (((f2.trans f3).trans f4).trans n.1) n.2⟩
theorem ev_slT [Mo r0] {tl th : TO} {lo hi : Option Int} (h : EvR te σ G H (rT r0) xs) (h1 : EvO tl σ G H lo) (h2 : EvO th σ G H hi) :
    EvR (tSl (rSlA K) te tl th) σ G H (rT r0) ((xs.drop (HT.sIx xs.length 0 lo)).take (HT.sIx xs.length xs.length hi - HT.sIx xs.length 0 lo)) := fun G1 H1 f Q q =>
  h G1 H1 f _ fun v G2 H2 f2 e => h1 G2 H2 (f.trans f2) _ fun G3 H3 f3 => h2 G3 H3 ((f.trans f2).trans f3) _ fun G4 H4 f4 => by
    have e4 := Mo.mo (Mo.mo e f3) f4
    obtain ⟨a, vs, ev, ha, t⟩ := id e4
    subst ev
    refine ⟨a, vs, rfl, sqT_of (f4.gd.sub _ _ ha), fun w => q _ G4 H4 ((f2.trans f3).trans f4) ?_, fun _ p hp => let n := new_tup f4.gd hp (al_cut t lo hi); q _ _ _ (((f2.trans f3).trans f4).trans n.1) n.2⟩
    rw [t.length] at w
    rw [w.1, w.2, List.drop_zero, Nat.sub_zero, List.take_length]
    exact e4
theorem takeS (xs : List α) (n : Nat) : (xs.drop (HT.sIx xs.length 0 none)).take (HT.sIx xs.length xs.length (some (n : Int)) - HT.sIx xs.length 0 none) = xs.take n := by
  rw [HT.sIx_none, HT.sIx_nat, List.drop_zero, Nat.sub_zero, ← List.take_eq_take_min]
theorem dropS (xs : List α) (n : Nat) : (xs.drop (HT.sIx xs.length 0 (some (n : Int)))).take (HT.sIx xs.length xs.length none - HT.sIx xs.length 0 (some (n : Int))) = xs.drop n := by
  rw [HT.sIx_none, HT.sIx_nat]
  by_cases h : n ≤ xs.length
  · rw [Nat.min_eq_left h]
    exact List.take_of_length_le (by rw [List.length_drop]; exact Nat.le_refl _)
  · rw [Nat.min_eq_right (by omega), List.drop_length, List.drop_of_length_le (by omega)]
    simp
/-- xs[:n] -/
theorem ev_takeL {r1 : Rl (List α)} [Sq r1 r0 true] [Mo r0] [Mo r1] {k : Int} (n : Nat) (h : EvR te σ G H r1 xs) (h2 : EvR tb σ G H rI k) (e : k = (n : Int)) : EvR (tSl (rSlL K) te tNoPart (tPart tb)) σ G H (rL r0) (xs.take n) :=
  (ev_slL h eo_n (eo_s (e ▸ h2))).is (takeS xs n)
theorem ev_takeT [Mo r0] {k : Int} (n : Nat) (h : EvR te σ G H (rT r0) xs) (h2 : EvR tb σ G H rI k) (e : k = (n : Int)) : EvR (tSl (rSlA K) te tNoPart (tPart tb)) σ G H (rT r0) (xs.take n) :=
  (ev_slT h eo_n (eo_s (e ▸ h2))).is (takeS xs n)
/-- xs[n:] -/
theorem ev_dropL {r1 : Rl (List α)} [Sq r1 r0 true] [Mo r0] [Mo r1] {k : Int} (n : Nat) (h : EvR te σ G H r1 xs) (h2 : EvR tb σ G H rI k) (e : k = (n : Int)) : EvR (tSl (rSlL K) te (tPart tb) tNoPart) σ G H (rL r0) (xs.drop n) :=
  (ev_slL h (eo_s (e ▸ h2)) eo_n).is (dropS xs n)
/-- t[r::c] -/
theorem al_pick {s : V → α → Prop} {vs : List V} {xs : List α} (t : Al s vs xs) (f : Nat → Nat) : ∀ l : List Nat, Al s (l.filterMap fun m => vs[f m]?) (l.filterMap fun m => xs[f m]?)
  | [] => .nil
  | m :: l => by
    rw [List.filterMap_cons, List.filterMap_cons]
    cases e : xs[f m]? with
    | none =>
      have e2 : vs[f m]? = none := by
        rw [List.getElem?_eq_none_iff] at e ⊢
        rw [t.length]
        exact e
      rw [e2]
      exact al_pick t f l
    | some x =>
      obtain ⟨v, hv, rv⟩ := t.get e
      rw [hv]
      exact .cons rv (al_pick t f l)
theorem ev_step [Mo r0] {ts : TE} {i k : Int} (a c : Nat) (h : EvR te σ G H (rT r0) xs) (h1 : EvR tb σ G H rI i) (h2 : EvR ts σ G H rI k) (ei : i = (a : Int)) (ek : k = (c : Int)) (hc : 2 ≤ c) :
    EvR (tStep K te (tPart tb) (tPart ts)) σ G H (rT r0) (stepL xs a c) := fun G1 H1 f Q q =>
  h G1 H1 f _ fun v G2 H2 f2 e => h1 G2 H2 (f.trans f2) _ fun v3 G3 H3 f3 e3 => ⟨i, e3, h2 G3 H3 ((f.trans f2).trans f3) _ fun v4 G4 H4 f4 e4 => ⟨k, e4, by
    obtain ⟨b, vs, rfl, hb, t⟩ := Sq.sq f4.gd (Mo.mo (Mo.mo e f3) f4)
    refine ⟨b, vs, a, c, rfl, sqT_of hb, by rw [ei], by rw [ek], hc, fun p hp => ?_⟩
    have t2 : Al (r0 G4 H4) (stepV vs a c) (stepL xs a c) := by
      unfold stepV stepL
      rw [t.length]
      exact al_pick t (fun m => a + m * c) _
    have n := new_tup f4.gd hp t2
    exact q _ _ _ (((f2.trans f3).trans f4).trans n.1) n.2⟩⟩
/-! ### built-ins over lists of ints -/
theorem ev_sum {r1 : Rl (List Int)} [Sq r1 rI true] {ns : List Int} (h : EvR te σ G H r1 ns) : EvR (tCB (rSum K) (tCons te tNil)) σ G H rI ns.sum := fun G1 H1 f Q q =>
  h G1 H1 f _ fun v G2 H2 f2 e => by
    obtain ⟨a, vs, rfl, ha, t⟩ := Sq.sq f2.gd e
    have ha : H2 a = some (.lst vs) := ha
    rw [ints_al t] at ha
    exact ⟨a, ns, rfl, sqL_of ha, q _ G2 H2 f2 rfl⟩
theorem ev_anyI {r1 : Rl (List Int)} {b : Bool} [Sq r1 rI b] {ns : List Int} (h : EvR te σ G H r1 ns) : EvR (tCB (rAnyI K b) (tCons te tNil)) σ G H rB (ns.any fun n => n != 0) := fun G1 H1 f Q q =>
  h G1 H1 f _ fun v G2 H2 f2 e => by
    obtain ⟨a, vs, rfl, ha, t⟩ := Sq.sq f2.gd e
    rw [ints_al t] at ha
    exact ⟨a, ns, rfl, sqK_of ha, q _ G2 H2 f2 rfl⟩
theorem al_bools {G H : Hp} : ∀ {vs : List V} {bs : List Bool}, Al (rB G H) vs bs → vs = bs.map V.bl
  | _, _, .nil => rfl
  | _, _, .cons a t => by rw [List.map_cons, al_bools t, a]
theorem ev_anyB {r1 : Rl (List Bool)} [Sq r1 rB true] {bs : List Bool} (h : EvR te σ G H r1 bs) : EvR (tCB (rAny K) (tCons te tNil)) σ G H rB (bs.any id) := fun G1 H1 f Q q =>
  h G1 H1 f _ fun v G2 H2 f2 e => by
    obtain ⟨a, vs, rfl, ha, t⟩ := Sq.sq f2.gd e
    have ha : H2 a = some (.lst vs) := ha
    rw [al_bools t] at ha
    exact ⟨a, bs, rfl, sqL_of ha, q _ G2 H2 f2 rfl⟩
/-- max(ns), not empty: the greatest, m -/
theorem ev_max {r1 : Rl (List Int)} [Sq r1 rI true] {ns : List Int} {m : Int} (h : EvR te σ G H r1 ns) (hm : m ∈ ns) (hg : ∀ n ∈ ns, n ≤ m) : EvR (tCB (rMax K) (tCons te tNil)) σ G H rI m := fun G1 H1 f Q q =>
  h G1 H1 f _ fun v G2 H2 f2 e => by
    obtain ⟨a, vs, rfl, ha, t⟩ := Sq.sq f2.gd e
    have ha : H2 a = some (.lst vs) := ha
    rw [ints_al t] at ha
    refine ⟨a, ns, rfl, sqL_of ha, List.length_pos_of_mem hm, fun k hk hk2 => q _ G2 H2 f2 ?_⟩
    have e : k = m := Int.le_antisymm (hg k hk) (hk2 m hm)
    rw [e]
    rfl
theorem ev_max2 {i j : Int} (ha : EvR ta σ G H rI i) (hb : EvR tb σ G H rI j) : EvR (tCB (fun vs H Q => ∃ i j, vs = [.int i, .int j] ∧ Q (.int (if j > i then j else i)) H) (tCons ta (tCons tb tNil))) σ G H rI (if j > i then j else i) := fun G1 H1 f Q q =>
  ha G1 H1 f _ fun v G2 H2 f2 e => hb G2 H2 (f.trans f2) _ fun v3 G3 H3 f3 e3 => ⟨i, j, by rw [e, e3], q _ G3 H3 (f2.trans f3) rfl⟩
theorem ev_intB {b : Bool} (h : EvR te σ G H rB b) : EvR (tCB (fun vs H Q => (∃ i, vs = [.int i] ∧ Q (.int i) H) ∨ ∃ k, vs = [.bl k] ∧ Q (.int (if k then 1 else 0)) H) (tCons te tNil)) σ G H rI (if b then 1 else 0) := fun G1 H1 f Q q =>
  h G1 H1 f _ fun v G2 H2 f2 e => .inr ⟨b, by rw [e], q _ G2 H2 f2 rfl⟩
theorem ev_abs {i : Int} (h : EvR te σ G H rI i) : EvR (tCB (fun vs H Q => ∃ i, vs = [.int i] ∧ Q (.int (if i < 0 then -i else i)) H) (tCons te tNil)) σ G H rI (if i < 0 then -i else i) := fun G1 H1 f Q q =>
  h G1 H1 f _ fun v G2 H2 f2 e => ⟨i, by rw [e], q _ G2 H2 f2 rfl⟩
/-! ### == () and != () -/
theorem dp_al {G H : Hp} (d : Gd G H) : ∀ {vs : List V} {ns : List Int}, Al (rI G H) vs ns → DpAll K H vs (ns.map PyData.int)
  | _, _, .nil => .nil
  | _, _, .cons a t => by
    rw [a]
    exact .cons (.int _) (dp_al d t)
theorem shaped_ints (ns : List Int) : SeqAt.shaped (.tuple (ns.map PyData.int)) = true := by
  simp [SeqAt.shaped, PyData.canLay0, PyData.depth, PySem.W.ke_canLayAll0, PySem.W.ke_depthAll]
theorem eqv_nil (ns : List Int) : PyData.eqv (.tuple (ns.map PyData.int)) (.tuple []) = ns.isEmpty := by
  cases ns <;> simp [PyData.eqv, PyData.eqvAll]
theorem shaped_intsL (ns : List Int) : SeqAt.shaped (.list (ns.map PyData.int)) = true := PySem.W.ke_shaped_ints ns
theorem eqv_nilL (ns : List Int) : PyData.eqv (.list (ns.map PyData.int)) (.list []) = ns.isEmpty := by
  cases ns <;> simp [PyData.eqv, PyData.eqvAll]
theorem ev_neU {ns : List Int} (ha : EvR ta σ G H (rT rI) ns) : EvR (tOp (rNeD K) ta (tTup tNil)) σ G H rB (!ns.isEmpty) :=
  ev_op ha (ev_tup el_n (by decide) : EvR (tTup tNil) σ G H (rT rI) []) fun u v G1 H1 f hu hv Q q => by
    obtain ⟨a, vs, rfl, h1, t1⟩ := Sq.sq f.gd hu
    obtain ⟨b, ws, rfl, h2, t2⟩ := Sq.sq f.gd hv
    exact ⟨_, _, .tup (sqT_of h1) (dp_al f.gd t1), .tup (sqT_of h2) (dp_al f.gd t2), shaped_ints _, shaped_ints _, q _ G1 H1 (Fz.refl f.gd) (by rw [List.map_nil, eqv_nil]; rfl)⟩
theorem ev_eqU {ns : List Int} (ha : EvR ta σ G H (rT rI) ns) : EvR (tOp (rEqD K) ta (tTup tNil)) σ G H rB ns.isEmpty :=
  ev_op ha (ev_tup el_n (by decide) : EvR (tTup tNil) σ G H (rT rI) []) fun u v G1 H1 f hu hv Q q => by
    obtain ⟨a, vs, rfl, h1, t1⟩ := Sq.sq f.gd hu
    obtain ⟨b, ws, rfl, h2, t2⟩ := Sq.sq f.gd hv
    exact ⟨_, _, .tup (sqT_of h1) (dp_al f.gd t1), .tup (sqT_of h2) (dp_al f.gd t2), shaped_ints _, shaped_ints _, q _ G1 H1 (Fz.refl f.gd) (by rw [List.map_nil, eqv_nil]; rfl)⟩
theorem ev_neUL {ns : List Int} (ha : EvR ta σ G H (rL rI) ns) : EvR (tOp (rNeD K) ta (tLst tNil)) σ G H rB (!ns.isEmpty) :=
  ev_op ha (ev_lst el_n (by decide) : EvR (tLst tNil) σ G H (rL rI) []) fun u v G1 H1 f hu hv Q q => by
    obtain ⟨a, vs, rfl, h1, t1⟩ := Sq.sq f.gd hu
    obtain ⟨b, ws, rfl, h2, t2⟩ := Sq.sq f.gd hv
    exact ⟨_, _, .lst (sqL_of h1) (dp_al f.gd t1), .lst (sqL_of h2) (dp_al f.gd t2), shaped_intsL _, shaped_intsL _, q _ G1 H1 (Fz.refl f.gd) (by rw [List.map_nil, eqv_nilL]; rfl)⟩
/-- k in ns, k not in ns -/
theorem inV_ints (i : Int) : ∀ ns : List Int, inV (.int i) (ns.map V.int) = decide (i ∈ ns)
  | [] => by simp [inV]
  | n :: ns => by
    have ih := inV_ints i ns
    unfold inV at ih ⊢
    rw [List.map_cons, List.any_cons, ih]
    by_cases h : n = i
    · simp [eqV, h]
    · have h2 : (n == i) = false := by simp [h]
      have h3 : ¬ i = n := fun z => h z.symm
      simp [eqV, h2, h3]
theorem flat_ints : ∀ ns : List Int, (ns.map V.int).all flatV = true
  | [] => rfl
  | n :: ns => by rw [List.map_cons, List.all_cons, flat_ints ns]; rfl
theorem ev_notIn {r1 : Rl (List Int)} {b : Bool} [Sq r1 rI b] {i : Int} {ns : List Int} (ha : EvR ta σ G H rI i) (hb : EvR tb σ G H r1 ns) : EvR (tOp (rIn K true) ta tb) σ G H rB (!decide (i ∈ ns)) :=
  ev_op ha hb fun u v G1 H1 f hu hv Q q => by
    obtain ⟨a, vs, rfl, h1, t1⟩ := Sq.sq f.gd hv
    rw [ints_al t1] at h1
    refine ⟨a, _, rfl, sqE_of h1, by rw [hu]; rfl, flat_ints ns, q _ G1 H1 (Fz.refl f.gd) ?_⟩
    rw [hu, if_pos rfl, inV_ints]
    rfl
end
end Dg
end
section
set_option Elab.async false
set_option linter.all false
set_option maxRecDepth 100000
set_option maxHeartbeats 4000000
/-! What stands in the slots, and what is one's own: contexts; statements over them. -/
namespace Dg
open PySem PySem.Spec PyProof.Rows L2
/-- G' holds what G holds -/
abbrev In (G G' : Hp) : Prop := ∀ b o, G b = some o → G' b = some o
/-- as Fz, but the objects at S may have been written -/
structure FzS (S : List Addr) (G H G' H' : Hp) : Prop where
  gg : In G G'
  gd : Gd G' H'
  hh : ∀ b o, b ∉ S → H b = some o → H' b = some o
  hn : ∀ b, H b ≠ none → H' b ≠ none
  fr : ∀ b, H b ≠ none → G b = none → G' b = none
section
variable {S : List Addr} {G H G' H' G1 H1 G2 H2 : Hp}
theorem Fz.toS (f : Fz G H G1 H1) : FzS S G H G1 H1 where
  gg := f.gg
  gd := f.gd
  hh b o _ h := f.hh b o h
  hn b h z := by
    cases q : H b with
    | none => exact h q
    | some o =>
      rw [f.hh b o q] at z
      cases z
  fr := f.fr
theorem FzS.to (f : FzS [] G H G1 H1) : Fz G H G1 H1 := ⟨f.gg, f.gd, fun b o h => f.hh b o (by simp) h, f.fr⟩
theorem FzS.trans (x : FzS S G H G1 H1) (y : FzS S G1 H1 G2 H2) : FzS S G H G2 H2 :=
  ⟨fun b o h => y.gg b o (x.gg b o h), y.gd, fun b o n h => y.hh b o n (x.hh b o n h), fun b h => y.hn b (x.hn b h), fun b h n => y.fr b (x.hn b h) (x.fr b h n)⟩
theorem FzS.step (x : FzS S G H G1 H1) (y : Fz G1 H1 G2 H2) : FzS S G H G2 H2 := x.trans y.toS
theorem FzS.mono {T : List Addr} (x : FzS S G H G1 H1) (h : ∀ b ∈ S, b ∈ T) : FzS T G H G1 H1 := ⟨x.gg, x.gd, fun b o n q => x.hh b o (fun z => n (h b z)) q, x.hn, x.fr⟩
theorem FzS.free {p : Addr} (x : FzS S G H G1 H1) (h : H1 p = none) : H p = none := by
  cases q : H p with
  | none => rfl
  | some o => exact absurd h (x.hn p (by rw [q]; exact fun z => nomatch z))
end
/-- what one slot holds: it leans on what stays -/
structure Ent where
  P : Hp → Option V → Prop
  up : ∀ {G G' : Hp} {o : Option V}, P G o → In G G' → P G' o
def eAny : Ent := ⟨fun _ _ => True, fun _ _ => trivial⟩
instance {α : Type} {r : Rl α} [Go r] : Mo r := ⟨fun h z => Go.to h z.gg⟩
def eR {α : Type} (r : Rl α) [Go r] (x : α) : Ent := ⟨fun G o => ∃ v, o = some v ∧ r G G v x, fun ⟨v, e, h⟩ z => ⟨v, e, Go.to h z⟩⟩
/-- the address itself -/
def rA : Rl Addr := fun _ _ v a => v = .ref a
instance : Go rA := ⟨fun h => h, fun h _ => h⟩
def rN : Rl Nat := fun _ _ v n => v = .int n
instance : Go rN := ⟨fun h => h, fun h _ => h⟩
/-- None, or a thing -/
def rO {α : Type} (r : Rl α) : Rl (Option α) := fun G H v x => match x with
  | none => v = .non
  | some y => v ≠ .non ∧ r G H v y
instance {α : Type} {r : Rl α} [Go r] : Go (rO r) := ⟨fun {G H H' v x} h => by cases x with
  | none => exact h
  | some y => exact ⟨h.1, Go.go h.2⟩, fun {G G' H v x} h z => by cases x with
  | none => exact h
  | some y => exact ⟨h.1, Go.up h.2 z⟩⟩
/-- a tuple of unlike things -/
def rU {α : Type} (P : α → AP) : Rl α := fun G H v x => ∃ a vs, v = .ref a ∧ G a = some (.tup vs) ∧ P x G H vs
class GoA (P : AP) : Prop where
  go : ∀ {G H H' : Hp} {vs : List V}, P G H vs → P G H' vs
  up : ∀ {G G' H : Hp} {vs : List V}, P G H vs → In G G' → P G' H vs
instance : GoA aN := ⟨fun h => h, fun h _ => h⟩
instance {α : Type} {r : Rl α} {x : α} {P : AP} [Go r] [GoA P] : GoA (aC r x P) := ⟨fun ⟨v, ws, e, h, t⟩ => ⟨v, ws, e, Go.go h, GoA.go t⟩, fun ⟨v, ws, e, h, t⟩ z => ⟨v, ws, e, Go.up h z, GoA.up t z⟩⟩
instance {α : Type} {P : α → AP} [∀ x, GoA (P x)] : Go (rU P) := ⟨fun ⟨a, vs, e, h, t⟩ => ⟨a, vs, e, h, GoA.go t⟩, fun ⟨a, vs, e, h, t⟩ z => ⟨a, vs, e, z _ _ h, GoA.up t z⟩⟩
abbrev rPr {α β : Type} (r : Rl α) (r' : Rl β) : Rl (α × β) := rU fun t => aC r t.1 (aC r' t.2 aN)
abbrev rTr {α β γ : Type} (r : Rl α) (r' : Rl β) (r'' : Rl γ) : Rl (α × β × γ) := rU fun t => aC r t.1 (aC r' t.2.1 (aC r'' t.2.2 aN))
abbrev rQd {α β γ δ : Type} (r : Rl α) (r' : Rl β) (r'' : Rl γ) (r3 : Rl δ) : Rl (α × β × γ × δ) := rU fun t => aC r t.1 (aC r' t.2.1 (aC r'' t.2.2.1 (aC r3 t.2.2.2 aN)))
inductive Kd | ro | par | new
/-- an object of one's own: ro is only read, par is a parameter that may be written, new was made here -/
structure Own where
  a : Addr
  k : Kd
  P : Hp → HO → Prop
  up : ∀ {G G' : Hp} {o : HO}, P G o → In G G' → P G' o
/-- a list that may be written -/
def oL {α : Type} (a : Addr) (r : Rl α) [Go r] (xs : List α) (k : Kd := .new) : Own := ⟨a, k, fun G o => ∃ vs, o = .lst vs ∧ Al (r G G) vs xs, fun ⟨vs, e, t⟩ z => ⟨vs, e, t.imp fun _ _ q => Go.to q z⟩⟩
/-- a list that is only read -/
def oF {α : Type} (a : Addr) (vs : List V) (r : Rl α) [Go r] (xs : List α) : Own := ⟨a, .ro, fun G o => o = .lst vs ∧ Al (r G G) vs xs, fun ⟨e, t⟩ z => ⟨e, t.imp fun _ _ q => Go.to q z⟩⟩
def gt : List Ent → Nat → Ent
  | [], _ => eAny
  | e :: _, 0 => e
  | _ :: r, n + 1 => gt r n
def put : List Ent → Nat → Ent → List Ent
  | [], _, _ => []
  | _ :: r, 0, e => e :: r
  | f :: r, n + 1, e => f :: put r n e
def putO : List Own → Nat → Own → List Own
  | [], _, _ => []
  | _ :: r, 0, e => e :: r
  | f :: r, n + 1, e => f :: putO r n e
def rmO : List Own → Nat → List Own
  | [], _ => []
  | _ :: r, 0 => r
  | f :: r, n + 1 => f :: rmO r n
def puts : List Ent → List (Nat × Ent) → List Ent
  | l, [] => l
  | l, p :: ps => puts (put l p.1 p.2) ps
def wipeE (l : List Ent) : List Nat → List Ent
  | [] => l
  | v :: vs => put (wipeE l vs) v eAny
structure Ct where
  sl : List Ent
  ow : List Own
abbrev Ct.put (Γ : Ct) (i : Nat) (e : Ent) : Ct := ⟨Dg.put Γ.sl i e, Γ.ow⟩
abbrev Ct.puts (Γ : Ct) (ps : List (Nat × Ent)) : Ct := ⟨Dg.puts Γ.sl ps, Γ.ow⟩
abbrev Ct.own (Γ : Ct) (o : Own) : Ct := ⟨Γ.sl, o :: Γ.ow⟩
abbrev Ct.putO (Γ : Ct) (j : Nat) (o : Own) : Ct := ⟨Γ.sl, Dg.putO Γ.ow j o⟩
abbrev Ct.rmO (Γ : Ct) (j : Nat) : Ct := ⟨Γ.sl, Dg.rmO Γ.ow j⟩
def Sl (G : Hp) : L2.St → List Ent → Prop
  | [], [] => True
  | o :: σ, e :: l => e.P G o ∧ Sl G σ l
  | [], _ :: _ => False
  | _ :: _, [] => False
section
variable {G G' H H' : Hp}
theorem Sl.up (z : In G G') : ∀ {σ : L2.St} {l : List Ent}, Sl G σ l → Sl G' σ l
  | [], [], _ => trivial
  | _ :: _, e :: _, h => ⟨e.up h.1 z, Sl.up z h.2⟩
  | [], _ :: _, h => h.elim
  | _ :: _, [], h => h.elim
theorem Sl.get : ∀ {σ : L2.St} {l : List Ent} (i : Nat) {e : Ent}, Sl G σ l → gt l i = e → (∀ o, e.P G o → o ≠ none) → ∃ v, σ[i]? = some (some v) ∧ e.P G (some v)
  | [], [], _, e, _, hg, hn => by
    subst hg
    exact absurd rfl (hn none trivial)
  | o :: σ, e :: l, 0, _, h, hg, hn => by
    subst hg
    cases o with
    | none => exact absurd rfl (hn none h.1)
    | some v => exact ⟨v, rfl, h.1⟩
  | o :: σ, e :: l, i + 1, _, h, hg, hn => Sl.get (σ := σ) (l := l) i h.2 hg hn
  | [], _ :: _, _, _, h, _, _ => h.elim
  | _ :: _, [], _, _, h, _, _ => h.elim
theorem Sl.put {o : Option V} : ∀ {σ : L2.St} {l : List Ent} (i : Nat) (e : Ent), Sl G σ l → e.P G o → Sl G (σ.set i o) (put l i e)
  | [], [], _, _, _, _ => trivial
  | _ :: _, _ :: _, 0, _, h, p => ⟨p, h.2⟩
  | _ :: _, _ :: _, i + 1, e, h, p => ⟨h.1, Sl.put i e h.2 p⟩
  | [], _ :: _, _, _, h, _ => h.elim
  | _ :: _, [], _, _, h, _ => h.elim
theorem Sl.wipe {σ : L2.St} {l : List Ent} (h : Sl G σ l) : ∀ vs : List Nat, Sl G (wipe σ vs) (wipeE l vs)
  | [] => h
  | v :: vs => Sl.put v eAny (Sl.wipe h vs) trivial
end
/-- the slots, one's own -/
structure Eo (G H : Hp) (σ : L2.St) (Γ : Ct) : Prop where
  gd : Gd G H
  sl : Sl G σ Γ.sl
  ow : ∀ o ∈ Γ.ow, ∃ h, H o.a = some h ∧ (o.k ≠ .ro → G o.a = none) ∧ o.P G h
section
variable {K : PySem.W.Frag} {G H G' H' G1 H1 : Hp} {σ : L2.St} {Γ : Ct} {α β : Type} {r : Rl α} {r' : Rl β} {x : α} {y : β} {xs : List α}
theorem Eo.mono (e : Eo G H σ Γ) (f : Fz G H G1 H1) : Eo G1 H1 σ Γ := ⟨f.gd, e.sl.up f.gg, fun o ho => by
  obtain ⟨h, a, b, c⟩ := e.ow o ho
  exact ⟨h, f.hh _ _ a, fun k => f.fr _ (by rw [a]; exact fun z => nomatch z) (b k), o.up c f.gg⟩⟩
theorem eR_some [Go r] {o : Option V} (h : (eR r x).P G o) : o ≠ none := by
  obtain ⟨v, e, _⟩ := h
  rw [e]
  exact fun z => nomatch z
/-- the i-th slot -/
theorem lk [Go r] (e : Eo G H σ Γ) (i : Nat) (h : gt Γ.sl i = eR r x) : EvR (tVar i) σ G H r x := by
  obtain ⟨v, hv, w, ew, hw⟩ := e.sl.get i h fun o => eR_some
  cases ew
  exact ev_v hv (Go.go hw)
/-- a list of one's own in the i-th slot -/
theorem lkO [Go r] (e : Eo G H σ Γ) (i j : Nat) {a : Addr} {k : Kd} (h : gt Γ.sl i = eR rA a) (h2 : Γ.ow[j]? = some (oL a r xs k)) : EvR (tVar i) σ G H (rR r) xs := by
  obtain ⟨v, hv, w, ew, hw⟩ := e.sl.get i h fun o => eR_some
  cases ew
  obtain ⟨u, hu, _, vs, eu, t⟩ := e.ow _ (List.mem_of_getElem? h2)
  have hu : H a = some u := hu
  rw [eu] at hu
  exact ev_v hv ⟨a, vs, hw, hu, t.imp fun _ _ q => Go.go q⟩
theorem lkF [Go r] (e : Eo G H σ Γ) (i j : Nat) {a : Addr} {ws : List V} (h : gt Γ.sl i = eR rA a) (h2 : Γ.ow[j]? = some (oF a ws r xs)) : EvR (tVar i) σ G H (rR r) xs := by
  obtain ⟨v, hv, w, ew, hw⟩ := e.sl.get i h fun o => eR_some
  cases ew
  obtain ⟨u, hu, _, eu, t⟩ := e.ow _ (List.mem_of_getElem? h2)
  have hu : H a = some u := hu
  rw [eu] at hu
  exact ev_v hv ⟨a, ws, hw, hu, t.imp fun _ _ q => Go.go q⟩
theorem ev_nI {te : TE} {n : Nat} (h : EvR te σ G H rN n) : EvR te σ G H rI (n : Int) := h
theorem ev_nI' {te : TE} {n : Nat} {i : Int} (h : EvR te σ G H rI i) (e : i = (n : Int)) : EvR te σ G H rN n := by
  subst e
  exact h
/-! ### targets -/
def sets : L2.St → List (Nat × V) → L2.St
  | σ, [] => σ
  | σ, p :: ps => sets (σ.set p.1 (some p.2)) ps
inductive Fits (G : Hp) : List (Nat × Ent) → List (Nat × V) → Prop
  | nil : Fits G [] []
  | cons {i : Nat} {e : Ent} {v : V} {ps : List (Nat × Ent)} {ws : List (Nat × V)} : e.P G (some v) → Fits G ps ws → Fits G ((i, e) :: ps) ((i, v) :: ws)
theorem Fits.sl : ∀ {ps : List (Nat × Ent)} {ws : List (Nat × V)} {σ : L2.St} {l : List Ent}, Fits G ps ws → Sl G σ l → Sl G (sets σ ws) (puts l ps)
  | _, _, _, _, .nil, h => h
  | _, _, _, _, .cons a t, h => t.sl (h.put _ _ a)
/-- the target takes a thing x of the type r: what it leaves in which slots -/
def Tg (g : TG) (r : Rl α) (x : α) (ps : List (Nat × Ent)) : Prop := ∀ v G H, Gd G H → r G H v x → ∃ ws, Fits G ps ws ∧ ∀ σ Q, Q (sets σ ws) H → g v σ H Q
def TgA (g : TGs) (P : AP) (ps : List (Nat × Ent)) : Prop := ∀ vs G H, Gd G H → P G H vs → vs.length = ps.length ∧ ∃ ws, Fits G ps ws ∧ ∀ σ Q, Q (sets σ ws) H → g vs σ H Q
theorem tg_n [Go r] (i : Nat) : Tg (gName i) r x [(i, eR r x)] := fun v G H d h => ⟨[(i, v)], .cons ⟨v, rfl, Go.go h⟩ .nil, fun σ Q q => q⟩
theorem tga_n : TgA gNil aN [] := fun vs G H d h => ⟨by rw [h]; rfl, [], .nil, fun σ Q q => ⟨h, q⟩⟩
theorem tga_c [Go r] {i : Nat} {u : TGs} {P : AP} {ps : List (Nat × Ent)} (h : TgA u P ps) : TgA (gCons (gName i) u) (aC r x P) ((i, eR r x) :: ps) := fun vs G H d ⟨v, ws, e, hv, t⟩ => by
  obtain ⟨hl, zs, hz, q⟩ := h ws G H d t
  exact ⟨by rw [e, List.length_cons, List.length_cons, hl], (i, v) :: zs, .cons ⟨v, rfl, Go.go hv⟩ hz, fun σ Q k => ⟨v, ws, e, q _ Q k⟩⟩
theorem tg_u {P : α → AP} {u : TGs} {ps : List (Nat × Ent)} {n : Nat} (h : TgA u (P x) ps) (hn : ps.length = n) : Tg (gTup K n u) (rU P) x ps := fun v G H d ⟨a, vs, e, ha, t⟩ => by
  obtain ⟨hl, ws, hw, q⟩ := h vs G H d t
  exact ⟨ws, hw, fun σ Q k => ⟨a, vs, e, sqT_of (d.sub _ _ ha), hl.trans hn, q σ Q k⟩⟩
theorem wipe_set (σ : L2.St) (i : Nat) (o : Option V) : ∀ vs : List Nat, i ∈ vs → wipe (σ.set i o) vs = wipe σ vs
  | v :: vs, h => by
    show (wipe (σ.set i o) vs).set v none = (wipe σ vs).set v none
    by_cases hi : i ∈ vs
    · rw [wipe_set σ i o vs hi]
    · have hv : i = v := (List.mem_cons.mp h).resolve_right hi
      subst hv
      clear h
      have q : ∀ us : List Nat, i ∉ us → wipe (σ.set i o) us = (wipe σ us).set i o := by
        intro us
        induction us with
        | nil => intro _; rfl
        | cons u us ih =>
          intro hu
          rw [List.mem_cons, not_or] at hu
          show (wipe (σ.set i o) us).set u none = ((wipe σ us).set u none).set i o
          rw [ih hu.2, List.set_comm _ _ (fun z => hu.1 z)]
      rw [q vs hi, List.set_set]
theorem wipe_wipe (σ : L2.St) : ∀ vs us : List Nat, (∀ i ∈ vs, i ∈ us) → wipe (wipe σ vs) us = wipe σ us
  | [], _, _ => rfl
  | v :: vs, us, h => by
    show wipe ((wipe σ vs).set v none) us = _
    rw [wipe_set _ _ _ _ (h v List.mem_cons_self), wipe_wipe σ vs us fun i hi => h i (List.mem_cons_of_mem _ hi)]
theorem wipe_sets : ∀ {ps : List (Nat × Ent)} {ws : List (Nat × V)} {σ : L2.St} {vs : List Nat}, Fits G ps ws → (∀ p ∈ ps, p.1 ∈ vs) → wipe (sets σ ws) vs = wipe σ vs
  | _, _, _, _, .nil, _ => rfl
  | _, _, σ, vs, .cons (i := i) (v := v) a t, h => by
    show wipe (sets (σ.set i (some v)) _) vs = _
    rw [wipe_sets t fun p hp => h p (List.mem_cons_of_mem _ hp), wipe_set _ _ _ _ (h _ List.mem_cons_self)]
/-! ### things to walk over -/
/-- what a walk wants of the heaps later on -/
def Lz (S : List Addr) (G H G' H' : Hp) : Prop := In G G' ∧ Gd G' H' ∧ ∀ b ∈ S, ∀ o, H b = some o → H' b = some o
theorem Fz.lz {S : List Addr} (f : Fz G H G' H') : Lz S G H G' H' := ⟨f.gg, f.gd, fun b _ o h => f.hh b o h⟩
/-- the items l, of the type r; the lists at S must stand meanwhile -/
def EvI (wi : TI) (σ : L2.St) (G H : Hp) (S : List Addr) (r : Rl α) (l : List α) : Prop := ∀ G1 H1, Fz G H G1 H1 → ∀ R : It → Hp → Prop,
  (∀ J G2 H2 C Y, Fz G1 H1 G2 H2 → L2.Walk J l.length C Y → (∀ G3 H3, Lz S G2 H2 G3 H3 → C H3) →
    (∀ i x, l[i]? = some x → ∀ G3 H3 v H4, Lz S G2 H2 G3 H3 → Y i H3 v H4 → ∃ G4, Fz G3 H3 G4 H4 ∧ r G4 H4 v x) → R J H2) → wi σ H1 R
/-- lists, tuples that stay -/
class SqG {α : Type} (r : Rl (List α)) (r0 : outParam (Rl α)) (b : outParam Bool) : Prop where
  sq : ∀ {G H : Hp} {v : V} {xs : List α}, r G H v xs → ∃ a vs, v = .ref a ∧ G a = some (seqO b vs) ∧ Al (r0 G H) vs xs
instance {α : Type} {r : Rl α} : SqG (rT r) r false := ⟨fun h => h⟩
instance {α : Type} {r : Rl α} : SqG (rL r) r true := ⟨fun h => h⟩
variable {te ta tb : TE}
theorem ei_l [Go r] {r1 : Rl (List α)} [SqG r1 r true] (h : EvR te σ G H r1 xs) : EvI (iList K te) σ G H [] r xs := fun G1 H1 f R q =>
  h G1 H1 f _ fun v G2 H2 f2 e => by
    obtain ⟨a, vs, rfl, ha, t⟩ := SqG.sq e
    refine ⟨a, rfl, ⟨vs, sqL_of (f2.gd.sub _ _ ha)⟩, q _ G2 H2 (fun H => SqL K H a vs) (YAt vs) f2 (t.length ▸ L2.walk_list) (fun G3 H3 z => sqL_of (z.2.1.sub _ _ (z.1 _ _ ha))) fun i x hx G3 H3 v H4 z y => ?_⟩
    obtain ⟨rfl, hv⟩ := y
    obtain ⟨w, hw, rw_⟩ := t.get hx
    rw [hv] at hw
    cases hw
    exact ⟨G3, Fz.refl z.2.1, Go.to rw_ z.1⟩
theorem ei_t [Go r] {r1 : Rl (List α)} [SqG r1 r false] (h : EvR te σ G H r1 xs) : EvI (iTup K te) σ G H [] r xs := fun G1 H1 f R q =>
  h G1 H1 f _ fun v G2 H2 f2 e => by
    obtain ⟨a, vs, rfl, ha, t⟩ := SqG.sq e
    refine ⟨a, rfl, ⟨vs, sqT_of (f2.gd.sub _ _ ha)⟩, q _ G2 H2 (fun H => SqT K H a vs) (YAt vs) f2 (t.length ▸ L2.walk_tup) (fun G3 H3 z => sqT_of (z.2.1.sub _ _ (z.1 _ _ ha))) fun i x hx G3 H3 v H4 z y => ?_⟩
    obtain ⟨rfl, hv⟩ := y
    obtain ⟨w, hw, rw_⟩ := t.get hx
    rw [hv] at hw
    cases hw
    exact ⟨G3, Fz.refl z.2.1, Go.to rw_ z.1⟩
/-- a list of one's own -/
theorem ei_o [Go r] (e : Eo G H σ Γ) (i j : Nat) {a : Addr} {k : Kd} (h : gt Γ.sl i = eR rA a) (h2 : Γ.ow[j]? = some (oL a r xs k)) : EvI (iList K (tVar i)) σ G H [a] r xs := fun G1 H1 f R q => by
  obtain ⟨v, hv, w, ew, hw⟩ := e.sl.get i h fun o => eR_some
  cases ew
  have e1 := e.mono f
  obtain ⟨u, hu, _, vs, eu, t⟩ := e1.ow _ (List.mem_of_getElem? h2)
  have hu : H1 a = some u := hu
  rw [eu] at hu
  refine ⟨v, hv, a, hw, ⟨vs, sqL_of hu⟩, q _ G1 H1 (fun H => SqL K H a vs) (YAt vs) (Fz.refl f.gd) (t.length ▸ L2.walk_list) (fun G3 H3 z => sqL_of (z.2.2 a (by simp) _ hu)) fun i x hx G3 H3 v H4 z y => ?_⟩
  obtain ⟨rfl, hv⟩ := y
  obtain ⟨w, hw, rw_⟩ := t.get hx
  rw [hv] at hw
  cases hw
  exact ⟨G3, Fz.refl z.2.1, Go.to rw_ z.1⟩
theorem ei_f [Go r] (e : Eo G H σ Γ) (i j : Nat) {a : Addr} {vs : List V} (h : gt Γ.sl i = eR rA a) (h2 : Γ.ow[j]? = some (oF a vs r xs)) : EvI (iList K (tVar i)) σ G H [a] r xs := fun G1 H1 f R q => by
  obtain ⟨v, hv, w, ew, hw⟩ := e.sl.get i h fun o => eR_some
  cases ew
  have e1 := e.mono f
  obtain ⟨u, hu, _, eu, t⟩ := e1.ow _ (List.mem_of_getElem? h2)
  have hu : H1 a = some u := hu
  rw [eu] at hu
  refine ⟨v, hv, a, hw, ⟨vs, sqL_of hu⟩, q _ G1 H1 (fun H => SqL K H a vs) (YAt vs) (Fz.refl f.gd) (t.length ▸ L2.walk_list) (fun G3 H3 z => sqL_of (z.2.2 a (by simp) _ hu)) fun i x hx G3 H3 v H4 z y => ?_⟩
  obtain ⟨rfl, hv⟩ := y
  obtain ⟨w, hw, rw_⟩ := t.get hx
  rw [hv] at hw
  cases hw
  exact ⟨G3, Fz.refl z.2.1, Go.to rw_ z.1⟩
theorem ei_r1 {i : Int} (h : EvR te σ G H rI i) (h1 : -(2 ^ 62) ≤ i) (h2 : i < 2 ^ 62) : EvI (iRng1 (tCons te tNil)) σ G H [] rN (List.range i.toNat) := fun G1 H1 f R q =>
  h G1 H1 f _ fun v G2 H2 f2 e => ⟨i, by rw [e], h1, h2, q _ G2 H2 (fun _ => True) (YFn fun k => .int (0 + (k : Nat))) f2 (by rw [List.length_range]; exact L2.walk_range) (fun _ _ _ => trivial) fun k x hx G3 H3 v H4 z y => by
    obtain ⟨rfl, rfl⟩ := y
    have q : x = k := by
      rw [List.getElem?_range] at hx
      · exact (Option.some.inj hx).symm
      · have := (List.getElem?_eq_some_iff.mp hx).1
        rwa [List.length_range] at this
    subst q
    exact ⟨G3, Fz.refl z.2.1, by show V.int _ = V.int _; rw [Int.zero_add]⟩⟩
/-- range(i, -1, -1) -/
theorem ei_dn {i j k : Int} (ha : EvR ta σ G H rI i) (hb : EvR tb σ G H rI j) (hc : EvR te σ G H rI k) (ej : j = -1) (ek : k = -1) (h1 : -(2 ^ 62) ≤ i) (h2 : i < 2 ^ 62) :
    EvI (iRng3 (tCons ta (tCons tb (tCons te tNil)))) σ G H [] rN (List.range (i + 1).toNat).reverse := fun G1 H1 f R q =>
  ha G1 H1 f _ fun v G2 H2 f2 e => hb G2 H2 (f.trans f2) _ fun v3 G3 H3 f3 e3 => hc G3 H3 ((f.trans f2).trans f3) _ fun v4 G4 H4 f4 e4 =>
    ⟨i, j, k, (i + 1).toNat, by rw [e, e3, e4], by
      subst ej ek
      have q := RgC.neg (i := i) (j := -1) (by omega) (by omega) (by omega) (by omega)
      rw [show i - -1 = i + 1 by omega] at q
      exact q, q _ G4 H4 (fun _ => True) (YFn fun m => .int (i + (m : Nat) * k)) ((f2.trans f3).trans f4) (by rw [List.length_reverse, List.length_range]; exact L2.walk_rangeC) (fun _ _ _ => trivial) fun m x hx G5 H5 v H6 z y => by
      obtain ⟨rfl, rfl⟩ := y
      have hm : m < (i + 1).toNat := by
        have := (List.getElem?_eq_some_iff.mp hx).1
        rwa [List.length_reverse, List.length_range] at this
      rw [List.getElem?_reverse (by rw [List.length_range]; exact hm), List.length_range, List.getElem?_range (by omega)] at hx
      have hx := Option.some.inj hx
      refine ⟨G5, Fz.refl z.2.1, ?_⟩
      show V.int _ = V.int _
      subst ek
      congr 1
      omega⟩
/-- a new pair, that stays -/
theorem pair_new [Go r] [Go r'] {T : Addr} {u w : V} (d : Gd G H) (hT : H T = none) (hu : r G H u x) (hw : r' G H w y) : Fz G H (upd G T (.tup [u, w])) (upd H T (.tup [u, w])) ∧ rPr r r' (upd G T (.tup [u, w])) (upd H T (.tup [u, w])) (.ref T) (x, y) := by
  have n := Fz.new (o := .tup [u, w]) d hT (fun _ z => nomatch z)
  exact ⟨n, T, _, rfl, upd_same, u, _, rfl, Go.go (Go.up hu n.gg), w, _, rfl, Go.go (Go.up hw n.gg), rfl⟩
theorem ei_el [Go r] {r1 : Rl (List α)} [SqG r1 r true] (h : EvR te σ G H r1 xs) : EvI (iEnum K (tCons te tNil)) σ G H [] (rPr rN r) (enumL xs) := fun G1 H1 f R q =>
  h G1 H1 f _ fun v G2 H2 f2 e => by
    obtain ⟨a, vs, rfl, ha, t⟩ := SqG.sq e
    refine ⟨a, vs, rfl, sqL_of (f2.gd.sub _ _ ha), q _ G2 H2 (fun H => SqL K H a vs) _ f2 (by rw [enumL_length, ← t.length]; exact L2.walk_enum) (fun G3 H3 z => sqL_of (z.2.1.sub _ _ (z.1 _ _ ha))) fun i p hp G3 H3 v H4 z y => ?_⟩
    obtain ⟨T, u, w, rfl, hT, rfl, hu, hw⟩ := y
    obtain ⟨e1, e2⟩ := enumL_get hp
    obtain ⟨w', hw', rw_⟩ := t.get e2
    have hw : vs[i]? = some w := hw
    rw [hw] at hw'
    cases hw'
    have n := pair_new (x := p.1) (r := rN) (u := u) z.2.1 hT (by rw [e1]; exact (Option.some.inj hu).symm) (Go.to rw_ z.1)
    exact ⟨_, n⟩
theorem ei_et [Go r] {r1 : Rl (List α)} [SqG r1 r false] (h : EvR te σ G H r1 xs) : EvI (iEnumT K (tCons te tNil)) σ G H [] (rPr rN r) (enumL xs) := fun G1 H1 f R q =>
  h G1 H1 f _ fun v G2 H2 f2 e => by
    obtain ⟨a, vs, rfl, ha, t⟩ := SqG.sq e
    refine ⟨a, vs, rfl, sqT_of (f2.gd.sub _ _ ha), q _ G2 H2 (fun H => SqT K H a vs) _ f2 (by rw [enumL_length, ← t.length]; exact walk_enumT) (fun G3 H3 z => sqT_of (z.2.1.sub _ _ (z.1 _ _ ha))) fun i p hp G3 H3 v H4 z y => ?_⟩
    obtain ⟨T, u, w, rfl, hT, rfl, hu, hw⟩ := y
    obtain ⟨e1, e2⟩ := enumL_get hp
    obtain ⟨w', hw', rw_⟩ := t.get e2
    have hw : vs[i]? = some w := hw
    rw [hw] at hw'
    cases hw'
    have n := pair_new (x := p.1) (r := rN) (u := u) z.2.1 hT (by rw [e1]; exact (Option.some.inj hu).symm) (Go.to rw_ z.1)
    exact ⟨_, n⟩
theorem ei_z [Go r] [Go r'] {ys : List β} {m k : Bool} {r1 : Rl (List α)} {r2 : Rl (List β)} [SqG r1 r m] [SqG r2 r' k] (ha : EvR ta σ G H r1 xs) (hb : EvR tb σ G H r2 ys) : EvI (iZipK K m k (tCons ta (tCons tb tNil))) σ G H [] (rPr r r') (xs.zip ys) := fun G1 H1 f R q =>
  ha G1 H1 f _ fun v G2 H2 f2 e => hb G2 H2 (f.trans f2) _ fun v3 G3 H3 f3 e3 => by
    obtain ⟨a, vs, rfl, ha, t⟩ := SqG.sq e
    obtain ⟨b, ws, rfl, hb, t'⟩ := SqG.sq e3
    have ha3 := f3.gg _ _ ha
    refine ⟨a, b, vs, ws, rfl, sqK_of (f3.gd.sub _ _ ha3), sqK_of (f3.gd.sub _ _ hb), q _ G3 H3 (fun H => SqK K H a vs m ∧ SqK K H b ws k) (YPair (fun i => vs[i]?) (fun i => ws[i]?)) (f2.trans f3) (walk_zipK (by rw [List.length_zip, t.length, t'.length])) (fun G4 H4 z => ⟨sqK_of (z.2.1.sub _ _ (z.1 _ _ ha3)), sqK_of (z.2.1.sub _ _ (z.1 _ _ hb))⟩) fun i p hp G4 H4 v H5 z y => ?_⟩
    obtain ⟨T, u, w, rfl, hT, rfl, hu, hw⟩ := y
    rw [List.getElem?_zip_eq_some] at hp
    obtain ⟨h1, h2⟩ := hp
    obtain ⟨u', hu', ru⟩ := t.get h1
    obtain ⟨w', hw', rw_⟩ := t'.get h2
    have hu : vs[i]? = some u := hu
    have hw : ws[i]? = some w := hw
    rw [hu] at hu'
    rw [hw] at hw'
    cases hu'
    cases hw'
    have n := pair_new z.2.1 hT (Go.to ru (fun b o h => z.1 b o (f3.gg b o h))) (Go.to rw_ z.1)
    exact ⟨_, n⟩
end
end Dg
end
section
set_option Elab.async false
set_option linter.all false
set_option maxRecDepth 100000
set_option maxHeartbeats 4000000
/-! Comprehensions, new lists of one's own, statements. -/
namespace Dg
open PySem PySem.Spec PyProof.Rows L2
/-- a new list of one's own -/
def EvN {α : Type} (te : TE) (σ : L2.St) (G H : Hp) (r : Rl α) (xs : List α) : Prop :=
  ∀ G1 H1, Fz G H G1 H1 → ∀ Q : VK, (∀ a vs G2 H2, Fz G1 H1 G2 H2 → H1 a = none → H2 a = some (.lst vs) → G2 a = none → Al (r G2 H2) vs xs → Q (.ref a) H2) → te σ H1 Q
section
variable {K : PySem.W.Frag} {G H G' H' G1 H1 : Hp} {σ : L2.St} {Γ : Ct} {α β : Type} {r r0 : Rl α} {r' : Rl β} {x : α} {y : β} {xs ys : List α} {te ta tb : TE}
theorem EvN.ev [Go r] (h : EvN te σ G H r xs) : EvR te σ G H (rL r) xs := fun G1 H1 f Q q => h G1 H1 f _ fun a vs G2 H2 f2 hn ha hg t => by
  have k := Fz.keep f2 hn ha hg fun _ z => nomatch z
  exact q _ _ _ k ⟨a, vs, rfl, upd_same, t.imp fun _ _ w => Go.up w fun b o z => by
    rw [upd_ne (ne_of_none z hg)]
    exact z⟩
theorem EvN.is {zs : List α} (h : EvN te σ G H r xs) (e : xs = zs) : EvN te σ G H r zs := e ▸ h
theorem own_lst [Go r] {vs : List V} {p : Addr} (d : Gd G H) (h : H p = none) (t : Al (r G H) vs xs) : Fz G H G (upd H p (.lst vs)) ∧ (upd H p (.lst vs)) p = some (.lst vs) ∧ G p = none ∧ Al (r G (upd H p (.lst vs))) vs xs :=
  ⟨Fz.own d h, upd_same, d.free h, t.imp fun _ _ q => Go.go q⟩
theorem en_lst [Go r] {t : TA} (h : EvA t σ G H (aL r xs)) (hz : xs.length ≤ 200000) : EvN (tLst t) σ G H r xs := fun G1 H1 f Q q =>
  h G1 H1 f _ fun vs G2 H2 f2 p => ⟨by rw [p.length]; exact big hz, fun b hb => let n := own_lst f2.gd hb p; q _ _ _ _ (f2.trans n.1) (f2.free hb) n.2.1 n.2.2.1 n.2.2.2⟩
theorem en_list {r1 : Rl (List α)} {b : Bool} [Sq r1 r b] [Go r] (h : EvR te σ G H r1 xs) : EvN (tCB (fun vs H Q => ∃ p ys, vs = [.ref p] ∧ (SqL K H p ys ∨ SqT K H p ys) ∧ ∀ l, H l = none → Q (.ref l) (upd H l (.lst ys))) (tCons te tNil)) σ G H r xs := fun G1 H1 f Q q =>
  h G1 H1 f _ fun v G2 H2 f2 e => by
    obtain ⟨a, vs, rfl, ha, t⟩ := Sq.sq f2.gd e
    exact ⟨a, vs, rfl, sqE_of ha, fun l hl => let n := own_lst f2.gd hl t; q _ _ _ _ (f2.trans n.1) (f2.free hl) n.2.1 n.2.2.1 n.2.2.2⟩
theorem en_cat {r1 r2 : Rl (List α)} [Sq r1 r true] [Sq r2 r true] [Go r] [Mo r1] (ha : EvR ta σ G H r1 xs) (hb : EvR tb σ G H r2 ys) (hz : xs.length + ys.length ≤ 200000) : EvN (tOp rCat ta tb) σ G H r (xs ++ ys) := fun G1 H1 f Q q =>
  ha G1 H1 f _ fun u G2 H2 f2 e2 => hb G2 H2 (f.trans f2) _ fun v G3 H3 f3 e3 => by
    obtain ⟨a, vs, rfl, h1, t1⟩ := Sq.sq f3.gd (Mo.mo e2 f3)
    obtain ⟨b, ws, rfl, h2, t2⟩ := Sq.sq f3.gd e3
    exact ⟨a, b, vs, ws, rfl, rfl, h1, h2, by rw [t1.length, t2.length]; exact big hz, fun l hl => let n := own_lst f3.gd hl (t1.append t2); q _ _ _ _ ((f2.trans f3).trans n.1) ((f2.trans f3).free hl) n.2.1 n.2.2.1 n.2.2.2⟩
theorem en_rep [Go r] {r1 : Rl (List α)} [Sq r1 r true] [Mo r1] {k : Int} (ha : EvR ta σ G H r1 [x]) (hb : EvR tb σ G H rI k) (h1 : -200000 ≤ k) (h2 : k ≤ 200000) : EvN (tOp rRep ta tb) σ G H r (List.replicate k.toNat x) := fun G1 H1 f Q q =>
  ha G1 H1 f _ fun u G2 H2 f2 e2 => hb G2 H2 (f.trans f2) _ fun v G3 H3 f3 e3 => by
    obtain ⟨a, vs, rfl, h, t⟩ := Sq.sq f3.gd (Mo.mo e2 f3)
    cases t with
    | cons tx t0 =>
      cases t0
      refine ⟨a, k, _, rfl, e3, h, by omega, by omega, ?_, fun p hp => ?_⟩
      · rw [List.length_singleton, Nat.one_mul]
        exact big (by omega)
      · rw [flat_rep]
        have n := own_lst f3.gd hp (Al.rep tx k.toNat)
        exact q _ _ _ _ ((f2.trans f3).trans n.1) ((f2.trans f3).free hp) n.2.1 n.2.2.1 n.2.2.2
/-! ### comprehensions -/
theorem al_upd_own [Go r] {vs : List V} (t : Al (r G H) vs xs) : Al (r G H') vs xs := t.imp fun _ _ q => Go.go q
theorem take_succ_filter (l : List α) (keep : α → Bool) (f : α → β) {i : Nat} {x : α} (h : l[i]? = some x) : ((l.take (i + 1)).filter keep).map f = ((l.take i).filter keep).map f ++ (if keep x = true then [f x] else []) := by
  rw [List.take_add_one, h, Option.toList_some, List.filter_append, List.map_append]
  congr 1
  cases hk : keep x with
  | true => rw [List.filter_cons_of_pos hk, List.filter_nil, if_pos rfl]; rfl
  | false => rw [List.filter_cons_of_neg (by rw [hk]; exact Bool.false_ne_true), List.filter_nil, if_neg Bool.false_ne_true]; rfl
/-- [f x for x in l if keep x] : each item is set, tested, read in a context of its own -/
theorem en_lc {S : List Addr} {wi : TI} {g : TG} {tt : TT} {vs : List Nat} {l : List α} {keep : α → Bool} {f : α → β} [Go r'] (e : Eo G H σ Γ) (hi : EvI wi σ G H S r l) (hl : l.length ≤ 200000) (ps : α → List (Nat × Ent)) (hg : ∀ x ∈ l, Tg g r x (ps x)) (hv : ∀ x, ∀ p ∈ ps x, p.1 ∈ vs)
    (ht : ∀ x ∈ l, ∀ σ2 G2 H2, Eo G2 H2 σ2 ⟨puts (wipeE Γ.sl vs) (ps x), Γ.ow⟩ → EvT tt σ2 G2 H2 (keep x)) (he : ∀ x ∈ l, keep x = true → ∀ σ2 G2 H2, Eo G2 H2 σ2 ⟨puts (wipeE Γ.sl vs) (ps x), Γ.ow⟩ → EvR te σ2 G2 H2 r' (f x)) :
    EvN (tLc wi g tt te vs) σ G H r' ((l.filter keep).map f) := fun G1 H1 f1 Q q => by
  refine hi G1 H1 f1 _ fun J G2 H2 C Y f2 w hC hY D hD => ?_
  -- the invariant
  let Pv : Nat → Hp → Prop := fun i H => ∃ G3 acc, Fz G2 (upd H2 D (.lst [])) G3 (upd H D (.lst [])) ∧ H D = some (.lst acc) ∧ G3 D = none ∧ Al (r' G3 H) acc (((l.take i).filter keep).map f)
  have hGD : G2 D = none := f2.gd.free hD
  -- what stands in the heap with the list at D
  have fzD : ∀ {G3 H3 : Hp} {acc : List V}, Fz G2 (upd H2 D (.lst [])) G3 (upd H3 D (.lst [])) → H3 D = some (.lst acc) → G3 D = none → Fz G2 H2 G3 H3 := fun {G3 H3 acc} z hd hg => by
    refine ⟨z.gg, ⟨fun b o h => ?_, z.gd.nt⟩, fun b o h => ?_, fun b h n => ?_⟩
    · have ne : b ≠ D := ne_of_none h hg
      have q := z.gd.sub b o h
      rwa [upd_ne ne] at q
    · have ne : b ≠ D := ne_of_none h hD
      have q := z.hh b o (by rw [upd_ne ne]; exact h)
      rwa [upd_ne ne] at q
    · have ne : b ≠ D := fun z => by rw [z] at h; exact h hD
      exact z.fr b (by rw [upd_ne ne]; exact h) n
  refine L2.lc_it w Pv ⟨G2, [], ?_, upd_same, hGD, .nil⟩ (fun i H hi ⟨G3, acc, z, hd, hg, t⟩ => hC G3 H (fzD z hd hg).lz) ?_ ?_
  · have e1 : upd (upd H2 D (.lst [])) D (.lst []) = upd H2 D (.lst []) := by
      funext b
      unfold upd
      split <;> rfl
    rw [e1]
    exact Fz.refl (Fz.own f2.gd hD).gd
  · rintro i v H3 H4 hi ⟨G3, acc, z, hd, hg3, t⟩ y
    obtain ⟨x, hx⟩ : ∃ x, l[i]? = some x := ⟨l[i], by simp [hi]⟩
    have hm : x ∈ l := List.mem_of_getElem? hx
    have z' := fzD z hd hg3
    obtain ⟨G4, f4, rv⟩ := hY i x hx G3 H3 v H4 z'.lz y
    obtain ⟨ws, hw, hq⟩ := hg x hm v G4 H4 f4.gd rv
    refine hq _ _ ?_
    have e4 : Eo G4 H4 σ Γ := ((e.mono f1).mono f2).mono z' |>.mono f4
    have e5 : Eo G4 H4 (sets (wipe σ vs) ws) ⟨puts (wipeE Γ.sl vs) (ps x), Γ.ow⟩ := ⟨e4.gd, hw.sl (e4.sl.wipe vs), e4.ow⟩
    refine ⟨?_, ht x hm _ G4 H4 e5 G4 H4 (Fz.refl f4.gd) _ fun G5 H5 f5 => ?_⟩
    · rw [wipe_sets hw (hv x), wipe_wipe σ vs vs fun _ h => h]
    · have hD4 : H4 D = some (.lst acc) := f4.hh _ _ hd
      have hg4 : G4 D = none := f4.fr D (by rw [hd]; exact fun z => nomatch z) hg3
      -- to the start again, the list apart
      have back : ∀ {G6 H6 : Hp} {o : HO}, Fz G4 H4 G6 H6 → Fz G2 (upd H2 D (.lst [])) G6 (upd (upd H6 D o) D (.lst [])) ∧ G6 D = none := fun {G6 H6 o} f6 => by
        have hD6 := f6.hh _ _ hD4
        have hg6 : G6 D = none := f6.fr D (by rw [hD4]; exact fun z => nomatch z) hg4
        have zz := (z'.trans f4).trans f6
        refine ⟨⟨zz.gg, ⟨fun b u h => ?_, zz.gd.nt⟩, fun b u h => ?_, fun b h n => ?_⟩, hg6⟩
        · have ne : b ≠ D := ne_of_none h hg6
          rw [upd_ne ne, upd_ne ne]
          exact zz.gd.sub b u h
        · by_cases hb : b = D
          · rw [hb, upd_same] at h ⊢
            exact h
          · rw [upd_ne hb] at h ⊢
            rw [upd_ne hb]
            exact zz.hh b u h
        · by_cases hb : b = D
          · rw [hb]
            exact hg6
          · rw [upd_ne hb] at h
            exact zz.fr b h n
      cases hk : keep x with
      | true =>
        refine (if_pos rfl).mpr ?_
        refine he x hm hk _ G5 H5 (e5.mono f5) G5 H5 (Fz.refl f5.gd) _ fun u G6 H6 f6 ru => ?_
        have f46 := f5.trans f6
        have bk := back (o := .lst (acc ++ [u])) f46
        refine ⟨acc, f46.hh _ _ hD4, ?_, G6, acc ++ [u], bk.1, upd_same, bk.2, ?_⟩
        · have le := t.length
          rw [List.length_map] at le
          have l1 := List.length_filter_le keep (l.take i)
          have l2 : (l.take i).length ≤ l.length := by rw [List.length_take]; exact Nat.min_le_right _ _
          have := sizeLine_eq
          omega
        · rw [take_succ_filter l keep f hx, hk, if_pos rfl]
          exact (t.imp fun _ _ k => (Go.go (Go.up k (f4.trans f46).gg) : r' _ _ _ _)).snoc (Go.go ru)
      | false =>
        refine (if_neg Bool.false_ne_true).mpr ?_
        have hD5 := f5.hh _ _ hD4
        have bk := back (o := .lst acc) f5
        have eu : upd (upd H5 D (.lst acc)) D (.lst []) = upd H5 D (.lst []) := by
          funext b
          unfold upd
          split <;> rfl
        rw [eu] at bk
        refine ⟨G5, acc, bk.1, hD5, bk.2, ?_⟩
        rw [take_succ_filter l keep f hx, hk, if_neg Bool.false_ne_true, List.append_nil]
        exact t.imp fun _ _ k => (Go.go (Go.up k (f4.trans f5).gg) : r' _ _ _ _)
  · rintro H3 ⟨G3, acc, z, hd, hg3, t⟩
    rw [List.take_length] at t
    exact q D acc G3 H3 (f2.trans (fzD z hd hg3)) (f2.free hD) hd hg3 t
/-- without a test -/
theorem en_lc1 {S : List Addr} {wi : TI} {g : TG} {vs : List Nat} {l : List α} {f : α → β} [Go r'] (e : Eo G H σ Γ) (hi : EvI wi σ G H S r l) (hl : l.length ≤ 200000) (ps : α → List (Nat × Ent)) (hg : ∀ x ∈ l, Tg g r x (ps x)) (hv : ∀ x, ∀ p ∈ ps x, p.1 ∈ vs)
    (he : ∀ x ∈ l, ∀ σ2 G2 H2, Eo G2 H2 σ2 ⟨puts (wipeE Γ.sl vs) (ps x), Γ.ow⟩ → EvR te σ2 G2 H2 r' (f x)) : EvN (tLc wi g tYes te vs) σ G H r' (l.map f) :=
  (en_lc (keep := fun _ => true) e hi hl ps hg hv (fun _ _ _ _ _ _ => et_yes) fun x hx _ => he x hx).is (by rw [List.filter_eq_self.mpr fun _ _ => rfl])
/-! ### statements -/
/-- where a body began; what stays for sure -/
structure Wd where
  S : List Addr
  G0 : Hp
  H0 : Hp
  lo : Hp
structure En (W : Wd) (G H : Hp) (σ : L2.St) (Γ : Ct) : Prop extends Eo G H σ Γ where
  fz : FzS W.S W.G0 W.H0 G H
  lo : In W.lo G
  ok : ∀ o ∈ Γ.ow, match o.k with
    | .ro => True
    | .par => o.a ∈ W.S
    | .new => W.H0 o.a = none
  nd : (Γ.ow.map Own.a).Nodup
variable {W : Wd} {N : L2.St → Hp → Prop} {D : Ends} {Γ' : Ct}
def Nx (W : Wd) (N : L2.St → Hp → Prop) (Γ : Ct) : Prop := ∀ σ G H, En W G H σ Γ → N σ H
theorem En.step (e : En W G H σ Γ) (f : Fz G H G1 H1) : En W G1 H1 σ Γ := ⟨e.toEo.mono f, e.fz.step f, fun b o h => f.gg b o (e.lo b o h), e.ok, e.nd⟩
theorem En.slots {σ' : L2.St} {l : List Ent} (e : En W G H σ Γ) (h : Sl G σ' l) : En W G H σ' ⟨l, Γ.ow⟩ := ⟨⟨e.gd, h, e.ow⟩, e.fz, e.lo, e.ok, e.nd⟩
/-- weaker -/
inductive SubE : List Ent → List Ent → Prop
  | nil : SubE [] []
  | any {e : Ent} {l l' : List Ent} : SubE l l' → SubE (e :: l) (eAny :: l')
  | same {e : Ent} {l l' : List Ent} : SubE l l' → SubE (e :: l) (e :: l')
  | val {α : Type} {r : Rl α} [Go r] {x y : α} {l l' : List Ent} : x = y → SubE l l' → SubE (eR r x :: l) (eR r y :: l')
theorem SubE.sl : ∀ {l l' : List Ent} {σ : L2.St}, SubE l l' → Sl G σ l → Sl G σ l'
  | _, _, [], .nil, h => h
  | _, _, _ :: _, .nil, h => h.elim
  | _, _, _ :: _, .any t, h => ⟨trivial, t.sl h.2⟩
  | _, _, [], .any t, h => h.elim
  | _, _, _ :: _, .same t, h => ⟨h.1, t.sl h.2⟩
  | _, _, [], .same t, h => h.elim
  | _, _, _ :: _, @SubE.val _ _ _ _ _ _ _ e t, h => by subst e; exact ⟨h.1, t.sl h.2⟩
  | _, _, [], @SubE.val _ _ _ _ _ _ _ _ _, h => h.elim
def Le (Γ Γ' : Ct) : Prop := SubE Γ.sl Γ'.sl ∧ Γ'.ow.Sublist Γ.ow
theorem Le.en (h : Le Γ Γ') (e : En W G H σ Γ) : En W G H σ Γ' := ⟨⟨e.gd, h.1.sl e.sl, fun o ho => e.ow o (h.2.subset ho)⟩, e.fz, e.lo, fun o ho => e.ok o (h.2.subset ho), (h.2.map Own.a).nodup e.nd⟩
theorem nx_le (h : Le Γ Γ') (n : Nx W N Γ') : Nx W N Γ := fun σ G H e => n σ G H (h.en e)
/-- the context holds -/
def Iv (W : Wd) (Γ : Ct) : L2.St → Hp → Prop := fun σ H => ∃ G, En W G H σ Γ
theorem nx_end (h : Le Γ Γ') : Nx W (Iv W Γ') Γ := fun σ G H e => ⟨G, h.en e⟩
theorem nx_seq {t u : TS} (h : Nx W (t { D with nx := u D }) Γ) : Nx W (tSeq t u D) Γ := h
theorem nx_next (h : Nx W D.nx Γ) : Nx W (tNext D) Γ := h
theorem nx_asg [Go r] {i : Nat} (h : ∀ {σ G H}, Eo G H σ Γ → EvR te σ G H r x) (n : Nx W D.nx (Γ.put i (eR r x))) : Nx W (tAsg te (gName i) D) Γ := fun σ G H e =>
  h e.toEo G H (Fz.refl e.gd) _ fun v G1 H1 f hv => n _ G1 H1 ((e.step f).slots ((e.step f).sl.put i _ ⟨v, rfl, Go.go hv⟩))
theorem nx_tup {g : TG} {ps : List (Nat × Ent)} (h : ∀ {σ G H}, Eo G H σ Γ → EvR te σ G H r x) (t : Tg g r x ps) (n : Nx W D.nx (Γ.puts ps)) : Nx W (tAsg te g D) Γ := fun σ G H e =>
  h e.toEo G H (Fz.refl e.gd) _ fun v G1 H1 f hv => by
    obtain ⟨ws, hw, q⟩ := t v G1 H1 f.gd hv
    exact q _ _ (n _ G1 H1 ((e.step f).slots (hw.sl (e.step f).sl)))
theorem nx_par [Go r] [Go r'] {i j : Nat} (ha : ∀ {σ G H}, Eo G H σ Γ → EvR ta σ G H r x) (hb : ∀ {σ G H}, Eo G H σ Γ → EvR tb σ G H r' y) (n : Nx W D.nx ((Γ.put i (eR r x)).put j (eR r' y))) : Nx W (tPar i j (tCons ta (tCons tb tNil)) D) Γ := fun σ G H e =>
  ha e.toEo G H (Fz.refl e.gd) _ fun u G1 H1 f hu => hb (e.step f).toEo G1 H1 (Fz.refl f.gd) _ fun v G2 H2 f2 hv => ⟨u, v, rfl, n _ G2 H2 (((e.step f).step f2).slots ((((e.step f).step f2).sl.put i (eR r x) ⟨u, rfl, Go.go (Go.up hu f2.gg)⟩).put j _ ⟨v, rfl, Go.go hv⟩))⟩
theorem En.cons (e : En W G H σ Γ) (f : Fz G H G1 H1) {a : Addr} {o : Own} {h : HO} (ea : o.a = a) (hn : H a = none) (h1 : H1 a = some h) (h2 : G1 a = none) (hp : o.P G1 h) (hk : o.k = .new) : En W G1 H1 σ (Γ.own o) := by
  have e1 := e.step f
  refine ⟨⟨e1.gd, e1.sl, fun u hu => ?_⟩, e1.fz, e1.lo, fun u hu => ?_, ?_⟩
  · rcases List.mem_cons.mp hu with rfl | hu
    · rw [ea]
      exact ⟨h, h1, fun _ => h2, hp⟩
    · exact e1.ow u hu
  · rcases List.mem_cons.mp hu with rfl | hu
    · rw [hk]
      show W.H0 u.a = none
      rw [ea]
      exact e.fz.free hn
    · exact e1.ok u hu
  · show (o.a :: Γ.ow.map Own.a).Nodup
    refine List.nodup_cons.mpr ⟨fun hm => ?_, e.nd⟩
    obtain ⟨u, hu, eu⟩ := List.mem_map.mp hm
    obtain ⟨k, hk2, _⟩ := e.ow u hu
    rw [eu, ea, hn] at hk2
    cases hk2
/-- a new list of one's own, in a slot -/
theorem nx_own [Go r] {i : Nat} (h : ∀ {σ G H}, Eo G H σ Γ → EvN te σ G H r xs) (n : ∀ a, Nx W D.nx ((Γ.put i (eR rA a)).own (oL a r xs))) : Nx W (tAsg te (gName i) D) Γ := fun σ G H e =>
  h e.toEo G H (Fz.refl e.gd) _ fun a vs G1 H1 f hn h1 h2 t =>
    n a _ G1 H1 ((e.cons f (o := oL a r xs) rfl hn h1 h2 ⟨vs, rfl, t.imp fun _ _ q => Go.go q⟩ rfl).slots ((e.step f).sl.put i _ ⟨_, rfl, rfl⟩))
/-! writes to one's own -/
theorem putO_map {o o' : Own} : ∀ {l : List Own} {j : Nat}, l[j]? = some o → o'.a = o.a → (putO l j o').map Own.a = l.map Own.a
  | [], _, _, _ => rfl
  | u :: l, 0, h, e => by
    have h : u = o := Option.some.inj h
    subst h
    show o'.a :: l.map Own.a = u.a :: _
    rw [e]
  | u :: l, j + 1, h, e => by
    show u.a :: (putO l j o').map Own.a = u.a :: _
    rw [putO_map (l := l) (j := j) h e]
theorem mem_putO {o o' u : Own} : ∀ {l : List Own} {j : Nat}, l[j]? = some o → (l.map Own.a).Nodup → u ∈ putO l j o' → u = o' ∨ (u ∈ l ∧ u.a ≠ o.a)
  | [], _, h, _, _ => nomatch h
  | w :: l, 0, h, nd, hu => by
    have h : w = o := Option.some.inj h
    subst h
    rcases List.mem_cons.mp hu with e | hu
    · exact .inl e
    · refine .inr ⟨List.mem_cons_of_mem _ hu, fun z => ?_⟩
      exact (List.nodup_cons.mp nd).1 (List.mem_map.mpr ⟨u, hu, z⟩)
  | w :: l, j + 1, h, nd, hu => by
    rcases List.mem_cons.mp hu with e | hu
    · subst e
      refine .inr ⟨List.mem_cons_self, fun z => ?_⟩
      have hm : o ∈ l := List.mem_of_getElem? (show l[j]? = some o from h)
      exact (List.nodup_cons.mp nd).1 (List.mem_map.mpr ⟨o, hm, z.symm⟩)
    · rcases mem_putO (l := l) (j := j) h (List.nodup_cons.mp nd).2 hu with e | ⟨a, b⟩
      · exact .inl e
      · exact .inr ⟨List.mem_cons_of_mem _ a, b⟩
theorem ok_fz {S : List Addr} {G0 H0 G H : Hp} {o : Own} {h : HO} (z : FzS S G0 H0 G H) (hk : o.k ≠ .ro) (g : G o.a = none)
    (ok : match o.k with
    | .ro => True
    | .par => o.a ∈ S
    | .new => H0 o.a = none) : FzS S G0 H0 G (upd H o.a h) := by
  refine ⟨z.gg, z.gd.mut g, fun b u n e => ?_, fun b e => ?_, z.fr⟩
  · have ne : b ≠ o.a := fun q => by
      cases hh : o.k with
      | ro => exact hk hh
      | par =>
        rw [hh] at ok
        rw [q] at n
        exact n ok
      | new =>
        rw [hh] at ok
        have ok : H0 o.a = none := ok
        rw [q, ok] at e
        cases e
    rw [upd_ne ne]
    exact z.hh b u n e
  · by_cases hb : b = o.a
    · rw [hb, upd_same]
      exact fun z => nomatch z
    · rw [upd_ne hb]
      exact z.hn b e
theorem En.write (e : En W G H σ Γ) {j : Nat} {o o' : Own} {h : HO} (hj : Γ.ow[j]? = some o) (ea : o'.a = o.a) (ek : o'.k = o.k) (hk : o.k ≠ .ro) (hp : o'.P G h) : En W G (upd H o.a h) σ (Γ.putO j o') := by
  have hm := List.mem_of_getElem? hj
  obtain ⟨u, h1, h2, _⟩ := e.ow o hm
  refine ⟨⟨e.gd.mut (h2 hk), e.sl, fun w hw => ?_⟩, ok_fz e.fz hk (h2 hk) (e.ok o hm), e.lo, fun w hw => ?_, ?_⟩
  · rcases mem_putO hj e.nd hw with rfl | ⟨a, b⟩
    · rw [ea, upd_same]
      exact ⟨h, rfl, fun _ => h2 hk, hp⟩
    · rw [upd_ne b]
      exact e.ow w a
  · rcases mem_putO hj e.nd hw with rfl | ⟨a, b⟩
    · have q := e.ok o hm
      rw [← ea, ← ek] at q
      exact q
    · exact e.ok w a
  · show ((putO Γ.ow j o').map Own.a).Nodup
    rw [putO_map hj ea]
    exact e.nd
theorem ixN_nat {n j : Nat} (h : j < n) : ixN n (j : Int) = some j := by
  unfold ixN
  rw [if_pos (Int.natCast_nonneg j), if_pos (by omega), Int.toNat_natCast]
/-- l[k] = e -/
theorem nx_put [Go r] {ti to : TE} {a : Addr} {k : Int} (j n : Nat) {kd : Kd} (hv : ∀ {σ G H}, Eo G H σ Γ → EvR te σ G H r x) (ho : ∀ {σ G H}, Eo G H σ Γ → EvR to σ G H rA a) (hi : ∀ {σ G H}, Eo G H σ Γ → EvR ti σ G H rI k) (hj : Γ.ow[j]? = some (oL a r xs kd)) (ek : k = (n : Int)) (hn : n < xs.length)
    (hk : kd ≠ .ro) (nx : Nx W D.nx (Γ.putO j (oL a r (xs.set n x) kd))) : Nx W (tAsg te (gSub to ti rSetL) D) Γ := fun σ G H e =>
  hv e.toEo G H (Fz.refl e.gd) _ fun v G1 H1 f ev => ho (e.step f).toEo G1 H1 (Fz.refl f.gd) _ fun u G2 H2 f2 eu => hi ((e.step f).step f2).toEo G2 H2 (Fz.refl f2.gd) _ fun w G3 H3 f3 ew => by
    have e3 := ((e.step f).step f2).step f3
    obtain ⟨h, h1, h2, vs, eh, t⟩ := e3.ow _ (List.mem_of_getElem? hj)
    rw [eh] at h1
    refine ⟨a, vs, k, n, eu, ew, h1, ?_, nx _ G3 _ (e3.write hj rfl rfl hk ⟨_, rfl, Al.set (Go.go (Go.up ev (f2.trans f3).gg)) n t⟩)⟩
    rw [ek]
    exact ixN_nat (by rw [t.length]; exact hn)
/-- l.append(e) -/
theorem nx_app [Go r] {to : TE} {a : Addr} (j : Nat) {kd : Kd} (ho : ∀ {σ G H}, Eo G H σ Γ → EvR to σ G H rA a) (hv : ∀ {σ G H}, Eo G H σ Γ → EvR te σ G H r x) (hj : Γ.ow[j]? = some (oL a r xs kd)) (hn : xs.length < 200000)
    (hk : kd ≠ .ro) (nx : Nx W D.nx (Γ.putO j (oL a r (xs ++ [x]) kd))) : Nx W (tDrop (tBM K "list" rAppend to (tCons te tNil)) D) Γ := fun σ G H e =>
  ho e.toEo G H (Fz.refl e.gd) _ fun u G1 H1 f eu => by
    obtain ⟨h, h1, _, vs, eh, _⟩ := (e.step f).ow _ (List.mem_of_getElem? hj)
    rw [eh] at h1
    refine ⟨?_, hv (e.step f).toEo G1 H1 (Fz.refl f.gd) _ fun v G2 H2 f2 ev => ?_⟩
    · rw [show u = .ref a from eu]
      exact .inl ⟨rfl, vs, sqL_of h1⟩
    · have e2 := (e.step f).step f2
      obtain ⟨h, h1, h2, vs, eh, t⟩ := e2.ow _ (List.mem_of_getElem? hj)
      rw [eh] at h1
      refine ⟨a, vs, v, eu, rfl, h1, ?_, nx _ G2 _ (e2.write hj rfl rfl hk ⟨_, rfl, t.snoc (Go.go ev)⟩)⟩
      rw [t.length]
      exact Nat.lt_of_lt_of_le hn (big (Nat.le_refl _))
/-- l.extend(m) -/
theorem nx_ext [Go r] {to : TE} {a : Addr} {r1 : Rl (List α)} [Sq r1 r true] (j : Nat) {kd : Kd} (ho : ∀ {σ G H}, Eo G H σ Γ → EvR to σ G H rA a) (hv : ∀ {σ G H}, Eo G H σ Γ → EvR te σ G H r1 ys) (hj : Γ.ow[j]? = some (oL a r xs kd)) (hn : xs.length + ys.length ≤ 200000)
    (hk : kd ≠ .ro) (nx : Nx W D.nx (Γ.putO j (oL a r (xs ++ ys) kd))) : Nx W (tDrop (tBM K "list" rExtend to (tCons te tNil)) D) Γ := fun σ G H e =>
  ho e.toEo G H (Fz.refl e.gd) _ fun u G1 H1 f eu => by
    obtain ⟨h, h1, _, vs, eh, _⟩ := (e.step f).ow _ (List.mem_of_getElem? hj)
    rw [eh] at h1
    refine ⟨?_, hv (e.step f).toEo G1 H1 (Fz.refl f.gd) _ fun v G2 H2 f2 ev => ?_⟩
    · rw [show u = .ref a from eu]
      exact .inl ⟨rfl, vs, sqL_of h1⟩
    · have e2 := (e.step f).step f2
      obtain ⟨h, h1, h2, vs, eh, t⟩ := e2.ow _ (List.mem_of_getElem? hj)
      rw [eh] at h1
      obtain ⟨b, ws, rfl, hb, tb⟩ := Sq.sq f2.gd ev
      refine ⟨a, b, vs, ws, eu, rfl, h1, hb, ?_, nx _ G2 _ (e2.write hj rfl rfl hk ⟨_, rfl, t.append (tb.imp fun _ _ q => Go.go q)⟩)⟩
      rw [t.length, tb.length]
      exact big hn
/-- one's own list stays from now on -/
theorem rmO_sub : ∀ (l : List Own) (j : Nat), (rmO l j).Sublist l
  | [], _ => List.Sublist.refl _
  | _ :: l, 0 => List.sublist_cons_self _ _
  | u :: l, j + 1 => (rmO_sub l j).cons_cons u
theorem mem_rmO {o u : Own} : ∀ {l : List Own} {j : Nat}, l[j]? = some o → (l.map Own.a).Nodup → u ∈ rmO l j → u ∈ l ∧ u.a ≠ o.a
  | [], _, h, _, _ => nomatch h
  | w :: l, 0, h, nd, hu => by
    have h : w = o := Option.some.inj h
    subst h
    exact ⟨List.mem_cons_of_mem _ hu, fun z => (List.nodup_cons.mp nd).1 (List.mem_map.mpr ⟨u, hu, z⟩)⟩
  | w :: l, j + 1, h, nd, hu => by
    rcases List.mem_cons.mp hu with e | hu
    · subst e
      refine ⟨List.mem_cons_self, fun z => ?_⟩
      have hm : o ∈ l := List.mem_of_getElem? (show l[j]? = some o from h)
      exact (List.nodup_cons.mp nd).1 (List.mem_map.mpr ⟨o, hm, z.symm⟩)
    · obtain ⟨a, b⟩ := mem_rmO (l := l) (j := j) h (List.nodup_cons.mp nd).2 hu
      exact ⟨List.mem_cons_of_mem _ a, b⟩
theorem En.keep (e : En W G H σ Γ) {j : Nat} {o : Own} (hj : Γ.ow[j]? = some o) (hk : o.k = .new) (ht : ∀ ps, ¬ o.P G (.tbl ps)) : ∃ G1 h, En W G1 H σ (Γ.rmO j) ∧ G1 o.a = some h ∧ o.P G1 h := by
  have hm := List.mem_of_getElem? hj
  obtain ⟨h, h1, h2, hp⟩ := e.ow o hm
  have h2 := h2 (by rw [hk]; exact fun z => nomatch z)
  have ok := e.ok o hm
  rw [hk] at ok
  have ok : W.H0 o.a = none := ok
  have up : In G (upd G o.a h) := fun b u q => by
    rw [upd_ne (ne_of_none q h2)]
    exact q
  have nt : ∀ ps, h ≠ .tbl ps := fun ps z => ht ps (z ▸ hp)
  refine ⟨upd G o.a h, h, ⟨⟨⟨fun b u q => ?_, fun b ps q => ?_⟩, e.sl.up up, fun w hw => ?_⟩, ⟨fun b u q => up b u (e.fz.gg b u q), ⟨fun b u q => ?_, fun b ps q => ?_⟩, e.fz.hh, e.fz.hn, fun b q n => ?_⟩, fun b u q => up b u (e.lo b u q), fun w hw => e.ok w (mem_rmO hj e.nd hw).1, ((rmO_sub Γ.ow j).map Own.a).nodup e.nd⟩, upd_same, o.up hp up⟩
  · by_cases hb : b = o.a
    · rw [hb, upd_same] at q
      rw [hb, ← q]
      exact h1
    · rw [upd_ne hb] at q
      exact e.gd.sub b u q
  · by_cases hb : b = o.a
    · rw [hb, upd_same] at q
      exact nt ps (Option.some.inj q)
    · rw [upd_ne hb] at q
      exact e.gd.nt b ps q
  · obtain ⟨a, b⟩ := mem_rmO hj e.nd hw
    obtain ⟨k, k1, k2, k3⟩ := e.ow w a
    refine ⟨k, k1, fun z => ?_, w.up k3 up⟩
    rw [upd_ne b]
    exact k2 z
  · by_cases hb : b = o.a
    · rw [hb, upd_same] at q
      rw [hb, ← q]
      exact h1
    · rw [upd_ne hb] at q
      exact e.gd.sub b u q
  · by_cases hb : b = o.a
    · rw [hb, upd_same] at q
      exact nt ps (Option.some.inj q)
    · rw [upd_ne hb] at q
      exact e.gd.nt b ps q
  · by_cases hb : b = o.a
    · rw [hb] at q
      exact absurd ok q
    · rw [upd_ne hb]
      exact e.fz.fr b q n
theorem nx_keep [Go r] (i j : Nat) {a : Addr} (hi : gt Γ.sl i = eR rA a) (hj : Γ.ow[j]? = some (oL a r xs)) (n : Nx W N ((Γ.rmO j).put i (eR (rL r) xs))) : Nx W N Γ := fun σ G H e => by
  obtain ⟨G1, h, e1, h1, vs, rfl, t⟩ := e.keep hj rfl fun ps ⟨vs, z, _⟩ => nomatch z
  obtain ⟨v, hv, w, ew, hw⟩ := e1.sl.get i hi fun o => eR_some
  cases ew
  have hw : v = .ref a := hw
  have q := (e1.slots (e1.sl.put (o := some v) i (eR (rL r) xs) ⟨v, rfl, a, vs, hw, h1, t⟩))
  have es : σ.set i (some v) = σ := by
    apply List.ext_getElem?
    intro k
    by_cases hk : i = k
    · subst hk
      rw [hv]
      exact List.getElem?_set_self (List.getElem?_eq_some_iff.mp hv).1
    · exact List.getElem?_set_ne hk
  rw [es] at q
  exact n σ G1 H q
theorem nx_if {c : TT} {t u : TS} {b : Bool} (h : ∀ {σ G H}, Eo G H σ Γ → EvT c σ G H b) (ht : b = true → Nx W (t D) Γ) (hf : b = false → Nx W (u D) Γ) : Nx W (tIfS c t u D) Γ := fun σ G H e =>
  h e.toEo G H (Fz.refl e.gd) _ fun G1 H1 f => by
    cases b with
    | true => exact (if_pos rfl).mpr (ht rfl σ G1 H1 (e.step f))
    | false => exact (if_neg Bool.false_ne_true).mpr (hf rfl σ G1 H1 (e.step f))
theorem nx_ret (h : ∀ {σ G H}, Eo G H σ Γ → EvR te σ G H r x) (q : ∀ σ v G H, En W G H σ Γ → r G H v x → D.rt v H) : Nx W (tRet te D) Γ := fun σ G H e =>
  h e.toEo G H (Fz.refl e.gd) _ fun v G1 H1 f hv => q σ v G1 H1 (e.step f) hv
/-- a for: the contexts by the turn -/
theorem nx_for [Go r] {S : List Addr} {wi : TI} {g : TG} {tb : TS} {l : List α} (hi : ∀ {σ G H}, Eo G H σ Γ → EvI wi σ G H S r l) (Γs : Nat → Ct) (ps : α → List (Nat × Ent)) (h0 : Le Γ (Γs 0)) (hg : ∀ x ∈ l, Tg g r x (ps x))
    (hS : ∀ b ∈ S, ∃ ws, ∀ k, k ≤ l.length → ∃ o ∈ (Γs k).ow, o.a = b ∧ ∀ G h, o.P G h → h = .lst ws)
    (hs : ∀ lo k x, l[k]? = some x → Nx { W with lo := lo } (tb { D with nx := Iv { W with lo := lo } (Γs (k + 1)), ct := Iv { W with lo := lo } (Γs (k + 1)), bk := D.nx }) ((Γs k).puts (ps x)))
    (hd : Nx W D.nx (Γs l.length)) : Nx W (tFor wi g tb D) Γ := fun σ G H e => by
  refine hi e.toEo G H (Fz.refl e.gd) _ fun J G1 H1 C Y f1 w hC hY => ?_
  have e1 := (h0.en e).step f1
  have lz : ∀ k σ2 G2 H2, k ≤ l.length → En { W with lo := G1 } G2 H2 σ2 (Γs k) → Lz S G1 H1 G2 H2 := fun k σ2 G2 H2 hk e2 => ⟨e2.lo, e2.gd, fun b hb o ho => by
    obtain ⟨ws, hw⟩ := hS b hb
    obtain ⟨o1, m1, a1, p1⟩ := hw 0 (Nat.zero_le _)
    obtain ⟨o2, m2, a2, p2⟩ := hw k hk
    obtain ⟨h1, q1, _, r1⟩ := e1.ow o1 m1
    obtain ⟨h2, q2, _, r2⟩ := e2.ow o2 m2
    rw [a1, ho] at q1
    rw [a2] at q2
    rw [q2, p2 _ _ r2, Option.some.inj q1, p1 _ _ r1]⟩
  refine L2.for_it w (fun k σ H => Iv { W with lo := G1 } (Γs k) σ H) ⟨G1, ⟨e1.toEo, e1.fz, fun b o h => h, e1.ok, e1.nd⟩⟩ (fun k σ H hk ⟨G2, e2⟩ => hC G2 H (lz k σ G2 H hk e2)) ?_ ?_
  · rintro k v σ2 H2 H3 hk ⟨G2, e2⟩ y
    obtain ⟨x, hx⟩ : ∃ x, l[k]? = some x := ⟨l[k], by simp [hk]⟩
    obtain ⟨G3, f3, rv⟩ := hY k x hx G2 H2 v H3 (lz k σ2 G2 H2 (Nat.le_of_lt hk) e2) y
    obtain ⟨ws, hw, hq⟩ := hg x (List.mem_of_getElem? hx) v G3 H3 f3.gd rv
    refine hq _ _ ?_
    exact hs G1 k x hx _ G3 H3 ((e2.step f3).slots (hw.sl (e2.step f3).sl))
  · rintro σ2 H2 ⟨G2, e2⟩
    exact hd σ2 G2 H2 ⟨e2.toEo, e2.fz, fun b o h => e2.lo b o (f1.gg b o (e.lo b o h)), e2.ok, e2.nd⟩
end
end Dg
end
section
set_option Elab.async false
set_option linter.all false
set_option maxRecDepth 100000
set_option maxHeartbeats 4000000
/-! Loops that carry what they make; a def's start. -/
namespace Dg
open PySem PySem.Spec PyProof.Rows L2
section
variable {K : PySem.W.Frag} {G H G' H' G1 H1 : Hp} {σ : L2.St} {Γ Γ' : Ct} {α β δ : Type} {r r0 : Rl α} {r' : Rl β} {x : α} {y : β} {xs ys : List α} {te ta tb : TE} {W : Wd} {N : L2.St → Hp → Prop} {D : Ends}
theorem foldl_take_succ (l : List α) (f : β → α → β) (b : β) {i : Nat} {x : α} (h : l[i]? = some x) : (l.take (i + 1)).foldl f b = f ((l.take i).foldl f b) x := by
  rw [List.take_add_one, h, Option.toList_some, List.foldl_append]
  rfl
/-- a for that folds: what is carried is b, I holds of it -/
theorem nx_fold [Go r] {S : List Addr} {wi : TI} {g : TG} {tb : TS} {l : List α} (hi : ∀ {σ G H}, Eo G H σ Γ → EvI wi σ G H S r l) (I : Nat → β → Prop) (Γf : β → Ct) (f : β → α → β) (b0 : β) (ps : α → List (Nat × Ent)) (h0 : Le Γ (Γf b0)) (hI : I 0 b0) (hg : ∀ x ∈ l, Tg g r x (ps x))
    (hS : ∀ b ∈ S, ∃ ws, ∀ y, ∃ o ∈ (Γf y).ow, o.a = b ∧ ∀ G h, o.P G h → h = .lst ws)
    (hs : ∀ W' : Wd, W'.S = W.S → W'.G0 = W.G0 → W'.H0 = W.H0 → ∀ k b x, l[k]? = some x → I k b → I (k + 1) (f b x) ∧ Nx W' (tb { D with nx := Iv W' (Γf (f b x)), ct := Iv W' (Γf (f b x)), bk := D.nx }) ((Γf b).puts (ps x)))
    (hd : I l.length (l.foldl f b0) → Nx W D.nx (Γf (l.foldl f b0))) : Nx W (tFor wi g tb D) Γ := by
  have inv : ∀ k, k ≤ l.length → I k ((l.take k).foldl f b0) := by
    intro k
    induction k with
    | zero => intro _; exact hI
    | succ k ih =>
      intro hk
      have hx : l[k]? = some l[k] := by simp [show k < l.length by omega]
      rw [foldl_take_succ l f b0 hx]
      exact (hs W rfl rfl rfl k _ _ hx (ih (by omega))).1
  refine nx_for hi (fun k => Γf ((l.take k).foldl f b0)) ps h0 hg (fun b hb => ?_) (fun lo k x hx => ?_) ?_
  · obtain ⟨ws, h⟩ := hS b hb
    exact ⟨ws, fun k _ => h _⟩
  · have hk : k < l.length := (List.getElem?_eq_some_iff.mp hx).1
    have q := (hs { W with lo := lo } rfl rfl rfl k _ x hx (inv k (by omega))).2
    show Nx _ (tb { D with nx := Iv _ (Γf ((l.take (k + 1)).foldl f b0)), ct := Iv _ (Γf ((l.take (k + 1)).foldl f b0)), bk := D.nx }) _
    rw [foldl_take_succ l f b0 hx]
    exact q
  · show Nx W D.nx (Γf ((l.take l.length).foldl f b0))
    rw [List.take_length]
    refine hd ?_
    have q := inv l.length (Nat.le_refl _)
    rwa [List.take_length] at q
/-- a while: states i, their contexts, a measure -/
theorem nx_while {ι : Type} {c : TT} {tb : TS} (Γs : ι → Ct) (I : ι → Prop) (μ : ι → Nat) (b : ι → Bool) (i0 : ι) (h0 : Le Γ (Γs i0)) (hI : I i0) (hc : ∀ i, I i → ∀ {σ G H}, Eo G H σ (Γs i) → EvT c σ G H (b i))
    (hs : ∀ W' : Wd, W'.S = W.S → W'.G0 = W.G0 → W'.H0 = W.H0 → ∀ i, I i → b i = true → Nx W' (tb { D with nx := fun σ H => ∃ j, I j ∧ μ j < μ i ∧ Iv W' (Γs j) σ H, ct := fun σ H => ∃ j, I j ∧ μ j < μ i ∧ Iv W' (Γs j) σ H, bk := D.nx }) (Γs i))
    (hd : ∀ i, I i → b i = false → Nx W D.nx (Γs i)) : Nx W (tWhile c tb D) Γ := fun σ G H e => by
  refine ⟨fun m σ H => ∃ i, I i ∧ μ i = m ∧ Iv W (Γs i) σ H, ⟨μ i0, i0, hI, rfl, G, h0.en e⟩, ?_⟩
  rintro m σ H ⟨i, hi, rfl, G1, e1⟩
  refine hc i hi e1.toEo G1 H (Fz.refl e1.gd) _ fun G2 H2 f2 => ?_
  cases hb : b i with
  | true =>
    refine (if_pos rfl).mpr ⟨fun σ H => ∃ j, I j ∧ μ j < μ i ∧ Iv W (Γs j) σ H, fun σ' H' ⟨j, h1, h2, h3⟩ => ⟨μ j, h2, j, h1, rfl, h3⟩, ?_⟩
    exact hs W rfl rfl rfl i hi hb σ G2 H2 (e1.step f2)
  | false => exact (if_neg Bool.false_ne_true).mpr (hd i hi hb σ G2 H2 (e1.step f2))
theorem nx_endW {ι : Type} {Γs : ι → Ct} {I : ι → Prop} {μ : ι → Nat} {i : ι} (j : ι) (h : Le Γ (Γs j)) (hI : I j) (hm : μ j < μ i) : Nx W (fun σ H => ∃ j, I j ∧ μ j < μ i ∧ Iv W (Γs j) σ H) Γ := fun σ G H e => ⟨j, hI, hm, G, h.en e⟩
/-! ### a def's start -/
class ArgsE (P : AP) (l : outParam (List Ent)) : Prop where
  sl : ∀ {G H : Hp} {vs : List V}, P G H vs → vs.length = l.length ∧ Sl G (vs.map some) l
instance : ArgsE aN [] := ⟨fun h => by subst h; exact ⟨rfl, trivial⟩⟩
instance {α : Type} {r : Rl α} {x : α} {P : AP} {l : List Ent} [Go r] [ArgsE P l] : ArgsE (aC r x P) (eR r x :: l) := ⟨fun ⟨v, ws, e, h, t⟩ => by
  subst e
  obtain ⟨h1, h2⟩ := ArgsE.sl t
  exact ⟨by rw [List.length_cons, List.length_cons, h1], ⟨v, rfl, Go.go h⟩, h2⟩⟩
def anys : Nat → List Ent
  | 0 => []
  | n + 1 => eAny :: anys n
theorem sl_anys : ∀ n : Nat, Sl G (List.replicate n none) (anys n)
  | 0 => trivial
  | n + 1 => ⟨trivial, sl_anys n⟩
theorem sl_app : ∀ {σ σ' : L2.St} {l l' : List Ent}, Sl G σ l → Sl G σ' l' → Sl G (σ ++ σ') (l ++ l')
  | [], _, [], _, _, h => h
  | _ :: _, _, _ :: _, _, a, h => ⟨a.1, sl_app a.2 h⟩
  | [], _, _ :: _, _, a, _ => a.elim
  | _ :: _, _, [], _, a, _ => a.elim
theorem sl_start {P : AP} {l : List Ent} [ArgsE P l] {N : List Str} {vs : List V} (h : P G H vs) : Sl G (L2.start N vs) (l ++ anys (N.length - l.length)) := by
  obtain ⟨h1, h2⟩ := ArgsE.sl h
  unfold L2.start
  rw [h1]
  exact sl_app h2 (sl_anys _)
theorem en_start {S : List Addr} (d : Gd G H) (h : Sl G σ Γ.sl) (ho : Γ.ow = []) : En ⟨S, G, H, G⟩ G H σ Γ where
  gd := d
  sl := h
  ow o hm := by
    rw [ho] at hm
    exact absurd hm (by simp)
  fz := (Fz.refl d).toS
  lo _ _ h := h
  ok o hm := by
    rw [ho] at hm
    exact absurd hm (by simp)
  nd := by
    rw [ho]
    exact List.nodup_nil
/-- a pure def whose arguments all stay -/
theorem pure_run {ι : Type} {P : ι → AP} {pre : ι → Prop} {m : ι → α} {l : ι → List Ent} [∀ i, ArgsE (P i) (l i)] {NN : List Str} {t : TS} {vs : List V} {Q : VK} {E : XK} (h : spF P pre r m vs H Q E)
    (n : ∀ i (W : Wd) (D : Ends), pre i → W.S = [] → (∀ v G' H', Fz W.G0 W.H0 G' H' → r G' H' v (m i) → D.rt v H') → Nx W (t D) ⟨l i ++ anys (NN.length - (l i).length), []⟩) : t { nx := fun _ H' => Q .non H', rt := Q } (L2.start NN vs) H := by
  obtain ⟨i, G, d, hp, pr, q⟩ := h
  exact n i ⟨[], G, H, G⟩ _ pr rfl (fun v G' H' f hv => q v G' H' f hv) _ G H (en_start d (sl_start hp) rfl)
theorem nx_retP (hS : W.S = []) (q : ∀ v G' H', Fz W.G0 W.H0 G' H' → r G' H' v x → D.rt v H') (h : ∀ {σ G H}, Eo G H σ Γ → EvR te σ G H r x) : Nx W (tRet te D) Γ := nx_ret h fun σ v G H e hv => by
  have f := e.fz
  rw [hS] at f
  exact q v G H f.to hv
theorem len_spF {ι : Type} {P : ι → AP} {pre : ι → Prop} {m : ι → α} {n : Nat} (h : ∀ i G H vs, P i G H vs → vs.length = n) : ∀ vs H Q E, spF P pre r m vs H Q E → vs.length = n := fun vs H Q E ⟨i, G, _, hp, _⟩ => h i G H vs hp
end
end Dg
end
section
set_option Elab.async false
set_option linter.all false
set_option maxRecDepth 100000
set_option maxHeartbeats 4000000
/-! Readings as the printed terms want them: numbers that count, items by place with a filler. -/
namespace Dg
open PySem PySem.Spec PyProof.Rows L2
theorem hu64 {k : Nat} {A : Around} (hr : Room k A) : A.units + 64 < cLine := by
  have := hr.un
  omega
abbrev pt_w {X : Cx} {e : Expr} {t : TT} (h : PW X e t) : PT X e t := h.pt
section
variable {K : PySem.W.Frag} {G H G' H' G1 H1 : Hp} {σ : L2.St} {Γ Γ' : Ct} {α β δ : Type} {r r0 : Rl α} {r' : Rl β} {x d : α} {y : β} {xs ys : List α} {te ta tb : TE} {tt : TT}
theorem ev_litN (n : Nat) {i : Int} (e : i = (n : Int) := by rfl) : EvR (tC (.int i)) σ G H rN n := ev_nI' ev_i e
theorem ev_addN {a b : Nat} (ha : EvR ta σ G H rN a) (hb : EvR tb σ G H rN b) : EvR (tOp (rI0 fun i j => .int (i + j)) ta tb) σ G H rN (a + b) := ev_nI' (ev_add (ev_nI ha) (ev_nI hb)) (by omega)
theorem ev_mulN {a b : Nat} (ha : EvR ta σ G H rN a) (hb : EvR tb σ G H rN b) (c : a < 2 ^ 64) : EvR (tOp (L2.rI CMul fun i j => .int (i * j)) ta tb) σ G H rN (a * b) := ev_nI' (ev_mul (ev_nI ha) (ev_nI hb) (.inl ⟨by omega, by omega⟩)) (by rw [Int.natCast_mul])
theorem ev_ltN {a b : Nat} (ha : EvR ta σ G H rN a) (hb : EvR tb σ G H rN b) : EvR (tOp (rI0 fun i j => .bl (decide (i < j))) ta tb) σ G H rB (decide (a < b)) := (ev_lt (ev_nI ha) (ev_nI hb)).is (by simp)
theorem ev_gtN {a b : Nat} (ha : EvR ta σ G H rN a) (hb : EvR tb σ G H rN b) : EvR (tOp (rI0 fun i j => .bl (decide (j < i))) ta tb) σ G H rB (decide (b < a)) := (ev_gt (ev_nI ha) (ev_nI hb)).is (by simp)
theorem ev_geN {a b : Nat} (ha : EvR ta σ G H rN a) (hb : EvR tb σ G H rN b) : EvR (tOp (rI0 fun i j => .bl (decide (j ≤ i))) ta tb) σ G H rB (decide (b ≤ a)) := (ev_ge (ev_nI ha) (ev_nI hb)).is (by simp)
theorem ev_eqN {a b : Nat} (ha : EvR ta σ G H rN a) (hb : EvR tb σ G H rN b) : EvR (tOp rEq ta tb) σ G H rB (decide (a = b)) := (ev_eqI (ev_nI ha) (ev_nI hb)).is (by simp [Int.natCast_inj])
theorem ev_neN {a b : Nat} (ha : EvR ta σ G H rN a) (hb : EvR tb σ G H rN b) : EvR (tOp rNe ta tb) σ G H rB (!decide (a = b)) := (ev_neI (ev_nI ha) (ev_nI hb)).is (by simp [Int.natCast_inj])
theorem ev_lenN {r : Rl (List α)} {b : Bool} [Sq r r0 b] (h : EvR te σ G H r xs) : EvR (tCB (fun vs H Q => ∃ p ys, vs = [.ref p] ∧ (SqL K H p ys ∨ SqT K H p ys) ∧ Q (.int ys.length) H) (tCons te tNil)) σ G H rN xs.length := ev_nI' (ev_len h) rfl
theorem getD_some {k : Nat} (h : k < xs.length) : xs[k]? = some (xs.getD k d) := by
  rw [List.getD_eq_getElem?_getD, List.getElem?_eq_getElem h]
  rfl
theorem ev_gL {r : Rl (List α)} [Sq r r0 true] [Mo r] {k : Int} (ha : EvR ta σ G H r xs) (hb : EvR tb σ G H rI k) (h0 : 0 ≤ k) (h1 : k.toNat < xs.length) : EvR (tOp (rIxL K) ta tb) σ G H r0 (xs.getD k.toNat d) := ev_ixL k.toNat ha hb (by omega) (getD_some h1)
theorem ev_gT {r : Rl (List α)} [Sq r r0 false] [Mo r] {k : Int} (ha : EvR ta σ G H r xs) (hb : EvR tb σ G H rI k) (h0 : 0 ≤ k) (h1 : k.toNat < xs.length) : EvR (tOp (rIxT K) ta tb) σ G H r0 (xs.getD k.toNat d) := ev_ixT k.toNat ha hb (by omega) (getD_some h1)
theorem ev_gLn {r : Rl (List α)} [Sq r r0 true] [Mo r] {k : Nat} (ha : EvR ta σ G H r xs) (hb : EvR tb σ G H rN k) (h1 : k < xs.length) : EvR (tOp (rIxL K) ta tb) σ G H r0 (xs.getD k d) := ev_ixL k ha (ev_nI hb) rfl (getD_some h1)
theorem ev_gTn {r : Rl (List α)} [Sq r r0 false] [Mo r] {k : Nat} (ha : EvR ta σ G H r xs) (hb : EvR tb σ G H rN k) (h1 : k < xs.length) : EvR (tOp (rIxT K) ta tb) σ G H r0 (xs.getD k d) := ev_ixT k ha (ev_nI hb) rfl (getD_some h1)
theorem ev_endG {r : Rl (List α)} [Sq r r0 false] [Mo r] (ha : EvR ta σ G H r xs) (hb : EvR tb σ G H rI (-1)) (h : xs ≠ []) : EvR (tOp (rIxT K) ta tb) σ G H r0 (xs.getD (xs.length - 1) d) := ev_endT ha hb (getD_some (by
  have := List.length_pos_iff.mpr h
  omega))
theorem ev_nilT [Mo r] : EvR (tTup tNil) σ G H (rT r) [] := ev_tup el_n (Nat.zero_le _)
/-! tuples of unlike things -/
class LenA (P : AP) (n : outParam Nat) : Prop where
  len : ∀ {G H : Hp} {vs : List V}, P G H vs → vs.length = n
instance : LenA aN 0 := ⟨fun h => by rw [h]; rfl⟩
instance {α : Type} {r : Rl α} {x : α} {P : AP} {n : Nat} [LenA P n] : LenA (aC r x P) (n + 1) := ⟨fun ⟨v, ws, e, _, t⟩ => by rw [e, List.length_cons, LenA.len t]⟩
theorem ev_tupU {P : α → AP} {t : TA} {n : Nat} (x : α) (h : EvA t σ G H (P x)) [∀ x, GoA (P x)] [∀ x, LenA (P x) n] (hz : n ≤ 200000 := by decide) : EvR (tTup t) σ G H (rU P) x := fun G1 H1 f Q q =>
  h G1 H1 f _ fun vs G2 H2 f2 p => ⟨by rw [LenA.len p]; exact big hz, fun b hb => by
    have n := Fz.new (o := .tup vs) f2.gd hb (fun _ z => nomatch z)
    exact q _ _ _ (f2.trans n) ⟨b, vs, rfl, upd_same, GoA.go (GoA.up p n.gg)⟩⟩
theorem ev_ixU {P : α → AP} {i : Int} (k : Nat) (ek : i = (k : Int)) {r1 : Rl δ} {w : δ} (ha : EvR ta σ G H (rU P) x) (hp : ∀ G H vs, P x G H vs → ∃ v, vs[k]? = some v ∧ r1 G H v w) : EvR (tOp (rIxT K) ta (tC (.int i))) σ G H r1 w := fun G1 H1 f Q q =>
  ha G1 H1 f _ fun v G2 H2 f2 e => by
    obtain ⟨a, vs, rfl, ha, p⟩ := e
    obtain ⟨u, hu, ru⟩ := hp _ _ _ p
    exact ⟨a, vs, i, u, rfl, rfl, sqT_of (f2.gd.sub _ _ ha), by rw [ek]; exact atI_nat hu, q u G2 H2 f2 ru⟩
theorem ev_fst4_0 {γ ε : Type} {r1 : Rl α} {r2 : Rl β} {r3 : Rl γ} {r4 : Rl ε} {t : α × β × γ × ε} (ha : EvR ta σ G H (rQd r1 r2 r3 r4) t) : EvR (tOp (rIxT K) ta (tC (.int 0))) σ G H r1 t.1 := ev_ixU 0 rfl ha fun G H vs ⟨v, ws, e, h, _⟩ => ⟨v, by rw [e]; rfl, h⟩
theorem ev_fst4_3 {γ ε : Type} {r1 : Rl α} {r2 : Rl β} {r3 : Rl γ} {r4 : Rl ε} {t : α × β × γ × ε} (ha : EvR ta σ G H (rQd r1 r2 r3 r4) t) : EvR (tOp (rIxT K) ta (tC (.int 3))) σ G H r4 t.2.2.2 := ev_ixU 3 rfl ha fun G H vs ⟨v, ws, e, _, v2, ws2, e2, _, v3, ws3, e3, _, v4, ws4, e4, h, _⟩ => ⟨v4, by rw [e, e2, e3, e4]; rfl, h⟩
/-! None, max, min -/
theorem ev_isN {o : Option α} (ha : EvR ta σ G H (rO r) o) : EvR (tOp (fun x y H Q => y = .non ∧ Q (.bl (decide (x = .non))) H) ta (tC .non)) σ G H rB o.isNone := fun G1 H1 f Q q =>
  ha G1 H1 f _ fun v G2 H2 f2 e => ⟨rfl, q _ G2 H2 f2 (by
    cases o with
    | none =>
      have e : v = .non := e
      subst e
      rfl
    | some w =>
      have e : v ≠ .non ∧ _ := e
      show V.bl _ = V.bl _
      rw [decide_eq_false e.1]
      rfl)⟩
theorem foldl_max (ns : List Int) : ∀ n, ns.foldl max n ∈ n :: ns ∧ ∀ k ∈ n :: ns, k ≤ ns.foldl max n := by
  induction ns with
  | nil => intro n; simp
  | cons a ns ih =>
    intro n
    obtain ⟨h1, h2⟩ := ih (max n a)
    rw [List.foldl_cons]
    refine ⟨?_, fun k hk => ?_⟩
    · rcases List.mem_cons.mp h1 with e | e
      · rw [e]
        rcases Int.le_total n a with l | l
        · rw [Int.max_eq_right l]
          simp
        · rw [Int.max_eq_left l]
          simp
      · exact List.mem_cons_of_mem _ (List.mem_cons_of_mem _ e)
    · have b := h2 (max n a) List.mem_cons_self
      rcases List.mem_cons.mp hk with rfl | hk
      · exact Int.le_trans (Int.le_max_left _ _) b
      · rcases List.mem_cons.mp hk with rfl | hk
        · exact Int.le_trans (Int.le_max_right _ _) b
        · exact h2 k (List.mem_cons_of_mem _ hk)
/-- max(ns, default=0) -/
theorem ev_maxD {r1 : Rl (List Int)} [Sq r1 rI true] {ns : List Int} {m : Int} (h : EvR te σ G H r1 ns) (h0 : ns = [] → m = 0) (h1 : ns ≠ [] → m ∈ ns ∧ ∀ n ∈ ns, n ≤ m) : EvR (tCKw (rMaxD K) (tCons te tNil) (tCons (tC (.int 0)) tNil)) σ G H rI m := fun G1 H1 f Q q =>
  h G1 H1 f _ fun v G2 H2 f2 e => by
    obtain ⟨a, vs, rfl, ha, t⟩ := Sq.sq f2.gd e
    have ha : H2 a = some (.lst vs) := ha
    rw [ints_al t] at ha
    refine ⟨a, ns, 0, rfl, rfl, sqL_of ha, fun e => q _ G2 H2 f2 (by rw [h0 e]; rfl), fun n ms e => q _ G2 H2 f2 ?_⟩
    obtain ⟨m1, m2⟩ := h1 (by rw [e]; simp)
    obtain ⟨f1, f2⟩ := foldl_max ms n
    rw [← e] at f1 f2
    rw [Int.le_antisymm (m2 _ f1) (f2 _ m1)]
    rfl
theorem prs_al (d : Gd G H) : ∀ {vs : List V} {ps : List (Int × Int)}, Al (rPr rI rI G H) vs ps → Prs K H vs ps
  | _, _, .nil => .nil
  | _, _, .cons a t => by
    obtain ⟨b, ws, rfl, hb, v1, ws1, rfl, e1, v2, ws2, rfl, e2, rfl⟩ := a
    have e1 : v1 = .int _ := e1
    have e2 : v2 = .int _ := e2
    rw [e1, e2] at hb
    exact .cons (sqT_of (d.sub _ _ hb)) (prs_al d t)
/-- min(pairs)[1] -/
theorem ev_minP1 {r1 : Rl (List (Int × Int))} [Sq r1 (rPr rI rI) true] {p : Int × Int} {ps : List (Int × Int)} (h : EvR te σ G H r1 (p :: ps)) : EvR (tOp (rIxT K) (tCB (rMinP K) (tCons te tNil)) (tC (.int 1))) σ G H rI (minP p ps).2 := fun G1 H1 f Q q =>
  h G1 H1 f _ fun v G2 H2 f2 e => by
    obtain ⟨a, vs, rfl, ha, t⟩ := Sq.sq f2.gd e
    exact ⟨a, vs, p, ps, rfl, sqL_of ha, prs_al f2.gd t, fun t ht => ⟨t, _, 1, _, rfl, rfl, ht, atI_nat (j := 1) rfl, q _ G2 H2 f2 rfl⟩⟩
theorem ev_rr (h : EvR te σ G H (rL r) xs) : EvR te σ G H (rR r) xs := fun G1 H1 f Q q => h G1 H1 f _ fun v G2 H2 f2 e => q v G2 H2 f2 (e.rr f2.gd)
/-! promises that hold two ways -/
def spE (s1 s2 : Sp) : Sp := fun vs H Q E => s1 vs H Q E ∨ s2 vs H Q E
theorem ev_callL {ι : Type} {P : ι → AP} {pre : ι → Prop} {m : ι → α} {t : TA} {E : XK} {s2 : Sp} (i : ι) (h : EvA t σ G H (P i)) (hp : pre i) : EvR (tCall (spE (spF P pre r m) s2) [] E t) σ G H r (m i) := fun G1 H1 f Q q =>
  h G1 H1 f _ fun vs G2 H2 f2 p => .inl ⟨i, G2, f2.gd, by rw [List.append_nil]; exact p, hp, fun v G3 H3 f3 e => q v G3 H3 (f2.trans f3) e⟩
theorem ev_callR {ι : Type} {P : ι → AP} {pre : ι → Prop} {m : ι → α} {t : TA} {E : XK} {s1 : Sp} (i : ι) (h : EvA t σ G H (P i)) (hp : pre i) : EvR (tCall (spE s1 (spF P pre r m)) [] E t) σ G H r (m i) := fun G1 H1 f Q q =>
  h G1 H1 f _ fun vs G2 H2 f2 p => .inr ⟨i, G2, f2.gd, by rw [List.append_nil]; exact p, hp, fun v G3 H3 f3 e => q v G3 H3 (f2.trans f3) e⟩
theorem en_startF {S : List Addr} {a : Addr} {vs : List V} [Go r] (d : Gd G H) (h : Sl G σ Γ.sl) (ho : Γ.ow = [oF a vs r xs]) (ha : H a = some (.lst vs)) (t : Al (r G H) vs xs) : En ⟨S, G, H, G⟩ G H σ Γ where
  gd := d
  sl := h
  ow o hm := by
    rw [ho] at hm
    have e := List.mem_singleton.mp hm
    subst e
    exact ⟨_, ha, fun z => absurd rfl z, rfl, t.imp fun _ _ q => Go.go q⟩
  fz := (Fz.refl d).toS
  lo _ _ h := h
  ok o hm := by
    rw [ho] at hm
    have e := List.mem_singleton.mp hm
    subst e
    trivial
  nd := by
    rw [ho]
    exact List.nodup_cons.mpr ⟨by simp, List.nodup_nil⟩
end
end Dg
end
section
set_option Elab.async false
set_option linter.all false
set_option maxRecDepth 100000
set_option maxHeartbeats 4000000
/-! The rules that name the fragment, with the fragment told apart (so that a block's reading does not name the block). -/
namespace Dg
open PySem PySem.Spec PyProof.Rows L2
section
variable {X : Cx} {K : PySem.W.Frag} {a b : Expr} {tg e e2 lo st hi : Expr} {es elts : List Expr} {te ta tb : TE} {tl th ts : TO} {t : TGs} {tA : TA} {n k kk : Nat} {p pos tpos p2 : Pos}
theorem k_ixL (h : X.K = K) : IxR X (rIxL K) := h ▸ ix_list
theorem k_ixT (h : X.K = K) : IxR X (rIxT K) := h ▸ ix_tup
theorem k_slL (h : X.K = K) : SlR X (rSlL K) := h ▸ sl_list
theorem k_slT (h : X.K = K) : SlR X (rSlA K) := h ▸ sl_tupA
theorem k_catA (h : X.K = K) : OpR X (binaryOp .Add) (rCatA K) := h ▸ op_catA
theorem k_repS (h : X.K = K) : OpR X (binaryOp .Mult) (rRepS K) := h ▸ op_repS
theorem k_neD (h : X.K = K) (hu : X.A.units + 64 < cLine) : OpR X (compareOp .NotEq) (rNeD K) := h ▸ op_neD hu
theorem k_eqD (h : X.K = K) (hu : X.A.units + 64 < cLine) : OpR X (compareOp .Eq) (rEqD K) := h ▸ op_eqD hu
theorem k_notIn (h : X.K = K) : OpR X (compareOp .NotIn) (rIn K true) := h ▸ op_notIn_seq
theorem k_len (h : X.K = K) : CallR X (.builtin "len") (fun xs H Q => ∃ p ys, xs = [.ref p] ∧ (SqL K H p ys ∨ SqT K H p ys) ∧ Q (.int ys.length) H) := h ▸ call_len_seq
theorem k_list (h : X.K = K) : CallR X (.type "list") (fun xs H Q => ∃ p ys, xs = [.ref p] ∧ (SqL K H p ys ∨ SqT K H p ys) ∧ ∀ l, H l = none → Q (.ref l) (upd H l (.lst ys))) := h ▸ call_list_of
theorem k_tuple (h : X.K = K) : CallR X (.type "tuple") (rTupC K) := h ▸ call_tuple_of
theorem k_sum (h : X.K = K) (hc : X.calm = true) : CallR X (.builtin "sum") (rSum K) := h ▸ cr_sum hc
theorem k_max (h : X.K = K) (hc : X.calm = true) : CallR X (.builtin "max") (rMax K) := h ▸ cr_max hc
theorem k_any (h : X.K = K) (hc : X.calm = true) : CallR X (.builtin "any") (rAny K) := h ▸ cr_any hc
theorem k_anyI (h : X.K = K) (m : Bool) (hc : X.calm = true) : CallR X (.builtin "any") (rAnyI K m) := h ▸ cr_anyI m hc
theorem k_maxD (h : X.K = K) (hc : X.calm = true) (hu : X.A.units + 64 < cLine) : CallRK X (.builtin "max") [Str.ofString "default"] (rMaxD K) := h ▸ cr_maxD hc hu
theorem k_minP (h : X.K = K) (hc : X.calm = true) (hu : X.A.units + 64 < cLine) : CallR X (.builtin "min") (rMinP K) := h ▸ cr_minP hc hu
theorem k_piL (h : X.K = K) (hl : PE X e te) : PI X tg e (iList K te) := h ▸ pi_list hl
theorem k_piT (h : X.K = K) (hl : PE X e te) : PI X tg e (iTup K te) := h ▸ pi_tup hl
theorem k_piE (h : X.K = K) (hg : Gl X "enumerate") (hm : X.mg "enumerate" = none) (ha : PA X [e] tA) (hs : starEach [e] X.env = [(false, eval e X.env)] := by rfl) :
    PI X (.Tuple elts kk tpos) (.Call (.Name "enumerate" p) [e] [] pos) (iEnum K tA) := h ▸ pi_enum hg hm ha hs
theorem k_piET (h : X.K = K) (hg : Gl X "enumerate") (hm : X.mg "enumerate" = none) (ha : PA X [e] tA) (hs : starEach [e] X.env = [(false, eval e X.env)] := by rfl) :
    PI X (.Tuple elts kk tpos) (.Call (.Name "enumerate" p) [e] [] pos) (iEnumT K tA) := h ▸ pi_enumT hg hm ha hs
theorem k_piZ (h : X.K = K) (m k : Bool) (hg : Gl X "zip") (hm : X.mg "zip" = none) (ha : PA X [e, e2] tA)
    (hs : starEach [e, e2] X.env = (false, eval e X.env) :: starEach [e2] X.env := by rfl) (hpl : (backTo pos (starEach [e2] X.env)).any (·.1) = false := by rfl) :
    PI X (.Tuple elts kk tpos) (.Call (.Name "zip" p) [e, e2] [] pos) (iZipK K m k tA) := h ▸ pi_zipK m k hg hm ha hs hpl
theorem k_step (h : X.K = K) (he : PE X e te) (hl : PO X (some lo) tl) (hst : PO X (some st) ts) : PE X (.Subscript e (.Slice (some lo) none (some st) p2) pos) (tStep K te tl ts) := h ▸ pe_stepT he hl hst
theorem k_tup (h : X.K = K) (hc : X.calm = true) (hs : PGs X es t) (hn : (assignEach es X.env).length = n := by rfl) (hst : (assignEach es X.env).findIdx? (·.1) = none := by rfl) : PG X (.Tuple es k pos) (gTup K n t) := h ▸ pg_tup hc hs hn hst
theorem EvI.is {α : Type} {wi : TI} {σ : L2.St} {G H : Hp} {S : List Addr} {r : Rl α} {l l' : List α} (h : EvI wi σ G H S r l) (e : l = l') : EvI wi σ G H S r l' := e ▸ h
theorem al_nat {G H : Hp} : ∀ {vs : List V} {ns : List Nat}, Al (rN G H) vs ns → Al (rI G H) vs (ns.map fun (n : Nat) => (n : Int))
  | _, _, .nil => .nil
  | _, _, .cons a t => .cons a (al_nat t)
theorem ev_LN {te : TE} {σ : L2.St} {G H : Hp} {ns : List Nat} (h : EvR te σ G H (rL rN) ns) : EvR te σ G H (rL rI) (ns.map fun (n : Nat) => (n : Int)) := fun G1 H1 f Q q => h G1 H1 f _ fun v G2 H2 f2 ⟨a, vs, e, g, t⟩ => q v G2 H2 f2 ⟨a, vs, e, g, al_nat t⟩
end
end Dg
end
section
set_option Elab.async false
set_option linter.all false
set_option maxRecDepth 100000
set_option maxHeartbeats 4000000
/-! Statements ahead of others. -/
namespace Dg
open PySem PySem.Spec PyProof.Rows L2
section
variable {K : PySem.W.Frag} {G H G' H' G1 H1 : Hp} {σ : L2.St} {Γ Γ' : Ct} {α β δ : Type} {r r0 : Rl α} {r' : Rl β} {x : α} {y : β} {xs ys : List α} {te ta tb : TE} {W : Wd} {N : L2.St → Hp → Prop} {D : Ends}
theorem s_asg {U : TS} [Go r] {i : Nat} (h : ∀ {σ G H}, Eo G H σ Γ → EvR te σ G H r x) (n : Nx W (U D) (Γ.put i (eR r x))) : Nx W (tSeq (tAsg te (gName i)) U D) Γ := nx_asg (D := { D with nx := U D }) h n
theorem s_tup {U : TS} {g : TG} {ps : List (Nat × Ent)} (h : ∀ {σ G H}, Eo G H σ Γ → EvR te σ G H r x) (t : Tg g r x ps) (n : Nx W (U D) (Γ.puts ps)) : Nx W (tSeq (tAsg te g) U D) Γ := nx_tup (D := { D with nx := U D }) h t n
theorem s_par {U : TS} [Go r] [Go r'] {i j : Nat} (ha : ∀ {σ G H}, Eo G H σ Γ → EvR ta σ G H r x) (hb : ∀ {σ G H}, Eo G H σ Γ → EvR tb σ G H r' y) (n : Nx W (U D) ((Γ.put i (eR r x)).put j (eR r' y))) : Nx W (tSeq (tPar i j (tCons ta (tCons tb tNil))) U D) Γ := nx_par (D := { D with nx := U D }) ha hb n
theorem s_own {U : TS} [Go r] {i : Nat} (h : ∀ {σ G H}, Eo G H σ Γ → EvN te σ G H r xs) (n : ∀ a, Nx W (U D) ((Γ.put i (eR rA a)).own (oL a r xs))) : Nx W (tSeq (tAsg te (gName i)) U D) Γ := nx_own (D := { D with nx := U D }) h n
theorem s_put {U : TS} [Go r] {ti to : TE} {a : Addr} {k : Int} (j n : Nat) {kd : Kd} (hv : ∀ {σ G H}, Eo G H σ Γ → EvR te σ G H r x) (ho : ∀ {σ G H}, Eo G H σ Γ → EvR to σ G H rA a) (hi : ∀ {σ G H}, Eo G H σ Γ → EvR ti σ G H rI k) (hj : Γ.ow[j]? = some (oL a r xs kd)) (ek : k = (n : Int)) (hn : n < xs.length)
    (hk : kd ≠ .ro) (nx : Nx W (U D) (Γ.putO j (oL a r (xs.set n x) kd))) : Nx W (tSeq (tAsg te (gSub to ti rSetL)) U D) Γ := nx_put (D := { D with nx := U D }) j n hv ho hi hj ek hn hk nx
theorem s_app {U : TS} [Go r] {to : TE} {a : Addr} (j : Nat) {kd : Kd} (ho : ∀ {σ G H}, Eo G H σ Γ → EvR to σ G H rA a) (hv : ∀ {σ G H}, Eo G H σ Γ → EvR te σ G H r x) (hj : Γ.ow[j]? = some (oL a r xs kd)) (hn : xs.length < 200000)
    (hk : kd ≠ .ro) (nx : Nx W (U D) (Γ.putO j (oL a r (xs ++ [x]) kd))) : Nx W (tSeq (tDrop (tBM K "list" rAppend to (tCons te tNil))) U D) Γ := nx_app (D := { D with nx := U D }) j ho hv hj hn hk nx
theorem s_ext {U : TS} [Go r] {to : TE} {a : Addr} {r1 : Rl (List α)} [Sq r1 r true] (j : Nat) {kd : Kd} (ho : ∀ {σ G H}, Eo G H σ Γ → EvR to σ G H rA a) (hv : ∀ {σ G H}, Eo G H σ Γ → EvR te σ G H r1 ys) (hj : Γ.ow[j]? = some (oL a r xs kd)) (hn : xs.length + ys.length ≤ 200000)
    (hk : kd ≠ .ro) (nx : Nx W (U D) (Γ.putO j (oL a r (xs ++ ys) kd))) : Nx W (tSeq (tDrop (tBM K "list" rExtend to (tCons te tNil))) U D) Γ := nx_ext (D := { D with nx := U D }) j ho hv hj hn hk nx
theorem s_if {U : TS} {c : TT} {t u : TS} {b : Bool} (h : ∀ {σ G H}, Eo G H σ Γ → EvT c σ G H b) (ht : b = true → Nx W (t { D with nx := U D }) Γ) (hf : b = false → Nx W (u { D with nx := U D }) Γ) : Nx W (tSeq (tIfS c t u) U D) Γ := nx_if (D := { D with nx := U D }) h ht hf
theorem s_for {U : TS} [Go r] {S : List Addr} {wi : TI} {g : TG} {tb : TS} {l : List α} (hi : ∀ {σ G H}, Eo G H σ Γ → EvI wi σ G H S r l) (Γs : Nat → Ct) (ps : α → List (Nat × Ent)) (h0 : Le Γ (Γs 0)) (hg : ∀ x ∈ l, Tg g r x (ps x))
    (hS : ∀ b ∈ S, ∃ ws, ∀ k, k ≤ l.length → ∃ o ∈ (Γs k).ow, o.a = b ∧ ∀ G h, o.P G h → h = .lst ws)
    (hs : ∀ lo k x, l[k]? = some x → Nx { W with lo := lo } (tb { D with nx := Iv { W with lo := lo } (Γs (k + 1)), ct := Iv { W with lo := lo } (Γs (k + 1)), bk := U D }) ((Γs k).puts (ps x)))
    (hd : Nx W (U D) (Γs l.length)) : Nx W (tSeq (tFor wi g tb) U D) Γ := nx_for (D := { D with nx := U D }) hi Γs ps h0 hg hS hs hd
theorem s_fold {U : TS} [Go r] {S : List Addr} {wi : TI} {g : TG} {tb : TS} {l : List α} (hi : ∀ {σ G H}, Eo G H σ Γ → EvI wi σ G H S r l) (I : Nat → β → Prop) (Γf : β → Ct) (f : β → α → β) (b0 : β) (ps : α → List (Nat × Ent)) (h0 : Le Γ (Γf b0)) (hI : I 0 b0) (hg : ∀ x ∈ l, Tg g r x (ps x))
    (hS : ∀ b ∈ S, ∃ ws, ∀ y, ∃ o ∈ (Γf y).ow, o.a = b ∧ ∀ G h, o.P G h → h = .lst ws)
    (hs : ∀ W' : Wd, W'.S = W.S → W'.G0 = W.G0 → W'.H0 = W.H0 → ∀ k b x, l[k]? = some x → I k b → I (k + 1) (f b x) ∧ Nx W' (tb { D with nx := Iv W' (Γf (f b x)), ct := Iv W' (Γf (f b x)), bk := U D }) ((Γf b).puts (ps x)))
    (hd : I l.length (l.foldl f b0) → Nx W (U D) (Γf (l.foldl f b0))) : Nx W (tSeq (tFor wi g tb) U D) Γ := nx_fold (D := { D with nx := U D }) hi I Γf f b0 ps h0 hI hg hS hs hd
theorem s_while {U : TS} {ι : Type} {c : TT} {tb : TS} (Γs : ι → Ct) (I : ι → Prop) (μ : ι → Nat) (b : ι → Bool) (i0 : ι) (h0 : Le Γ (Γs i0)) (hI : I i0) (hc : ∀ i, I i → ∀ {σ G H}, Eo G H σ (Γs i) → EvT c σ G H (b i))
    (hs : ∀ W' : Wd, W'.S = W.S → W'.G0 = W.G0 → W'.H0 = W.H0 → ∀ i, I i → b i = true → Nx W' (tb { D with nx := fun σ H => ∃ j, I j ∧ μ j < μ i ∧ Iv W' (Γs j) σ H, ct := fun σ H => ∃ j, I j ∧ μ j < μ i ∧ Iv W' (Γs j) σ H, bk := U D }) (Γs i))
    (hd : ∀ i, I i → b i = false → Nx W (U D) (Γs i)) : Nx W (tSeq (tWhile c tb) U D) Γ := nx_while (D := { D with nx := U D }) Γs I μ b i0 h0 hI hc hs hd
theorem ev_pr [Go r] [Go r'] {x : α} {y : β} (ha : EvR ta σ G H r x) (hb : EvR tb σ G H r' y) : EvR (tTup (tCons ta (tCons tb tNil))) σ G H (rPr r r') (x, y) := ev_tupU (x, y) (ea_c ha (ea_c hb ea_n))
theorem ev_tr {r3 : Rl δ} {tc : TE} [Go r] [Go r'] [Go r3] {x : α} {y : β} {z : δ} (ha : EvR ta σ G H r x) (hb : EvR tb σ G H r' y) (hc : EvR tc σ G H r3 z) : EvR (tTup (tCons ta (tCons tb (tCons tc tNil)))) σ G H (rTr r r' r3) (x, y, z) := ev_tupU (x, y, z) (ea_c ha (ea_c hb (ea_c hc ea_n)))
theorem ev_qd {ε : Type} {r3 : Rl δ} {r4 : Rl ε} {tc td : TE} [Go r] [Go r'] [Go r3] [Go r4] {x : α} {y : β} {z : δ} {u : ε} (ha : EvR ta σ G H r x) (hb : EvR tb σ G H r' y) (hc : EvR tc σ G H r3 z) (hd : EvR td σ G H r4 u) : EvR (tTup (tCons ta (tCons tb (tCons tc (tCons td tNil))))) σ G H (rQd r r' r3 r4) (x, y, z, u) := ev_tupU (x, y, z, u) (ea_c ha (ea_c hb (ea_c hc (ea_c hd ea_n))))
end
end Dg
end
section
set_option Elab.async false
set_option linter.all false
set_option maxRecDepth 100000
set_option maxHeartbeats 4000000
/-! Defs that write what they are given; loops whose state is told by a relation. -/
namespace Dg
open PySem PySem.Spec PyProof.Rows L2
/-- a def that may write the objects at S: arguments by P, more by pre; behind it post (of the heap ahead, the heaps behind, the value) -/
def spW {ι : Type} (P : ι → AP) (pre : ι → Hp → Hp → Prop) (S : ι → List Addr) (post : ι → Hp → Hp → Hp → V → Prop) : Sp := fun vs H Q _ => ∃ i G, Gd G H ∧ P i G H vs ∧ pre i G H ∧ ∀ v G' H', FzS (S i) G H G' H' → post i H G' H' v → Q v H'
section
variable {K : PySem.W.Frag} {G H G' H' G1 H1 : Hp} {σ : L2.St} {Γ Γ' : Ct} {α β δ ι : Type} {r r0 : Rl α} {r' : Rl β} {x : α} {y : β} {xs ys : List α} {te ta tb : TE} {tA : TA} {W : Wd} {N : L2.St → Hp → Prop} {D : Ends} {U : TS}
theorem FzS.more {S T : List Addr} {G0 H0 : Hp} (x : FzS S G0 H0 G H) (y : FzS T G H G' H') (h : ∀ b ∈ T, b ∈ S ∨ H0 b = none) : FzS S G0 H0 G' H' where
  gg b o q := y.gg b o (x.gg b o q)
  gd := y.gd
  hh b o n q := y.hh b o (fun z => (h b z).elim n fun z => by rw [q] at z; cases z) (x.hh b o n q)
  hn b q := y.hn b (x.hn b q)
  fr b q n := y.fr b (x.hn b q) (x.fr b q n)
theorem okS {S : List Addr} {H0 : Hp} {o : Own} (hk : o.k ≠ .ro) (ok : match o.k with
    | .ro => True
    | .par => o.a ∈ S
    | .new => H0 o.a = none) : o.a ∈ S ∨ H0 o.a = none := by
  cases h : o.k with
  | ro => exact absurd h hk
  | par =>
    rw [h] at ok
    exact .inl ok
  | new =>
    rw [h] at ok
    exact .inr ok
/-- behind a call that wrote the j-th own object -/
theorem En.call (e : En W G H σ Γ) {j : Nat} {o : Own} (hj : Γ.ow[j]? = some o) (hk : o.k ≠ .ro) (f : FzS [o.a] G H G' H') : En W G' H' σ (Γ.rmO j) where
  gd := f.gd
  sl := e.sl.up f.gg
  ow u hu := by
    obtain ⟨m, ne⟩ := mem_rmO hj e.nd hu
    obtain ⟨h, h1, h2, h3⟩ := e.ow u m
    exact ⟨h, f.hh _ _ (by simpa using ne) h1, fun k => f.fr _ (by rw [h1]; exact fun z => nomatch z) (h2 k), u.up h3 f.gg⟩
  fz := e.fz.more f fun b hb => by
    have hb := List.mem_singleton.mp hb
    subst hb
    exact okS hk (e.ok o (List.mem_of_getElem? hj))
  lo b o h := f.gg b o (e.lo b o h)
  ok u hu := e.ok u (mem_rmO hj e.nd hu).1
  nd := ((rmO_sub Γ.ow j).map Own.a).nodup e.nd
theorem En.callK (e : En W G H σ Γ) {j : Nat} {o o' : Own} {h' : HO} (hj : Γ.ow[j]? = some o) (hk : o.k ≠ .ro) (f : FzS [o.a] G H G' H') (ea : o'.a = o.a) (ek : o'.k = o.k) (h1 : H' o.a = some h') (hp : o'.P G' h') : En W G' H' σ (Γ.putO j o') where
  gd := f.gd
  sl := e.sl.up f.gg
  ow u hu := by
    rcases mem_putO hj e.nd hu with rfl | ⟨m, ne⟩
    · obtain ⟨h, q1, q2, q3⟩ := e.ow o (List.mem_of_getElem? hj)
      refine ⟨h', by rw [ea]; exact h1, fun k => ?_, hp⟩
      rw [ea]
      exact f.fr _ (by rw [q1]; exact fun z => nomatch z) (q2 hk)
    · obtain ⟨h, h1, h2, h3⟩ := e.ow u m
      exact ⟨h, f.hh _ _ (by simpa using ne) h1, fun k => f.fr _ (by rw [h1]; exact fun z => nomatch z) (h2 k), u.up h3 f.gg⟩
  fz := e.fz.more f fun b hb => by
    have hb := List.mem_singleton.mp hb
    subst hb
    exact okS hk (e.ok o (List.mem_of_getElem? hj))
  lo b o h := f.gg b o (e.lo b o h)
  ok u hu := by
    rcases mem_putO hj e.nd hu with rfl | ⟨m, ne⟩
    · have q := e.ok o (List.mem_of_getElem? hj)
      rw [← ea, ← ek] at q
      exact q
    · exact e.ok u m
  nd := by
    show ((putO Γ.ow j o').map Own.a).Nodup
    rw [putO_map hj ea]
    exact e.nd
/-- a new own object, found in the heap behind -/
theorem En.new (e : En W G H σ Γ) {o : Own} {h : HO} (hk : o.k = .new) (h0 : W.H0 o.a = none) (h1 : H o.a = some h) (h2 : G o.a = none) (hp : o.P G h) (hn : o.a ∉ Γ.ow.map Own.a) : En W G H σ (Γ.own o) where
  gd := e.gd
  sl := e.sl
  ow u hu := by
    rcases List.mem_cons.mp hu with rfl | hu
    · exact ⟨h, h1, fun _ => h2, hp⟩
    · exact e.ow u hu
  fz := e.fz
  lo := e.lo
  ok u hu := by
    rcases List.mem_cons.mp hu with rfl | hu
    · rw [hk]
      exact h0
    · exact e.ok u hu
  nd := List.nodup_cons.mpr ⟨hn, e.nd⟩
theorem En.fresh (e : En W G H σ Γ) {a : Addr} (h : H a = none) : W.H0 a = none ∧ a ∉ Γ.ow.map Own.a := ⟨e.fz.free h, fun hm => by
  obtain ⟨u, hu, eu⟩ := List.mem_map.mp hm
  obtain ⟨k, hk2, _⟩ := e.ow u hu
  rw [eu, h] at hk2
  cases hk2⟩
variable {P : ι → AP} {pre : ι → Hp → Hp → Prop} {S : ι → List Addr} {post : ι → Hp → Hp → Hp → V → Prop} {E : XK} {k : Nat}
theorem s_callW (i : ι) (ha : ∀ {σ G H}, Eo G H σ Γ → EvA tA σ G H (P i)) (hp : ∀ σ G H, En W G H σ Γ → pre i G H) (n : ∀ σ v G H G' H', En W G H σ Γ → FzS (S i) G H G' H' → post i H G' H' v → U D (σ.set k (some v)) H') :
    Nx W (tSeq (tAsg (tCall (spW P pre S post) [] E tA) (gName k)) U D) Γ := fun σ G H e =>
  ha e.toEo G H (Fz.refl e.gd) _ fun vs G1 H1 f p => ⟨i, G1, f.gd, by rw [List.append_nil]; exact p, hp σ G1 H1 (e.step f), fun v G' H' f' q => n σ v G1 H1 G' H' (e.step f) f' q⟩
theorem nx_callW (i : ι) (ha : ∀ {σ G H}, Eo G H σ Γ → EvA tA σ G H (P i)) (hp : ∀ σ G H, En W G H σ Γ → pre i G H) (n : ∀ σ v G H G' H', En W G H σ Γ → FzS (S i) G H G' H' → post i H G' H' v → D.nx (σ.set k (some v)) H') :
    Nx W (tAsg (tCall (spW P pre S post) [] E tA) (gName k) D) Γ := fun σ G H e =>
  ha e.toEo G H (Fz.refl e.gd) _ fun vs G1 H1 f p => ⟨i, G1, f.gd, by rw [List.append_nil]; exact p, hp σ G1 H1 (e.step f), fun v G' H' f' q => n σ v G1 H1 G' H' (e.step f) f' q⟩
/-- a def that writes one list -/
theorem en_startW {a : Addr} {vs : List V} [Go r] (d : Gd G H) (h : Sl G σ Γ.sl) (ho : Γ.ow = [oL a r xs .par]) (ha : H a = some (.lst vs)) (hg : G a = none) (t : Al (r G H) vs xs) : En ⟨[a], G, H, G⟩ G H σ Γ where
  gd := d
  sl := h
  ow o hm := by
    rw [ho] at hm
    have e := List.mem_singleton.mp hm
    subst e
    exact ⟨_, ha, fun _ => hg, vs, rfl, t.imp fun _ _ q => Go.go q⟩
  fz := (Fz.refl d).toS
  lo _ _ h := h
  ok o hm := by
    rw [ho] at hm
    have e := List.mem_singleton.mp hm
    subst e
    exact List.mem_singleton.mpr rfl
  nd := by
    rw [ho]
    exact List.nodup_cons.mpr ⟨by simp, List.nodup_nil⟩
theorem nx_retN [Go r] (h : ∀ {σ G H}, Eo G H σ Γ → EvN te σ G H r xs) (q : ∀ σ a vs G H, En W G H σ Γ → W.H0 a = none → H a = some (.lst vs) → G a = none → Al (r G H) vs xs → D.rt (.ref a) H) : Nx W (tRet te D) Γ := fun σ G H e =>
  h e.toEo G H (Fz.refl e.gd) _ fun a vs G1 H1 f hn h1 h2 t => q σ a vs G1 H1 (e.step f) (e.fz.free hn) h1 h2 t
/-- a for whose state is told by a relation -/
theorem nx_forE [Go r] {wi : TI} {g : TG} {tb : TS} {l : List α} (hi : ∀ {σ G H}, Eo G H σ Γ → EvI wi σ G H [] r l) (Γs : δ → Ct) (I : Nat → δ → Prop) (s0 : δ) (ps : α → List (Nat × Ent)) (h0 : Le Γ (Γs s0)) (hI : I 0 s0) (hg : ∀ x ∈ l, Tg g r x (ps x))
    (hs : ∀ W' : Wd, W'.S = W.S → W'.G0 = W.G0 → W'.H0 = W.H0 → ∀ k s x, l[k]? = some x → I k s → Nx W' (tb { D with nx := fun σ H => ∃ s', I (k + 1) s' ∧ Iv W' (Γs s') σ H, ct := fun σ H => ∃ s', I (k + 1) s' ∧ Iv W' (Γs s') σ H, bk := D.nx }) ((Γs s).puts (ps x)))
    (hd : ∀ s, I l.length s → Nx W D.nx (Γs s)) : Nx W (tFor wi g tb D) Γ := fun σ G H e => by
  refine hi e.toEo G H (Fz.refl e.gd) _ fun J G1 H1 C Y f1 w hC hY => ?_
  have e1 := (h0.en e).step f1
  have lz : ∀ s σ2 G2 H2, En { W with lo := G1 } G2 H2 σ2 (Γs s) → Lz [] G1 H1 G2 H2 := fun s σ2 G2 H2 e2 => ⟨e2.lo, e2.gd, fun b hb => absurd hb (by simp)⟩
  refine L2.for_it w (fun k σ H => ∃ s, I k s ∧ Iv { W with lo := G1 } (Γs s) σ H) ⟨s0, hI, G1, ⟨e1.toEo, e1.fz, fun b o h => h, e1.ok, e1.nd⟩⟩ (fun k σ H hk ⟨s, _, G2, e2⟩ => hC G2 H (lz s σ G2 H e2)) ?_ ?_
  · rintro k v σ2 H2 H3 hk ⟨s, his, G2, e2⟩ y
    obtain ⟨x, hx⟩ : ∃ x, l[k]? = some x := ⟨l[k], by simp [hk]⟩
    obtain ⟨G3, f3, rv⟩ := hY k x hx G2 H2 v H3 (lz s σ2 G2 H2 e2) y
    obtain ⟨ws, hw, hq⟩ := hg x (List.mem_of_getElem? hx) v G3 H3 f3.gd rv
    refine hq _ _ ?_
    exact hs { W with lo := G1 } rfl rfl rfl k s x hx his _ G3 H3 ((e2.step f3).slots (hw.sl (e2.step f3).sl))
  · rintro σ2 H2 ⟨s, his, G2, e2⟩
    exact hd s his σ2 G2 H2 ⟨e2.toEo, e2.fz, fun b o h => e2.lo b o (f1.gg b o (e.lo b o h)), e2.ok, e2.nd⟩
theorem s_forE [Go r] {wi : TI} {g : TG} {tb : TS} {l : List α} (hi : ∀ {σ G H}, Eo G H σ Γ → EvI wi σ G H [] r l) (Γs : δ → Ct) (I : Nat → δ → Prop) (s0 : δ) (ps : α → List (Nat × Ent)) (h0 : Le Γ (Γs s0)) (hI : I 0 s0) (hg : ∀ x ∈ l, Tg g r x (ps x))
    (hs : ∀ W' : Wd, W'.S = W.S → W'.G0 = W.G0 → W'.H0 = W.H0 → ∀ k s x, l[k]? = some x → I k s → Nx W' (tb { D with nx := fun σ H => ∃ s', I (k + 1) s' ∧ Iv W' (Γs s') σ H, ct := fun σ H => ∃ s', I (k + 1) s' ∧ Iv W' (Γs s') σ H, bk := U D }) ((Γs s).puts (ps x)))
    (hd : ∀ s, I l.length s → Nx W (U D) (Γs s)) : Nx W (tSeq (tFor wi g tb) U D) Γ := nx_forE (D := { D with nx := U D }) hi Γs I s0 ps h0 hI hg hs hd
theorem nx_endE {I : Nat → δ → Prop} {Γs : δ → Ct} {k : Nat} (s : δ) (h : Le Γ (Γs s)) (hI : I k s) : Nx W (fun σ H => ∃ s', I k s' ∧ Iv W (Γs s') σ H) Γ := fun σ G H e => ⟨s, hI, G, h.en e⟩
/-- the state of a while, as a relation, ahead of others -/
theorem s_whileE {c : TT} {tb : TS} (Γs : δ → Ct) (I : δ → Prop) (μ : δ → Nat) (b : δ → Bool) (i0 : δ) (h0 : Le Γ (Γs i0)) (hI : I i0) (hc : ∀ i, I i → ∀ {σ G H}, Eo G H σ (Γs i) → EvT c σ G H (b i))
    (hs : ∀ W' : Wd, W'.S = W.S → W'.G0 = W.G0 → W'.H0 = W.H0 → ∀ i, I i → b i = true → Nx W' (tb { D with nx := fun σ H => ∃ j, I j ∧ μ j < μ i ∧ Iv W' (Γs j) σ H, ct := fun σ H => ∃ j, I j ∧ μ j < μ i ∧ Iv W' (Γs j) σ H, bk := U D }) (Γs i))
    (hd : ∀ i, I i → b i = false → Nx W (U D) (Γs i)) : Nx W (tSeq (tWhile c tb) U D) Γ := nx_while (D := { D with nx := U D }) Γs I μ b i0 h0 hI hc hs hd
end
end Dg
end
section
set_option Elab.async false
set_option linter.all false
set_option maxRecDepth 100000
set_option maxHeartbeats 4000000
/-! A comprehension whose items write; the script. -/
namespace Dg
open PySem PySem.Spec PyProof.Rows L2
section
variable {K : PySem.W.Frag} {G H G' H' G1 H1 : Hp} {σ : L2.St} {Γ Γ' : Ct} {α β δ ι : Type} {r r0 : Rl α} {r' : Rl β} {x : α} {y : β} {xs ys : List α} {te ta tb : TE} {tA : TA} {W : Wd} {N : L2.St → Hp → Prop} {D : Ends} {U : TS}
theorem En.lo' (e : En W G H σ Γ) : En { W with lo := G } G H σ Γ := ⟨e.toEo, e.fz, fun _ _ h => h, e.ok, e.nd⟩
theorem lc_write [Go r] [Go r'] {wi : TI} {g : TG} {vs : List Nat} {l : List α} {sl : List Ent} {ow : δ → List Own} (s0 : δ) (I : Nat → δ → List β → Prop) (e : En W G H σ ⟨sl, ow s0⟩) (hI : I 0 s0 []) (hi : ∀ {σ G H}, Eo G H σ ⟨sl, ow s0⟩ → EvI wi σ G H [] r l) (hl : l.length ≤ 200000)
    (hlen : ∀ k s ys, I k s ys → ys.length ≤ k) (ps : α → List (Nat × Ent)) (hg : ∀ x ∈ l, Tg g r x (ps x)) (hv : ∀ x, ∀ p ∈ ps x, p.1 ∈ vs)
    (he : ∀ (W' : Wd), W'.S = W.S → W'.G0 = W.G0 → W'.H0 = W.H0 → ∀ (o0 : Own) k s ys x, l[k]? = some x → I k s ys → ∀ σ2 G2 H2, En W' G2 H2 σ2 ⟨puts (wipeE sl vs) (ps x), o0 :: ow s⟩ → ∀ Q : VK,
      (∀ v G3 H3 s' y, En W' G3 H3 σ2 ⟨puts (wipeE sl vs) (ps x), o0 :: ow s'⟩ → r' G3 H3 v y → I (k + 1) s' (ys ++ [y]) → Q v H3) → te σ2 H2 Q)
    (Q : VK) (hQ : ∀ a s ys G' H', En W G' H' σ ⟨sl, oL a r' ys :: ow s⟩ → I l.length s ys → Q (.ref a) H') : tLc wi g tYes te vs σ H Q := by
  refine hi e.toEo G H (Fz.refl e.gd) _ fun J G1 H1 C Y f1 w hC hY D hD => ?_
  have e1 := e.step f1
  have fo := Fz.own (o := .lst []) e1.gd hD
  have e2 : En W G1 (upd H1 D (.lst [])) σ ⟨sl, oL D r' [] :: ow s0⟩ := e1.cons fo (o := oL D r' []) rfl hD upd_same (e1.gd.free hD) ⟨[], rfl, .nil⟩ rfl
  have e3 := e2.lo'
  refine L2.lc_it w (fun i H => ∃ G s ys, En { W with lo := G1 } G H σ ⟨sl, oL D r' ys :: ow s⟩ ∧ I i s ys) ⟨G1, s0, [], e3, hI⟩ (fun i H hi ⟨G3, s, ys, e4, h4⟩ => hC G3 H ⟨e4.lo, e4.gd, fun b hb => absurd hb (by simp)⟩) ?_ ?_
  · rintro i v H3 H4 hi ⟨G3, s, ys, e4, h4⟩ y
    obtain ⟨x, hx⟩ : ∃ x, l[i]? = some x := ⟨l[i], by simp [hi]⟩
    have hm : x ∈ l := List.mem_of_getElem? hx
    obtain ⟨G4, f4, rv⟩ := hY i x hx G3 H3 v H4 ⟨e4.lo, e4.gd, fun b hb => absurd hb (by simp)⟩ y
    obtain ⟨ws, hw, hq⟩ := hg x hm v G4 H4 f4.gd rv
    refine hq _ _ ?_
    have e5 := (e4.step f4).slots (hw.sl ((e4.step f4).sl.wipe vs))
    refine ⟨?_, ?_⟩
    · rw [wipe_sets hw (hv x), wipe_wipe σ vs vs fun _ h => h]
    simp only [tYes, ↓reduceIte]
    refine he { W with lo := G4 } rfl rfl rfl _ i s ys x hx h4 _ G4 H4 e5.lo' _ fun u G5 H5 s' y e6 ru h6 => ?_
    obtain ⟨h, q1, q2, us, q3, q4⟩ := e6.ow _ List.mem_cons_self
    have q1 : H5 D = some h := q1
    rw [q3] at q1
    refine ⟨us, q1, ?_, G5, s', ys ++ [y], ?_, h6⟩
    · have a1 := q4.length
      have a2 := hlen i s ys h4
      have := sizeLine_eq
      omega
    · have e7 := e6.write (j := 0) (o := oL D r' ys) (o' := oL D r' (ys ++ [y])) (h := .lst (us ++ [u])) rfl rfl rfl (fun z => nomatch z) ⟨_, rfl, q4.snoc (Go.go ru)⟩
      have up : In G3 G5 := fun b o hb => e6.lo b o (f4.gg b o hb)
      have e8 := e7.slots (e4.sl.up up)
      exact ⟨e8.toEo, e8.fz, fun b o hb => up b o (e4.lo b o hb), e8.ok, e8.nd⟩
  · rintro H3 ⟨G3, s, ys, e4, h4⟩
    exact hQ D s ys G3 H3 ⟨e4.toEo, e4.fz, fun b o h => e4.lo b o (f1.gg b o (e.lo b o h)), e4.ok, e4.nd⟩ h4
/-- the script: ints that are only read -/
def rSc (K : PySem.W.Frag) : Rl (List Int) := fun G H v ns => ∃ a, v = .ref a ∧ SqL K G a (ns.map V.int)
theorem sqL_up {a : Addr} {vs : List V} (h : SqL K G a vs) (z : In G G') : SqL K G' a vs := by
  rcases h with (h | ⟨o, h⟩) | h
  · exact .inl (.inl (z _ _ h))
  · exact .inl (.inr ⟨o, z _ _ h⟩)
  · exact .inr h
instance : Go (rSc K) := ⟨fun h => h, fun ⟨a, e, h⟩ z => ⟨a, e, sqL_up h z⟩⟩
theorem ev_lenS {ns : List Int} (h : EvR te σ G H (rSc K) ns) : EvR (tCB (fun vs H Q => ∃ p ys, vs = [.ref p] ∧ (SqL K H p ys ∨ SqT K H p ys) ∧ Q (.int ys.length) H) (tCons te tNil)) σ G H rN ns.length := fun G1 H1 f Q q =>
  h G1 H1 f _ fun v G2 H2 f2 e => by
    obtain ⟨a, rfl, ha⟩ := e
    exact ⟨a, _, rfl, .inl (sqL_up ha f2.gd.sub), q _ G2 H2 f2 (by rw [List.length_map]; rfl)⟩
theorem ev_gS {ns : List Int} {k : Nat} (ha : EvR ta σ G H (rSc K) ns) (hb : EvR tb σ G H rN k) (h1 : k < ns.length) : EvR (tOp (rIxL K) ta tb) σ G H rI (ns.getD k 0) :=
  ev_op ha hb fun u v G1 H1 f hu hv Q q => by
    obtain ⟨a, rfl, ha⟩ := hu
    refine ⟨a, _, _, .int (ns.getD k 0), rfl, hv, sqL_up ha f.gd.sub, atI_nat (j := k) ?_, q _ G1 H1 (Fz.refl f.gd) rfl⟩
    rw [List.getElem?_map, getD_some (d := (0 : Int)) h1]
    rfl
theorem s_join {V : TS} (Γj : δ → Ct) (J : δ → Prop) (hn : ∀ s, J s → Nx W (U D) (Γj s)) (hm : (∀ s, J s → Nx W (U D) (Γj s)) → Nx W (tSeq V U D) Γ) : Nx W (tSeq V U D) Γ := hm hn
theorem callW_run {P : ι → AP} {pre : ι → Hp → Hp → Prop} {S : ι → List Addr} {post : ι → Hp → Hp → Hp → V → Prop} {E : XK} {Q : VK} (e : En W G H σ Γ) (i : ι) (ha : EvA tA σ G H (P i)) (hp : ∀ G H, En W G H σ Γ → pre i G H)
    (n : ∀ v G H G' H', En W G H σ Γ → FzS (S i) G H G' H' → post i H G' H' v → Q v H') : tCall (spW P pre S post) [] E tA σ H Q :=
  ha G H (Fz.refl e.gd) _ fun vs G1 H1 f p => ⟨i, G1, f.gd, by rw [List.append_nil]; exact p, hp G1 H1 (e.step f), fun v G' H' f' q => n v G1 H1 G' H' (e.step f) f' q⟩
/-- an own list, as a callee wants it -/
theorem En.lst [Go r] (e : En W G H σ Γ) {j : Nat} {a : Addr} {k : Kd} (hj : Γ.ow[j]? = some (oL a r xs k)) (hk : k ≠ .ro) : ∃ vs, H a = some (.lst vs) ∧ G a = none ∧ Al (r G H) vs xs := by
  obtain ⟨h, h1, h2, vs, h3, h4⟩ := e.ow _ (List.mem_of_getElem? hj)
  rw [h3] at h1
  exact ⟨vs, h1, h2 hk, h4.imp fun _ _ q => Go.go q⟩
theorem cb1_of {rr : List V → Hp → VK → Prop} {Q : VK} (h : te σ H fun x H1 => rr [x] H1 Q) : tCB rr (tCons te tNil) σ H Q := h
theorem ret_of (h : te σ H D.rt) : tRet te D σ H := h
theorem asg_of {i : Nat} (h : te σ H fun x H1 => D.nx (σ.set i (some x)) H1) : tAsg te (gName i) D σ H := h
theorem sasg_of {i : Nat} (h : te σ H fun x H1 => U D (σ.set i (some x)) H1) : tSeq (tAsg te (gName i)) U D σ H := h
end
end Dg
end
section
set_option Elab.async false
set_option linter.all false
set_option maxRecDepth 100000
set_option maxHeartbeats 4000000
/-! Many lists of one's own. -/
namespace Dg
open PySem PySem.Spec PyProof.Rows L2
section
variable {K : PySem.W.Frag} {G H G' H' G1 H1 : Hp} {σ : L2.St} {Γ Γ' : Ct} {α : Type} {r : Rl α} {W : Wd} {sl : List Ent} {pre : List Own}
theorem En.perm {ow' : List Own} (e : En W G H σ Γ) (hp : Γ.ow.Perm ow') : En W G H σ ⟨Γ.sl, ow'⟩ where
  gd := e.gd
  sl := e.sl
  ow o ho := e.ow o (hp.mem_iff.mpr ho)
  fz := e.fz
  lo := e.lo
  ok o ho := e.ok o (hp.mem_iff.mpr ho)
  nd := (hp.map Own.a).nodup_iff.mp e.nd
def owns (r : Rl α) [Go r] (l : List (Addr × List α)) : List Own := l.map fun q => oL q.1 r q.2
/-- all of them stay from now on -/
theorem En.keepAll [Go r] : ∀ {l : List (Addr × List α)} {G : Hp}, En W G H σ ⟨sl, pre ++ owns r l⟩ → ∃ G', En W G' H σ ⟨sl, pre⟩ ∧ In G G' ∧ ∀ q ∈ l, ∃ vs, G' q.1 = some (.lst vs) ∧ Al (r G' G') vs q.2
  | [], G, e => ⟨G, by
    have q := e
    unfold owns at q
    rw [List.map_nil, List.append_nil] at q
    exact q, fun _ _ h => h, fun q hq => absurd hq (by simp)⟩
  | (a, xs) :: l, G, e => by
    have e1 : En { W with lo := G } G H σ ⟨sl, oL a r xs :: (pre ++ owns r l)⟩ := (e.lo'.perm (by
      show (pre ++ owns r ((a, xs) :: l)).Perm _
      unfold owns
      rw [List.map_cons]
      exact List.perm_middle))
    obtain ⟨G1, h, e2, g1, vs, rfl, t⟩ := e1.keep (j := 0) rfl rfl fun ps ⟨vs, z, _⟩ => nomatch z
    have up : In G G1 := e2.lo
    have e3 : En W G1 H σ ⟨sl, pre ++ owns r l⟩ := ⟨e2.toEo, e2.fz, fun b o hb => up b o (e.lo b o hb), e2.ok, e2.nd⟩
    obtain ⟨G2, e4, up2, all⟩ := En.keepAll e3
    refine ⟨G2, e4, fun b o hb => up2 b o (up b o hb), fun q hq => ?_⟩
    rcases List.mem_cons.mp hq with rfl | hq
    · exact ⟨vs, up2 _ _ g1, t.imp fun _ _ w => Go.to w up2⟩
    · exact all q hq
end
end Dg
end
section
set_option Elab.async false
set_option linter.all false
set_option maxRecDepth 100000
set_option maxHeartbeats 4000000
/-! Nested defs made: their code objects stay; the table of code objects as one's own. -/
namespace Dg
open PySem PySem.Spec PyProof.Rows L2 LamX NdefX
theorem upd_swap {H : Hp} {a b : Addr} {x y : HO} (h : a ≠ b) : upd (upd H a x) b y = upd (upd H b y) a x := by
  funext c
  by_cases ca : c = a
  · subst ca
    rw [upd_ne h, upd_same, upd_same]
  · by_cases cb : c = b
    · subst cb
      rw [upd_same, upd_ne ca, upd_same]
    · rw [upd_ne cb, upd_ne ca, upd_ne ca, upd_ne cb]
/-- «def x(..): ..» within a def: its code object is the table's, or a new one -/
def tNew (T : Addr) (q : Str) (at_ : Pos) (i : Nat) (mk : Addr → NF) : TS := fun D σ H => ∃ tb : Array Value, H T = some (.tbl tb) ∧ TriplesOk tb.toList ∧
  (∀ z, codeAmong at_ tb.toList = some z → ∃ k, z = .ref k ∧ H k = some (CodeO k q)) ∧
  (codeAmong at_ tb.toList = none → ∀ k f, H k = none → H f = none → k ≠ f → D.nx (σ.set i (some (.ref f))) (upd (upd (upd H k (CodeO k q)) f (FnO f (mk k))) T (.tbl (tb ++ #[rawInt at_.line, rawInt at_.col, .ref k])))) ∧
  (∀ k, codeAmong at_ tb.toList = some (.ref k) → ∀ f, H f = none → D.nx (σ.set i (some (.ref f))) (upd H f (FnO f (mk k))))
section
variable {X : Cx}
theorem ps_new {st : Stmt} {T c : Addr} {x q : Str} {at_ : Pos} {i : Nat} (shape : st = .FunctionDef x (C8.fnArgs st) (C8.fnBody st) [] none [] (C8.fnScope st) none x at_) (B : TabB X.base X.mg c T) (code : X.env.code = .ref c)
    (seen : ∀ y ∈ (C8.fnScope st).names, y.2 = .free → X.env.scope.names.lookup y.1 = some .cell ∨ X.env.scope.names.lookup y.1 = some .free)
    (d0 : (C8.fnArgs st).defaults = []) (k0 : (C8.fnArgs st).kw_defaults = []) (an : annTrees (C8.fnArgs st) none X.env = []) (nd : X.N.Nodup) (here : X.N[i]? = some x) (loc : Loc X.env.scope x) (fnl : X.fn x = true ∨ X.env.scope.names.lookup x = some .local) (hq : X.env.qual ++ x = q) :
    PS X st (tNew T q at_ i (NF.of st x q (cloFrom X.env.cells (C8.fnScope st).names []))) := by
  subst hq
  generalize hA : C8.fnArgs st = ar at shape d0 k0 an
  generalize hB : C8.fnBody st = bo at shape
  generalize hS : C8.fnScope st = sc at shape seen
  have eF : NF.of st x (X.env.qual ++ x) (cloFrom X.env.cells sc.names []) = fun k => ⟨x, X.env.qual ++ x, ar, bo, sc, cloFrom X.env.cells sc.names [], k⟩ := by
    funext k
    unfold NF.of
    rw [hA, hB, hS]
  rw [eF]
  clear eF hA hB hS
  subst shape
  refine ⟨fun pins s σ H D I hyp => ?_⟩
  obtain ⟨tb, hT, ok, old, fresh, again⟩ := hyp
  have cells : ∀ y ∈ sc.names, y.2 = .free → ∃ a, X.env.cells.lookup y.1 = some a := fun y hy e => by
    rcases seen y hy e with z | z
    · exact I.ok.has _ (.inl z)
    · exact I.ok.has _ (.inr z)
  have hname : qualnameIn X.env x x = X.env.qual ++ x := by
    have both : X.env.kindOf x = some .local ∨ X.env.kindOf x = some .cell := loc
    unfold qualnameIn
    cases both with
    | inl z => rw [z] <;> rfl
    | inr z => rw [z] <;> rfl
  have tobj := I.hok T _ hT
  have atB := B.bm.keeps I.bk
  refine PySem.W.nestDef_K d0 k0 an ?_
  rw [hname]
  cases among : codeAmong at_ tb.toList with
  | none =>
    refine PySem.W.makeFunction_K (s := s) (mg := X.mg) (c := c) (P := T) (ps := tb) (closure_ok cells) I.ok.glob (I.mod.glob.keeps I.bk) code (B.code.keeps I.bk) tobj ok among B.gP atB ?_
    intro k ctv doc h2 t2 grow lo hi rec tab2
    obtain ⟨k', obj, us, tk, ek, a1, a2, a3⟩ := rec
    cases ek
    have Hk : H k = none := I.hok.fresh lo
    have ne1 : T ≠ k := ne_of_none hT Hk
    have I1 := inv_table (more := #[rawInt at_.line, rawInt at_.col, .ref k]) (h' := h2) (t' := t2) I hT (fun b o nb ob => grow b o nb ob) tab2 lo ⟨obj, us, tk, a1, a2, a3⟩
    have I2 := inv_fn (t' := t2) (doc := doc) (pm := (X.mg "__name__").getD .none) (ctv := ctv) (F := ⟨x, X.env.qual ++ x, ar, bo, sc, cloFrom X.env.cells sc.names [], k⟩) I1 rfl
    have Hf : H h2.objs.size = none := I.hok.fresh (Nat.le_trans lo (Nat.le_of_lt hi))
    have ne2 : k ≠ h2.objs.size := Nat.ne_of_lt hi
    have ne3 : T ≠ h2.objs.size := ne_of_none hT Hf
    have eH : upd (upd (upd H k (CodeO k (X.env.qual ++ x))) h2.objs.size (FnO h2.objs.size ⟨x, X.env.qual ++ x, ar, bo, sc, cloFrom X.env.cells sc.names [], k⟩)) T (.tbl (tb ++ #[rawInt at_.line, rawInt at_.col, .ref k])) = upd (upd (upd H T (.tbl (tb ++ #[rawInt at_.line, rawInt at_.col, .ref k]))) k (CodeO k (X.env.qual ++ x))) h2.objs.size (FnO h2.objs.size ⟨x, X.env.qual ++ x, ar, bo, sc, cloFrom X.env.cells sc.names [], k⟩) := by
      rw [upd_swap (fun z => ne3 z.symm), upd_swap (fun z => ne1 z.symm)]
    have fin := fresh among k h2.objs.size Hk Hf ne2
    rw [eH] at fin
    exact store_ok I2 nd here loc (v := .ref h2.objs.size) rfl (fun s3 J => ⟨_, _, J, fin⟩) fnl
  | some z =>
    obtain ⟨k, ez, Hk⟩ := old z among
    subst ez
    refine PySem.W.makeFunction_hit (s := s) (mg := X.mg) (c := c) (P := T) (ps := tb) (closure_ok cells) I.ok.glob (I.mod.glob.keeps I.bk) code (B.code.keeps I.bk) tobj ok among atB ?_
    intro ctv doc h2 t2 grow lo
    have I1 : Inv X pins σ H { s with heap := h2, toks := t2 } := I.kept grow
    have Hf : H h2.objs.size = none := I1.hok.fresh (Nat.le_refl _)
    have I2 := inv_fn (t' := t2) (doc := doc) (pm := (X.mg "__name__").getD .none) (ctv := ctv) (F := ⟨x, X.env.qual ++ x, ar, bo, sc, cloFrom X.env.cells sc.names [], k⟩) I1 rfl
    exact store_ok I2 nd here loc (v := .ref h2.objs.size) rfl (fun s3 J => ⟨_, _, J, again k among h2.objs.size Hf⟩) fnl
end
/-- the table of code objects, as one's own -/
def oT (T : Addr) (nm : Nat → Nat → Str) : Own := ⟨T, .par, fun G h => ∃ tb : Array Value, h = .tbl tb ∧ TriplesOk tb.toList ∧ ∀ (q : Pos) (z : Value), codeAmong q tb.toList = some z → ∃ k, z = .ref k ∧ G k = some (CodeO k (nm q.line q.col)), fun ⟨tb, e, o, a⟩ u => ⟨tb, e, o, fun q z m => by
  obtain ⟨k, e1, e2⟩ := a q z m
  exact ⟨k, e1, u _ _ e2⟩⟩⟩
/-- a function made here, its code object -/
def rFn (mk : Addr → NF) : Rl Unit := fun G _ v _ => ∃ f k, v = .ref f ∧ G f = some (FnO f (mk k)) ∧ G (mk k).c = some (CodeO (mk k).c (mk k).qual)
instance {mk : Addr → NF} : Go (rFn mk) := ⟨fun h => h, fun ⟨f, k, e, a, b⟩ u => ⟨f, k, e, u _ _ a, u _ _ b⟩⟩
section
variable {W : Wd} {Γ : Ct} {D : Ends} {U : TS} {T : Addr} {nm : Nat → Nat → Str} {q : Str} {at_ : Pos} {i : Nat} {mk : Addr → NF}
theorem codeO_tbl {c : Addr} {s : Str} (ps : Array Value) : CodeO c s ≠ .tbl ps := fun z => by
  unfold CodeO at z
  cases z
theorem s_new (j : Nat) (hj : Γ.ow[j]? = some (oT T nm)) (hq : nm at_.line at_.col = q) (hc : ∀ k, (mk k).c = k) (hm : ∀ k, (mk k).qual = q) (n : Nx W (U D) (Γ.put i (eR (rFn mk) ()))) : Nx W (tSeq (tNew T q at_ i mk) U D) Γ := fun σ G H e => by
  obtain ⟨h, h1, h2, tb, eh, ok, all⟩ := e.ow _ (List.mem_of_getElem? hj)
  have h1 : H T = some h := h1
  have h2 : G T = none := h2 (fun z => nomatch z)
  rw [eh] at h1
  refine ⟨tb, h1, ok, fun z hz => ?_, fun none_ k f Hk Hf ne => ?_, fun k some_ f Hf => ?_⟩
  · obtain ⟨k, e1, e2⟩ := all at_ z hz
    rw [hq] at e2
    exact ⟨k, e1, e.gd.sub _ _ e2⟩
  · have z1 := Fz.new (o := CodeO k q) e.gd Hk codeO_tbl
    have Hf2 : upd H k (CodeO k q) f = none := by rw [upd_ne (fun z => ne z.symm)]; exact Hf
    have z2 := Fz.new (o := FnO f (mk k)) z1.gd Hf2 fnO_ne
    have e2 := (e.step z1).step z2
    have gk : (upd (upd G k (CodeO k q)) f (FnO f (mk k))) k = some (CodeO k q) := by rw [upd_ne ne, upd_same]
    have e3 := e2.write (j := j) (o' := oT T nm) (h := .tbl (tb ++ #[rawInt at_.line, rawInt at_.col, .ref k])) hj rfl rfl (fun z => nomatch z) (by
      have eL : (tb ++ #[rawInt at_.line, rawInt at_.col, .ref k]).toList = tb.toList ++ [rawInt at_.line, rawInt at_.col, .ref k] := by simp
      refine ⟨_, rfl, by rw [eL]; exact PySem.TriplesOk_snoc _ _ _ _ ok, fun p z hz => ?_⟩
      rw [eL] at hz
      rcases among_app2 _ ok hz with old | ⟨rfl, l1, l2⟩
      · obtain ⟨k', a1, a2⟩ := all p z old
        exact ⟨k', a1, z2.gg _ _ (z1.gg _ _ a2)⟩
      · exact ⟨k, rfl, by rw [← l1, ← l2, hq]; exact gk⟩)
    have same : Γ.putO j (oT T nm) = Γ := by
      show (⟨Γ.sl, Dg.putO Γ.ow j (oT T nm)⟩ : Ct) = Γ
      have go : ∀ (l : List Own) (j : Nat), l[j]? = some (oT T nm) → Dg.putO l j (oT T nm) = l := by
        intro l
        induction l with
        | nil => intro j _; rfl
        | cons u l ih =>
          intro j hj
          cases j with
          | zero => rw [show u = oT T nm from Option.some.inj hj]; rfl
          | succ j => exact congrArg (u :: ·) (ih j hj)
      rw [go _ _ hj]
    rw [same] at e3
    refine n _ _ _ (e3.slots (e3.sl.put i (eR (rFn mk) ()) ⟨_, rfl, f, k, rfl, upd_same, ?_⟩))
    rw [hc, hm]
    exact gk
  · obtain ⟨k', e1, e2⟩ := all at_ _ some_
    cases e1
    rw [hq] at e2
    have z2 := Fz.new (o := FnO f (mk k)) e.gd Hf fnO_ne
    have e3 := e.step z2
    refine n _ _ _ (e3.slots (e3.sl.put i (eR (rFn mk) ()) ⟨_, rfl, f, k, rfl, upd_same, ?_⟩))
    rw [hc, hm]
    exact z2.gg _ _ e2
end
end Dg
end
section
set_option Elab.async false
set_option linter.all false
set_option maxRecDepth 100000
set_option maxHeartbeats 4000000
/-! Nested defs handed to a def, called there: the callee runs over a base that holds their cells. -/
namespace Dg
open PySem PySem.Spec PyProof.Rows L2 LamX NdefX
/-- the captured cells stand in the base, and hold ws -/
structure BaseCells (base : Heap) (cl : List (Str × Addr)) (fr : List Str) (ws : List (Option V)) : Prop where
  len : ws.length = fr.length
  all : ∀ y c, cl.lookup y = some c → ∃ v, base.IsCell c v
  inj : ∀ x y c, cl.lookup x = some c → cl.lookup y = some c → x = y
  has : ∀ (i : Nat) (y : Str), fr[i]? = some y → ∃ c, cl.lookup y = some c ∧ ∀ v, ws[i]? = some (some v) → ∃ u, L2.RelV v u ∧ base.IsCell c (some u)
theorem BaseCells.now {X : Cx} {pins : List (Addr × Obj)} {σ : L2.St} {H : Hp} {s : Shared} {cl : List (Str × Addr)} {fr : List Str} {ws : List (Option V)} (B : BaseCells X.base cl fr ws) (I : Inv X pins σ H s) : CellsAt cl fr ws s.heap H where
  len := B.len
  all y c e := by
    obtain ⟨v, o, ho, hd⟩ := B.all y c e
    obtain ⟨k, n⟩ := I.bs c o ho
    exact ⟨n, v, o, k, hd⟩
  inj := B.inj
  has i y e := by
    obtain ⟨c, hc, hv⟩ := B.has i y e
    refine ⟨c, hc, fun v ev => ?_⟩
    obtain ⟨u, r, o, ho, hd⟩ := hv v ev
    exact ⟨u, r, o, (I.bs c o ho).1, hd⟩
/-- a call of a name that holds a nested def whose cells stand in the base -/
def tClo (mk : Addr → NF) (i : Nat) (sp : Sp) (t : TA) : TE := fun σ H Q => ∃ f c', σ[i]? = some (some (.ref f)) ∧ H f = some (FnO f (mk c')) ∧
  t σ H fun vs H1 => H1 f = some (FnO f (mk c')) ∧ H1 (mk c').c = some (CodeO (mk c').c (mk c').qual) ∧ sp vs H1 Q E0
section
variable {X : Cx} {mk : Addr → NF} {cl : List (Str × Addr)} {ps fr : List Str} {ws : List (Option V)} {i j k : Nat} {x : Str} {sp : List (Option V) → Sp} {t : TA} {e : Expr} {es : List Expr} {p pos : Pos}
theorem pe_clo (B : BaseCells X.base cl fr ws) (hcl : ∀ c', (mk c').cl = cl) (Fn : ∀ f c', NOk X.prog X.w X.K X.mg X.base CX0 k f (mk c') ps fr sp) (hr : Room j X.A) (hk : k ≤ j) (hN : X.N[i]? = some x) (hv : Vis X.env.scope x) (ha : PA X (e :: es) t)
    (hd : (x == ("__debug__" : Str)) = false := by decide) (hcd : (x == ("__classdict__" : Str)) = false := by decide)
    (he : starEach (e :: es) X.env = (false, eval e X.env) :: starEach es X.env := by rfl) (hpl : (backTo pos (starEach es X.env)).any (·.1) = false := by rfl) :
    PE X (.Call (.Name x p) (e :: es) [] pos) (tClo mk i (sp ws) t) := by
  refine ⟨fun pins s σ H Q I h => ?_⟩
  obtain ⟨f, c', hs, hf, ht⟩ := h
  refine wpAny_Call_Name_kw (thn ((pe_var (pos := p) hN hv hd hcd).run pins s σ H (fun v H1 => v = .ref f ∧ H1 = H) I ⟨.ref f, hs, rfl, rfl⟩) fun u s1 ⟨v, H1, I1, r1, ev, eH⟩ => ?_)
  subst ev
  rw [eH] at I1
  obtain rfl : u = Value.ref f := r1
  refine PySem.W.callWith_F (first := []) (fnAt_of I1 hf) (thn (ha.run pos pins s1 σ H _ I1 ht) fun us s2 ⟨vs, H2, I2, r, h1, h2, q⟩ => ⟨fnAt_of I2 h1, ?_⟩) he hpl
  show wpAny _ _ (call (.ref f) us) _ _ _
  have C : CellsAt (mk c').cl fr ws s2.heap H2 := by
    rw [hcl c']
    exact B.now I2
  refine wpAny_call (codeAny_mono ((Fn f c').run X.A X.stack s2 H2 us vs ws Q E0 (hr.mono hk) I2.env0 h1 h2 C r q) fun res s' hq => ?_)
  cases res with
  | error e => exact False.elim hq
  | ok fl =>
    cases fl with
    | ret u => exact I2.after hq
    | next => exact False.elim hq
    | brk => exact False.elim hq
    | cont => exact False.elim hq
end
/-! ### a call whose callee runs over a greater base -/
section
variable {X : Cx} {pins : List (Addr × Obj)} {σ : L2.St} {H : Hp} {s : Shared}
/-- all that is not tracked, and no frame's -/
def wideBase (X : Cx) (h : Heap) (H : Hp) : Heap := PySem.W.hideAll h (trk h H ++ frs X.stack)
theorem wide_get {b : Addr} {o : Obj} (e : s.heap.get? b = some o) (n : H b = none) (f : b ∉ frs X.stack) : (wideBase X s.heap H).get? b = some o :=
  PySem.W.hideAll_get _ e fun hm => by
    rcases List.mem_append.mp hm with hm | hm
    · have q : (H b).isSome = true := (List.mem_filter.mp hm).2
      rw [n] at q
      cases q
    · exact f hm
theorem wide_of {b : Addr} {o : Obj} (e : (wideBase X s.heap H).get? b = some o) : s.heap.get? b = some o ∧ H b = none ∧ b ∉ frs X.stack := by
  have e' : s.heap.get? b = some o := PySem.W.of_hideAll _ e
  have nm : b ∉ trk s.heap H ++ frs X.stack := fun hm => by
    have z : (wideBase X s.heap H).get? b = none := PySem.W.hideAll_none _ hm
    rw [z] at e
    cases e
  refine ⟨e', ?_, fun z => nm (List.mem_append_right _ z)⟩
  cases q : H b with
  | none => rfl
  | some u => exact (nm (List.mem_append_left _ (List.mem_filter.mpr ⟨List.mem_range.mpr (Heap.lt_size e'), by rw [q]; rfl⟩))).elim
theorem base_in_wide (I : Inv X pins σ H s) {b : Addr} {o : Obj} (e : X.base.get? b = some o) : (wideBase X s.heap H).get? b = some o := by
  obtain ⟨k, n⟩ := I.bs b o e
  refine wide_get k n fun hb => ?_
  rcases List.mem_cons.mp (I.stkSub b hb) with z | z
  · have l := Nat.lt_of_lt_of_le (Heap.lt_size e) (Nat.le_trans I.ok.bsz I.ok.above)
    rw [z] at l
    exact Nat.lt_irrefl _ l
  · exact I.ok.nofr e z
theorem frames_wide {base base' h : Heap} : ∀ {l : List Env}, (∀ b ∈ frs l, base'.get? b = none) → h.FunFrames base l → h.FunFrames base' l
  | [], _, _ => trivial
  | env :: r, hn, ⟨hk, ⟨L, o, hf, _, ho, hd⟩, hr⟩ => by
    have e : frs (env :: r) = L :: frs r := by
      unfold frs
      rw [List.filterMap_cons, hf]
    rw [e] at hn
    exact ⟨hk, ⟨L, o, hf, hn L List.mem_cons_self, ho, hd⟩, frames_wide (fun b hb => hn b (List.mem_cons_of_mem _ hb)) hr⟩
theorem env_wide (I : Inv X pins σ H s) : Env0 X.prog X.w X.K X.mg (wideBase X s.heap H) X.A X.stack s H where
  frames := I.ok.frames
  mod := by
    have k : ∀ b o, X.base.get? b = some o → (wideBase X s.heap H).get? b = some o := fun b o e => base_in_wide I e
    obtain ⟨mb, h1, h2⟩ := I.mod.blt
    exact ⟨I.mod.kin.keeps k, I.mod.glob.keeps k, ⟨mb, h1.keeps k, h2⟩, I.mod.nolimit.keeps k⟩
  bs b o e := ⟨(wide_of e).1, (wide_of e).2.1⟩
  bsz := Nat.le_of_eq (PySem.W.hideAll_size _ _)
  funs := frames_wide (fun b hb => PySem.W.hideAll_none _ (List.mem_append_right _ hb)) I.stack
  frf := I.stkFree
  hok := I.hok
  bare := I.bare
theorem cells_wide {cl : List (Str × Addr)} {fr : List Str} {js : List Nat} (I : Inv X pins σ H s) (hfn : ∀ y, X.fn y = true) (c : Caps X cl fr js) : BaseCells (wideBase X s.heap H) cl fr (js.map (slotAt σ)) := by
  have C := cells_of I c
  have nf : ∀ y a, cl.lookup y = some a → a ∉ frs X.stack := fun y a e hb => by
    have e' := c.sub y a e
    rcases List.mem_cons.mp (I.stkSub a hb) with z | z
    · exact I.cne y a e' z
    · obtain ⟨_, o, ho, _⟩ := I.ok.funs.mem z
      exact absurd (Nat.lt_of_lt_of_le (Heap.lt_size ho) (I.ok.cab y a (hfn y) e')) (Nat.lt_irrefl _)
  refine ⟨C.len, fun y a e => ?_, C.inj, fun i y e => ?_⟩
  · obtain ⟨n, v, o, ho, hd⟩ := C.all y a e
    exact ⟨v, o, wide_get ho n (nf y a e), hd⟩
  · obtain ⟨a, ha, hv⟩ := C.has i y e
    refine ⟨a, ha, fun v ev => ?_⟩
    obtain ⟨u, r, o, ho, hd⟩ := hv v ev
    exact ⟨u, r, o, wide_get ho (C.all y a ha).1 (nf y a ha), hd⟩
end
/-- captured cells: the list, the names, their slots -/
abbrev Cap : Type := List (Str × Addr) × List Str × List Nat
def tCallW (sp : L2.St → Sp) (t : TA) : TE := fun σ H Q => t σ H fun vs H1 => sp σ vs H1 Q E0
theorem pe_callW {X : Cx} {k : Nat} {f : Addr} {fd : FuncData} {ps : List Str} {sp : L2.St → Sp} {caps : List Cap} {x : Str} {p pos : Pos} {e : Expr} {es : List Expr} {t : TA}
    (F : ∀ (base' : Heap) (σ : L2.St), X.K.In base' → base'.Ns mainGlobals X.mg → (∀ q ∈ caps, BaseCells base' q.1 q.2.1 (q.2.2.map (slotAt σ))) → FnOk X.prog X.w X.K X.mg base' CX0 k f fd ps (sp σ))
    (hfn : ∀ y, X.fn y = true) (cp : ∀ q ∈ caps, X.Ok → Caps X q.1 q.2.1 q.2.2) (hr : Room k X.A) (hg : Gl X x) (hm : X.mg x = some (.ref f)) (hk : PySem.W.keepIn X.K (.ref f) = true) (hb : Binds X.K fd ps [])
    (ha : PA X (e :: es) t) (hdb : (x == ("__debug__" : Str)) = false := by decide) (he : starEach (e :: es) X.env = (false, eval e X.env) :: starEach es X.env := by rfl) (hpl : (backTo pos (starEach es X.env)).any (·.1) = false := by rfl) :
    PE X (.Call (.Name x p) (e :: es) [] pos) (tCallW sp t) := by
  refine ⟨fun pins s σ H Q I h => ?_⟩
  refine wpAny_Call_Name_kw (ld_glob I hg hm ?_ hdb)
  refine PySem.W.callWith_K (h₀ := X.base) I.ok.mod.kin hk (thn (ha.run pos pins s σ H _ I h) fun us s1 ⟨vs, H1, I1, r, q⟩ => ⟨I1.kIn, ?_⟩) he hpl
  have E' := env_wide I1
  have F' := F (wideBase X s1.heap H1) σ E'.mod.kin E'.mod.glob (fun c hc => cells_wide I1 hfn (cp c hc I1.ok))
  have hl : (us ++ []).length = ps.length := by
    rw [List.append_nil, ← r.length]
    exact F'.len _ _ _ _ q
  have hb' := hb s1 us I1.kIn hl
  rw [List.append_nil] at hb'
  show wpAny _ _ (call (.ref f) us) _ _ _
  refine wpAny_call (codeAny_mono (F'.run X.A X.stack s1 H1 ⟨us, []⟩ us vs Q E0 hr E' hb' r q) fun res s' hq => ?_)
  cases res with
  | error e => exact False.elim hq
  | ok fl =>
    cases fl with
    | ret u => exact I1.after hq
    | next => exact False.elim hq
    | brk => exact False.elim hq
    | cont => exact False.elim hq
end Dg
end
section
set_option Elab.async false
set_option linter.all false
set_option maxRecDepth 100000
set_option maxHeartbeats 4000000
/-! A nested def of one parameter, which is a cell (a comprehension of its body reads it). -/
namespace Dg
open PySem PySem.Spec PyProof.Rows L2 LamX NdefX
/-- x the parameter and only cell, fr the captured names -/
structure CellScope (N : List Str) (x : Str) (fr : List Str) (sc : Scope) : Prop where
  kind : sc.kind = .function
  co : sc.isCoroutine = false
  gen : sc.isGenerator = false
  nd : N.Nodup
  pre : N.take (1 + fr.length) = x :: fr
  par : sc.names.lookup x = some .cell
  one : ∀ y ∈ sc.names, y.2 = .cell → y.1 = x
  free : ∀ y ∈ sc.names, y.2 = .free → y.1 ∈ fr
  frk : ∀ y ∈ fr, sc.names.lookup y = some .free
  cells : ∀ (n : Nat) (acc : List (Str × Addr)), cellsFrom n sc.names acc = (x, n) :: acc
  push : ∀ h : Heap, pushCells h sc.names = h.push { cls := .type "cell", data := .cell none }
abbrev envU (F : NF) (x : Str) (f L : Addr) : Env := PySem.W.envX F.qual F.scope L f (.ref F.c) ((x, L + 1) :: F.cl)
def ucx (P : Program) (w : World) (K : PySem.W.Frag) (mg : Str → Option Value) (base : Heap) (N : List Str) (F : NF) (x : Str) (f : Addr) (A : Around) (outer : List Env) (s : Shared) (H : Hp) : Cx where
  prog := P
  w := w
  K := K
  mg := mg
  base := base
  A := A.deeper (envU F x f s.heap.objs.size)
  N := N
  s_0 := s
  H_0 := H
  env := envU F x f s.heap.objs.size
  outer := outer
  stack := envU F x f s.heap.objs.size :: outer
  ex := []
  calm := true
  fn := fun _ => false
  pn := []
  xe := fun _ _ => False
theorem nok_cell {P : Program} {w : World} {K : PySem.W.Frag} {mg : Str → Option Value} {base : Heap} {N fr : List Str} {x : Str} {F : NF} {f : Addr} {k : Nat} {sp : List (Option V) → Sp} (S : CellScope N x fr F.scope)
    (hb : ∀ (doc pm ctv : Value) (us : List Value), us.length = 1 → bindArgs (F.fd doc pm ctv) ⟨us, []⟩ = pure ([x].zip us)) (len : ∀ ws vs H Q E, sp ws vs H Q E → vs.length = 1)
    (hbody : ∀ (A : Around) (outer : List Env) (s : Shared) (H : Hp) (v : V) (ws : List (Option V)) (Q : VK) (E : XK), Room k (A.deeper (envU F x f s.heap.objs.size)) → ws.length = fr.length → sp ws [v] H Q E →
      ∃ t, PSs (ucx P w K mg base N F x f A outer s H) F.body t ∧ t { nx := fun _ H' => Q .non H', rt := Q } (some v :: (ws ++ List.replicate (N.length - 1 - ws.length) none)) H) :
    NOk P w K mg base CX0 (k + 1) f F [x] fr sp := by
  refine ⟨len, fun A outer s H us vs ws Q E hr e0 hf hc C r hsp => ?_⟩
  have hl := len _ _ _ _ _ hsp
  obtain ⟨v, rfl⟩ : ∃ v, vs = [v] := by
    cases vs with
    | nil => cases hl
    | cons a b =>
      cases b with
      | nil => exact ⟨a, rfl⟩
      | cons c d => cases hl
  obtain ⟨u, rfl, ru⟩ := vals1 r
  have lim : s.heap.NoLimit := e0.mod.nolimit.keeps fun b o e => (e0.bs b o e).1
  obtain ⟨od, sl, doc, pm, ctv, ho⟩ := fnO_at e0.hok hf
  refine codeAny_call_function hr.depth ho rfl S.co S.gen rfl (codeO_at e0.hok hc) ?_
  rw [hb doc pm ctv [u] rfl]
  refine wpAny_pure ?_
  show wpAny _ _ (newFunctionEnv F.scope mainGlobals F.cl [(x, u)] _ _ _ none builtinsNs) _ _ s
  simp only [newFunctionEnv, Option.isSome_none, Bool.false_eq_true, if_false]
  refine wpAny_bind (wpAny_alloc ?_)
  refine wpAny_bind (wpAny_layCells _ (fun name kind cells => by cases hkc : kind == NameKind.cell <;> simp [hkc]) _ _ _ _ ?_)
  have z1 : (s.heap.push { cls := .type "frame", data := .dict #[] }).objs.size = s.heap.objs.size + 1 := Heap.size_push ..
  rw [show ({ s with heap := s.heap.push { cls := .type "frame", data := .dict #[] } } : Shared).heap.objs.size = s.heap.objs.size + 1 from z1, S.cells, S.push]
  -- the heap with the frame and the cell
  generalize hh : ((s.heap.push { cls := .type "frame", data := .dict #[] }).push { cls := .type "cell", data := .cell none }) = h1
  have hcell : h1.IsCell (s.heap.objs.size + 1) none := by
    rw [← hh]
    have q := Heap.get?_push_size (s.heap.push { cls := .type "frame", data := .dict #[] }) (o := { cls := .type "cell", data := .cell none }) rfl
    rw [z1] at q
    exact ⟨_, q, rfl⟩
  have hns1 : h1.Ns s.heap.objs.size (fun _ => none) := by
    rw [← hh]
    exact (Heap.Ns.new s.heap (.type "frame")).keeps fun b o e => Heap.get?_push_of_some _ e
  have kp1 : ∀ b o, s.heap.get? b = some o → h1.get? b = some o := fun b o e => by
    rw [← hh]
    exact Heap.get?_push_of_some _ (Heap.get?_push_of_some _ e)
  refine wpAny_bind ?_
  rw [List.forIn_cons]
  have look : (envU F x f s.heap.objs.size).cells.lookup x = some (s.heap.objs.size + 1) := by
    show ((x, s.heap.objs.size + 1) :: F.cl).lookup x = _
    rw [List.lookup_cons, beq_self_eq_true]
  refine wpAny_bind (wpAny_bind (wpAny_storeName_cell (env := envU F x f s.heap.objs.size) S.kind S.par look hcell fun h2 hc2 hs2 => wpAny_pure ?_))
  show wpAny _ _ (forIn [] _ _) _ _ _
  rw [List.forIn_nil]
  refine wpAny_pure (wpAny_pure ?_)
  have kp : ∀ b o, s.heap.get? b = some o → h2.get? b = some o := fun b o e => (hs2.2 b (fun z => by
    have l := Heap.lt_size e
    rw [z] at l
    exact absurd l (Nat.not_lt.mpr (Nat.le_succ _)))).trans (kp1 b o e)
  have hns : h2.Ns s.heap.objs.size (fun _ => none) := hns1.sameBut hs2 (Nat.ne_of_lt (Nat.lt_succ_self _))
  refine ⟨lim.keeps kp, ?_⟩
  show codeAny _ _ (.func F.body (envU F x f s.heap.objs.size)) _ _
  refine codeAny_func ?_
  obtain ⟨t, ht, hq⟩ := hbody A outer s H v ws Q E (hr.deeper _) C.len hsp
  have cellK : ∀ {c : Addr} {q : Option Value}, s.heap.IsCell c q → h2.IsCell c q := fun {c q} ⟨o, ho, hd⟩ => ⟨o, kp _ _ ho, hd⟩
  have old : ∀ y c, F.cl.lookup y = some c → c < s.heap.objs.size := fun y c e => by
    obtain ⟨_, q, o, ho, _⟩ := C.all y c e
    exact Heap.lt_size ho
  have looks : ∀ y c, (envU F x f s.heap.objs.size).cells.lookup y = some c → (y = x ∧ c = s.heap.objs.size + 1) ∨ (y ≠ x ∧ F.cl.lookup y = some c) := fun y c e => by
    have e' : ((x, s.heap.objs.size + 1) :: F.cl).lookup y = some c := e
    rw [List.lookup_cons] at e'
    cases q : y == x with
    | true =>
      rw [q] at e'
      exact .inl ⟨eq_of_beq q, (Option.some.inj e').symm⟩
    | false =>
      rw [q] at e'
      refine .inr ⟨fun z => ?_, e'⟩
      rw [z, beq_self_eq_true] at q
      cases q
  have lookF : ∀ y ∈ fr, ∀ c, F.cl.lookup y = some c → (envU F x f s.heap.objs.size).cells.lookup y = some c := fun y hy c e => by
    have ne : y ≠ x := fun z => by
      have k1 := S.frk y hy
      rw [z, S.par] at k1
      cases k1
    show ((x, s.heap.objs.size + 1) :: F.cl).lookup y = some c
    rw [List.lookup_cons, beq_eq_false_iff_ne.mpr ne]
    exact e
  have npos : 1 + fr.length ≤ N.length := by
    have q := congrArg List.length S.pre
    rw [List.length_take, List.length_cons] at q
    omega
  have noA : ∀ b : Addr, b ∉ (ucx P w K mg base N F x f A outer s H).ex := fun b z => absurd (show b ∈ ([] : List Addr) from z) (by simp)
  have I : Inv (ucx P w K mg base N F x f A outer s H) [] (some v :: (ws ++ List.replicate (N.length - 1 - ws.length) none)) H { s with heap := h2 } := by
    refine ⟨⟨e0.mod, S.kind, rfl, rfl, Nat.le_refl _, fun y z c h1 h2 => ?_, fun y hy => ?_, fun y c z _ => ?_, fun _ => hr.hd, Around.frames_deeper e0.frames, .inr ⟨rfl, rfl⟩, fun b z => absurd z (noA b), e0.bs, e0.bsz, fun b _ _ => noA b, fun b z => absurd z (noA b), e0.funs, e0.frf⟩,
      rfl, e0.bare, Un.kept kp, ⟨_, hns, fun i y v' e1 e2 e3 => ?_⟩, fun y c e => ?_, e0.hok.fresh (Nat.le_refl _), fun y c e => ?_, fun q hq => absurd (show q ∈ ([] : List (Addr × Obj)) ++ [] from hq) (by simp), e0.hok.kept kp, ?_⟩
    · rcases looks y c h1 with ⟨a1, a2⟩ | ⟨a1, a2⟩
      · rcases looks z c h2 with ⟨b1, _⟩ | ⟨_, b2⟩
        · rw [a1, b1]
        · have l := old z c b2
          rw [a2] at l
          exact absurd l (Nat.not_lt.mpr (Nat.le_succ _))
      · rcases looks z c h2 with ⟨_, b2⟩ | ⟨_, b2⟩
        · have l := old y c a2
          rw [b2] at l
          exact absurd l (Nat.not_lt.mpr (Nat.le_succ _))
        · exact C.inj y z c a2 b2
    · have hy : F.scope.names.lookup y = some .cell ∨ F.scope.names.lookup y = some .free := hy
      rcases hy with hy | hy
      · have e := S.one _ (PySem.mem_of_lookup hy) rfl
        have e : y = x := e
        rw [e]
        exact ⟨_, look⟩
      · have hm := S.free _ (PySem.mem_of_lookup hy) rfl
        obtain ⟨i, hi⟩ := List.mem_iff_getElem?.mp hm
        obtain ⟨c, hc, _⟩ := C.has i y hi
        exact ⟨c, lookF y hm c hc⟩
    · have z : false = true := z
      cases z
    · have e1 : N[i]? = some y := e1
      cases i with
      | zero =>
        have hv : v = v' := Option.some.inj (Option.some.inj e2)
        have ey : y = x := by
          have q : (N.take (1 + fr.length))[0]? = some y := by
            rw [List.getElem?_take_of_lt (by omega)]
            exact e1
          rw [S.pre] at q
          exact (Option.some.inj q).symm
        rw [← hv, ey]
        exact ⟨u, ru, .inr ⟨.inl S.par, _, look, hc2⟩⟩
      | succ i =>
        have e2 : (ws ++ List.replicate (N.length - 1 - ws.length) none)[i]? = some (some v') := e2
        have clen := C.len
        by_cases hi : i < ws.length
        · rw [List.getElem?_append_left hi] at e2
          have q : (N.take (1 + fr.length))[i + 1]? = some y := by
            rw [List.getElem?_take_of_lt (by omega)]
            exact e1
          rw [S.pre, List.getElem?_cons_succ] at q
          obtain ⟨c, hc, hv⟩ := C.has i y q
          obtain ⟨u', ru', hu'⟩ := hv v' e2
          exact ⟨u', ru', .inr ⟨.inr (S.frk y (List.mem_of_getElem? q)), c, lookF y (List.mem_of_getElem? q) c hc, cellK hu'⟩⟩
        · rw [List.getElem?_append_right (by omega), List.getElem?_replicate] at e2
          split at e2 <;> cases e2
    · rcases looks y c e with ⟨_, a2⟩ | ⟨_, a2⟩
      · rw [a2]
        exact ⟨_, hc2⟩
      · obtain ⟨_, q, z⟩ := C.all y c a2
        exact ⟨q, cellK z⟩
    · rcases looks y c e with ⟨_, a2⟩ | ⟨_, a2⟩
      · rw [a2]
        exact e0.hok.fresh (Nat.le_succ _)
      · exact (C.all y c a2).1
    · have clen := C.len
      show _ = N.length
      rw [List.length_cons, List.length_append, List.length_replicate]
      omega
  refine wpAny_mono (ht.run [] _ _ H _ I hq) (fun fl s' hs => ?_) fun e s' hs => False.elim hs
  have fin : ∀ {σ' : L2.St} {H' : Hp} {v : V} {u : Value}, Inv (ucx P w K mg base N F x f A outer s H) [] σ' H' s' → L2.RelV v u → Q v H' → CE outer P w H s Q u s' :=
    fun {σ' H' v u} J rv q => ⟨v, H', J.os, J.bare, J.base, J.hok, rv, q⟩
  cases fl with
  | ret u =>
    obtain ⟨v, σ', H', J, rv, q⟩ := hs
    exact fin J rv q
  | next =>
    obtain ⟨σ', H', J, q⟩ := hs
    exact fin (v := V.non) (u := Value.none) J rfl q
  | brk =>
    obtain ⟨_, _, _, q⟩ := hs
    exact False.elim q
  | cont =>
    obtain ⟨_, _, _, q⟩ := hs
    exact False.elim q
end Dg
end
section
set_option Elab.async false
set_option linter.all false
set_option maxRecDepth 100000
set_option maxHeartbeats 4000000
/-! What the head tells, as one thing. -/
namespace Dg
open PySem PySem.Spec PyProof.Rows L2
def top (i : Nat) : Stmt := PySem.Challenge.pw_digitroots_k38_whole_fulfilled.main.body.getD i (.Pass ⟨0, 0, 0, 0⟩)
abbrev FnP (K : PySem.W.Frag) (x : Str) (st : Stmt) (f : Addr) (fd : FuncData) : Prop := FunD K x x (defArgs st) (defBody st) (defScope st) [] [] f fd
/-- what the head tells -/
structure Hd (K : PySem.W.Frag) (mg : Str → Option Value) where
  b_len : mg "len" = none
  b_list : mg "list" = none
  b_tuple : mg "tuple" = none
  b_int : mg "int" = none
  b_sum : mg "sum" = none
  b_any : mg "any" = none
  b_max : mg "max" = none
  b_min : mg "min" = none
  b_abs : mg "abs" = none
  b_range : mg "range" = none
  b_enumerate : mg "enumerate" = none
  b_zip : mg "zip" = none
  c_MOST_FAR : ∃ t, mg "MOST_FAR" = some (.int 32 t)
  C : Addr
  g_Space : mg "Space" = some (.ref C)
  cC : Cls K C
  na_prime : NoAttr K C "prime"
  na_many : NoAttr K C "many"
  na_lines : NoAttr K C "lines"
  f_s_init : Addr
  fd_s_init : FuncData
  F_s_init : FunD K "__init__" "Space.__init__" (defArgs (inClass (top 15) 0)) (defBody (inClass (top 15) 0)) (defScope (inClass (top 15) 0)) [] [] f_s_init fd_s_init
  f_s_brought_down : Addr
  fd_s_brought_down : FuncData
  F_s_brought_down : FunD K "brought_down" "Space.brought_down" (defArgs (inClass (top 15) 1)) (defBody (inClass (top 15) 1)) (defScope (inClass (top 15) 1)) [] [] f_s_brought_down fd_s_brought_down
  mt_brought_down : Meth K C "brought_down" f_s_brought_down
  f_s_mix_of : Addr
  fd_s_mix_of : FuncData
  F_s_mix_of : FunD K "mix_of" "Space.mix_of" (defArgs (inClass (top 15) 2)) (defBody (inClass (top 15) 2)) (defScope (inClass (top 15) 2)) [] [] f_s_mix_of fd_s_mix_of
  mt_mix_of : Meth K C "mix_of" f_s_mix_of
  f_s_take : Addr
  fd_s_take : FuncData
  F_s_take : FunD K "take" "Space.take" (defArgs (inClass (top 15) 3)) (defBody (inClass (top 15) 3)) (defScope (inClass (top 15) 3)) [] [] f_s_take fd_s_take
  mt_take : Meth K C "take" f_s_take
  mkC : Mk K C f_s_init
  f_back_of : Addr
  fd_back_of : FuncData
  g_back_of : mg "back_of" = some (.ref f_back_of)
  F_back_of : FnP K "back_of" (top 4) f_back_of fd_back_of
  f_trimmed : Addr
  fd_trimmed : FuncData
  g_trimmed : mg "trimmed" = some (.ref f_trimmed)
  F_trimmed : FnP K "trimmed" (top 5) f_trimmed fd_trimmed
  f_added : Addr
  fd_added : FuncData
  g_added : mg "added" = some (.ref f_added)
  F_added : FnP K "added" (top 6) f_added fd_added
  f_multiplied : Addr
  fd_multiplied : FuncData
  g_multiplied : mg "multiplied" = some (.ref f_multiplied)
  F_multiplied : FnP K "multiplied" (top 7) f_multiplied fd_multiplied
  f_part_taken : Addr
  fd_part_taken : FuncData
  g_part_taken : mg "part_taken" = some (.ref f_part_taken)
  F_part_taken : FnP K "part_taken" (top 8) f_part_taken fd_part_taken
  f_spread_out : Addr
  fd_spread_out : FuncData
  g_spread_out : mg "spread_out" = some (.ref f_spread_out)
  F_spread_out : FnP K "spread_out" (top 9) f_spread_out fd_spread_out
  f_led : Addr
  fd_led : FuncData
  g_led : mg "led" = some (.ref f_led)
  F_led : FnP K "led" (top 11) f_led fd_led
  f_summed : Addr
  fd_summed : FuncData
  g_summed : mg "summed" = some (.ref f_summed)
  F_summed : FnP K "summed" (top 12) f_summed fd_summed
  f_column_led : Addr
  fd_column_led : FuncData
  g_column_led : mg "column_led" = some (.ref f_column_led)
  F_column_led : FnP K "column_led" (top 13) f_column_led fd_column_led
  f_keeper_table : Addr
  fd_keeper_table : FuncData
  g_keeper_table : mg "keeper_table" = some (.ref f_keeper_table)
  F_keeper_table : FnP K "keeper_table" (top 16) f_keeper_table fd_keeper_table
  f_columns_of : Addr
  fd_columns_of : FuncData
  g_columns_of : mg "columns_of" = some (.ref f_columns_of)
  F_columns_of : FnP K "columns_of" (top 17) f_columns_of fd_columns_of
  f_least_table : Addr
  fd_least_table : FuncData
  g_least_table : mg "least_table" = some (.ref f_least_table)
  F_least_table : FnP K "least_table" (top 18) f_least_table fd_least_table
  f_power_of : Addr
  fd_power_of : FuncData
  g_power_of : mg "power_of" = some (.ref f_power_of)
  F_power_of : FnP K "power_of" (top 21) f_power_of fd_power_of
  f_step_polys : Addr
  fd_step_polys : FuncData
  g_step_polys : mg "step_polys" = some (.ref f_step_polys)
  F_step_polys : FnP K "step_polys" (top 22) f_step_polys fd_step_polys
  f_spread_polys : Addr
  fd_spread_polys : FuncData
  g_spread_polys : mg "spread_polys" = some (.ref f_spread_polys)
  F_spread_polys : FnP K "spread_polys" (top 23) f_spread_polys fd_spread_polys
  f_row_by_square : Addr
  fd_row_by_square : FuncData
  g_row_by_square : mg "row_by_square" = some (.ref f_row_by_square)
  F_row_by_square : FnP K "row_by_square" (top 24) f_row_by_square fd_row_by_square
  f_rows_by_powers : Addr
  fd_rows_by_powers : FuncData
  g_rows_by_powers : mg "rows_by_powers" = some (.ref f_rows_by_powers)
  F_rows_by_powers : FnP K "rows_by_powers" (top 25) f_rows_by_powers fd_rows_by_powers
  f_how_often : Addr
  fd_how_often : FuncData
  g_how_often : mg "how_often" = some (.ref f_how_often)
  F_how_often : FnP K "how_often" (top 26) f_how_often fd_how_often
  f_less_often : Addr
  fd_less_often : FuncData
  g_less_often : mg "less_often" = some (.ref f_less_often)
  F_less_often : FnP K "less_often" (top 27) f_less_often fd_less_often
  f_brought_down : Addr
  fd_brought_down : FuncData
  g_brought_down : mg "brought_down" = some (.ref f_brought_down)
  F_brought_down : FnP K "brought_down" (top 28) f_brought_down fd_brought_down
  f_relation_of : Addr
  fd_relation_of : FuncData
  g_relation_of : mg "relation_of" = some (.ref f_relation_of)
  F_relation_of : FnP K "relation_of" (top 29) f_relation_of fd_relation_of
  f_begun_by_some : Addr
  fd_begun_by_some : FuncData
  g_begun_by_some : mg "begun_by_some" = some (.ref f_begun_by_some)
  F_begun_by_some : FnP K "begun_by_some" (top 30) f_begun_by_some fd_begun_by_some
  f_powers_of : Addr
  fd_powers_of : FuncData
  g_powers_of : mg "powers_of" = some (.ref f_powers_of)
  F_powers_of : FnP K "powers_of" (top 31) f_powers_of fd_powers_of
  f__law_bag : Addr
  fd__law_bag : FuncData
  g__law_bag : mg "_law_bag" = some (.ref f__law_bag)
  F__law_bag : FnP K "_law_bag" (top 33) f__law_bag fd__law_bag
  f__law_take : Addr
  fd__law_take : FuncData
  g__law_take : mg "_law_take" = some (.ref f__law_take)
  F__law_take : FnP K "_law_take" (top 34) f__law_take fd__law_take
  f__law_back : Addr
  fd__law_back : FuncData
  g__law_back : mg "_law_back" = some (.ref f__law_back)
  F__law_back : FnP K "_law_back" (top 35) f__law_back fd__law_back
  f__law_numbers : Addr
  fd__law_numbers : FuncData
  g__law_numbers : mg "_law_numbers" = some (.ref f__law_numbers)
  F__law_numbers : FnP K "_law_numbers" (top 36) f__law_numbers fd__law_numbers
  f__law_drawn_table : Addr
  fd__law_drawn_table : FuncData
  g__law_drawn_table : mg "_law_drawn_table" = some (.ref f__law_drawn_table)
  F__law_drawn_table : FnP K "_law_drawn_table" (top 37) f__law_drawn_table fd__law_drawn_table
  f__law_trimmed : Addr
  fd__law_trimmed : FuncData
  g__law_trimmed : mg "_law_trimmed" = some (.ref f__law_trimmed)
  F__law_trimmed : FnP K "_law_trimmed" (top 38) f__law_trimmed fd__law_trimmed
  f__law_part : Addr
  fd__law_part : FuncData
  g__law_part : mg "_law_part" = some (.ref f__law_part)
  F__law_part : FnP K "_law_part" (top 39) f__law_part fd__law_part
  f__law_times : Addr
  fd__law_times : FuncData
  g__law_times : mg "_law_times" = some (.ref f__law_times)
  F__law_times : FnP K "_law_times" (top 40) f__law_times fd__law_times
  f__law_plus : Addr
  fd__law_plus : FuncData
  g__law_plus : mg "_law_plus" = some (.ref f__law_plus)
  F__law_plus : FnP K "_law_plus" (top 41) f__law_plus fd__law_plus
  f__law_woven : Addr
  fd__law_woven : FuncData
  g__law_woven : mg "_law_woven" = some (.ref f__law_woven)
  F__law_woven : FnP K "_law_woven" (top 42) f__law_woven fd__law_woven
  f__law_spread : Addr
  fd__law_spread : FuncData
  g__law_spread : mg "_law_spread" = some (.ref f__law_spread)
  F__law_spread : FnP K "_law_spread" (top 43) f__law_spread fd__law_spread
  f__law_sum_row : Addr
  fd__law_sum_row : FuncData
  g__law_sum_row : mg "_law_sum_row" = some (.ref f__law_sum_row)
  F__law_sum_row : FnP K "_law_sum_row" (top 44) f__law_sum_row fd__law_sum_row
  f__law_left : Addr
  fd__law_left : FuncData
  g__law_left : mg "_law_left" = some (.ref f__law_left)
  F__law_left : FnP K "_law_left" (top 45) f__law_left fd__law_left
  f__law_is_nought : Addr
  fd__law_is_nought : FuncData
  g__law_is_nought : mg "_law_is_nought" = some (.ref f__law_is_nought)
  F__law_is_nought : FnP K "_law_is_nought" (top 46) f__law_is_nought fd__law_is_nought
  f__law_fulfils : Addr
  fd__law_fulfils : FuncData
  g__law_fulfils : mg "_law_fulfils" = some (.ref f__law_fulfils)
  F__law_fulfils : FnP K "_law_fulfils" (top 47) f__law_fulfils fd__law_fulfils
  f_law : Addr
  fd_law : FuncData
  g_law : mg "law" = some (.ref f_law)
  F_law : FnP K "law" (top 48) f_law fd_law
end Dg
end
section
set_option Elab.async false
set_option linter.all false
set_option maxRecDepth 100000
set_option maxHeartbeats 4000000
/-! The plain defs: polynomials. -/
namespace Dg
open PySem PySem.Spec PyProof.Rows L2

abbrev sp_back_of : Sp := spF (ι := (Int) × (Int)) (fun t => (aC rI t.1 (aC rI t.2 aN))) (fun t => (fun (p : Int) (number : Int) => Pm p ∧ 0 ≤ number ∧ number < p ∧ number ≠ 0) (t.1) (t.2)) rN (fun t => (fun (p : Int) (number : Int) => back p number) (t.1) (t.2))
theorem ev_back_of {σ : L2.St} {G H : Hp} {ta : TA} {E : XK} {p : Int} {number : Int} (ha : EvA ta σ G H (aC rI p (aC rI number aN))) (hp : Pm p ∧ 0 ≤ number ∧ number < p ∧ number ≠ 0) : EvR (tCall sp_back_of [] E ta) σ G H rN (back p number) := ev_call (p, number) ha hp
abbrev sp_trimmed : Sp := spE (spF (ι := (List (Int))) (fun t => (aC (rR rI) t aN)) (fun t => (fun (numbers : List (Int)) => numbers.length ≤ 100000) (t)) (rT rI) (fun t => (fun (numbers : List (Int)) => trim numbers) (t))) (spF (ι := (List (Int))) (fun t => (aC (rT rI) t aN)) (fun t => (fun (numbers : List (Int)) => numbers.length ≤ 100000) (t)) (rT rI) (fun t => (fun (numbers : List (Int)) => trim numbers) (t)))
theorem ev_trimmedL {σ : L2.St} {G H : Hp} {ta : TA} {E : XK} {numbers : List (Int)} (ha : EvA ta σ G H (aC (rR rI) numbers aN)) (hp : numbers.length ≤ 100000) : EvR (tCall sp_trimmed [] E ta) σ G H (rT rI) (trim numbers) := ev_callL numbers ha hp
theorem ev_trimmedR {σ : L2.St} {G H : Hp} {ta : TA} {E : XK} {numbers : List (Int)} (ha : EvA ta σ G H (aC (rT rI) numbers aN)) (hp : numbers.length ≤ 100000) : EvR (tCall sp_trimmed [] E ta) σ G H (rT rI) (trim numbers) := ev_callR numbers ha hp
abbrev sp_added : Sp := spF (ι := (Int) × (List (Int)) × (List (Int)) × (Int)) (fun t => (aC rI t.1 (aC (rT rI) t.2.1 (aC (rT rI) t.2.2.1 (aC rI t.2.2.2 aN))))) (fun t => (fun (p : Int) (one : List (Int)) (other : List (Int)) (often : Int) => Pm p ∧ one.length ≤ 50000 ∧ other.length ≤ 50000 ∧ Nm p other) (t.1) (t.2.1) (t.2.2.1) (t.2.2.2)) (rT rI) (fun t => (fun (p : Int) (one : List (Int)) (other : List (Int)) (often : Int) => add p often one other) (t.1) (t.2.1) (t.2.2.1) (t.2.2.2))
theorem ev_added {σ : L2.St} {G H : Hp} {ta : TA} {E : XK} {p : Int} {one : List (Int)} {other : List (Int)} {often : Int} (ha : EvA ta σ G H (aC rI p (aC (rT rI) one (aC (rT rI) other (aC rI often aN))))) (hp : Pm p ∧ one.length ≤ 50000 ∧ other.length ≤ 50000 ∧ Nm p other) : EvR (tCall sp_added [] E ta) σ G H (rT rI) (add p often one other) := ev_call (p, one, other, often) ha hp
abbrev sp_multiplied : Sp := spF (ι := (Int) × (List (Int)) × (List (Int))) (fun t => (aC rI t.1 (aC (rT rI) t.2.1 (aC (rT rI) t.2.2 aN)))) (fun t => (fun (p : Int) (one : List (Int)) (other : List (Int)) => Pm p ∧ one.length ≤ 50000 ∧ other.length ≤ 50000 ∧ Nm p other) (t.1) (t.2.1) (t.2.2)) (rT rI) (fun t => (fun (p : Int) (one : List (Int)) (other : List (Int)) => mul p one other) (t.1) (t.2.1) (t.2.2))
theorem ev_multiplied {σ : L2.St} {G H : Hp} {ta : TA} {E : XK} {p : Int} {one : List (Int)} {other : List (Int)} (ha : EvA ta σ G H (aC rI p (aC (rT rI) one (aC (rT rI) other aN)))) (hp : Pm p ∧ one.length ≤ 50000 ∧ other.length ≤ 50000 ∧ Nm p other) : EvR (tCall sp_multiplied [] E ta) σ G H (rT rI) (mul p one other) := ev_call (p, one, other) ha hp
abbrev sp_part_taken : Sp := spF (ι := (Int) × (List (Int)) × (Nat)) (fun t => (aC rI t.1 (aC (rT rI) t.2.1 (aC rN t.2.2 aN)))) (fun t => (fun (p : Int) (poly : List (Int)) (r : Nat) => Pm p ∧ poly.length ≤ 100000) (t.1) (t.2.1) (t.2.2)) (rT rI) (fun t => (fun (p : Int) (poly : List (Int)) (r : Nat) => part p poly r) (t.1) (t.2.1) (t.2.2))
theorem ev_part_taken {σ : L2.St} {G H : Hp} {ta : TA} {E : XK} {p : Int} {poly : List (Int)} {r : Nat} (ha : EvA ta σ G H (aC rI p (aC (rT rI) poly (aC rN r aN)))) (hp : Pm p ∧ poly.length ≤ 100000) : EvR (tCall sp_part_taken [] E ta) σ G H (rT rI) (part p poly r) := ev_call (p, poly, r) ha hp
abbrev sp_spread_out : Sp := spF (ι := (Int) × (List (Int))) (fun t => (aC rI t.1 (aC (rT rI) t.2 aN))) (fun t => (fun (p : Int) (poly : List (Int)) => Pm p ∧ poly.length ≤ 10000) (t.1) (t.2)) (rT rI) (fun t => (fun (p : Int) (poly : List (Int)) => spread p.toNat poly) (t.1) (t.2))
theorem ev_spread_out {σ : L2.St} {G H : Hp} {ta : TA} {E : XK} {p : Int} {poly : List (Int)} (ha : EvA ta σ G H (aC rI p (aC (rT rI) poly aN))) (hp : Pm p ∧ poly.length ≤ 10000) : EvR (tCall sp_spread_out [] E ta) σ G H (rT rI) (spread p.toNat poly) := ev_call (p, poly) ha hp
abbrev sp_led : Sp := spF (ι := (Int) × (List (Int)) × (List (List (Int)))) (fun t => (aC rI t.1 (aC (rT rI) t.2.1 (aC (rT (rT rI)) t.2.2 aN)))) (fun t => (fun (p : Int) (vector : List (Int)) (step : List (List (Int))) => Pm p ∧ vector.length ≤ 100 ∧ Nm p vector ∧ ∀ row ∈ step, row.length ≤ 100) (t.1) (t.2.1) (t.2.2)) (rT rI) (fun t => (fun (p : Int) (vector : List (Int)) (step : List (List (Int))) => led p vector step) (t.1) (t.2.1) (t.2.2))
theorem ev_led {σ : L2.St} {G H : Hp} {ta : TA} {E : XK} {p : Int} {vector : List (Int)} {step : List (List (Int))} (ha : EvA ta σ G H (aC rI p (aC (rT rI) vector (aC (rT (rT rI)) step aN)))) (hp : Pm p ∧ vector.length ≤ 100 ∧ Nm p vector ∧ ∀ row ∈ step, row.length ≤ 100) : EvR (tCall sp_led [] E ta) σ G H (rT rI) (led p vector step) := ev_call (p, vector, step) ha hp
abbrev sp_summed : Sp := spF (ι := (Int) × (List (Int)) × (List (Int))) (fun t => (aC rI t.1 (aC (rT rI) t.2.1 (aC (rT rI) t.2.2 aN)))) (fun t => (fun (p : Int) (vector : List (Int)) (column : List (Int)) => Pm p ∧ vector.length ≤ 1000 ∧ Nm p vector) (t.1) (t.2.1) (t.2.2)) rI (fun t => (fun (p : Int) (vector : List (Int)) (column : List (Int)) => summed p vector column) (t.1) (t.2.1) (t.2.2))
theorem ev_summed {σ : L2.St} {G H : Hp} {ta : TA} {E : XK} {p : Int} {vector : List (Int)} {column : List (Int)} (ha : EvA ta σ G H (aC rI p (aC (rT rI) vector (aC (rT rI) column aN)))) (hp : Pm p ∧ vector.length ≤ 1000 ∧ Nm p vector) : EvR (tCall sp_summed [] E ta) σ G H rI (summed p vector column) := ev_call (p, vector, column) ha hp
abbrev sp_column_led : Sp := spF (ι := (Int) × (List (List (Int))) × (List (Int))) (fun t => (aC rI t.1 (aC (rT (rT rI)) t.2.1 (aC (rT rI) t.2.2 aN)))) (fun t => (fun (p : Int) (step : List (List (Int))) (column : List (Int)) => Pm p ∧ step.length ≤ 1000 ∧ ∀ row ∈ step, row.length ≤ 1000 ∧ Nm p row) (t.1) (t.2.1) (t.2.2)) (rT rI) (fun t => (fun (p : Int) (step : List (List (Int))) (column : List (Int)) => columnLed p step column) (t.1) (t.2.1) (t.2.2))
theorem ev_column_led {σ : L2.St} {G H : Hp} {ta : TA} {E : XK} {p : Int} {step : List (List (Int))} {column : List (Int)} (ha : EvA ta σ G H (aC rI p (aC (rT (rT rI)) step (aC (rT rI) column aN)))) (hp : Pm p ∧ step.length ≤ 1000 ∧ ∀ row ∈ step, row.length ≤ 1000 ∧ Nm p row) : EvR (tCall sp_column_led [] E ta) σ G H (rT rI) (columnLed p step column) := ev_call (p, step, column) ha hp
section
variable {P : Program} {w : World} {K : PySem.W.Frag} {mg : Str → Option Value} {base : Heap}


theorem trim_step {xs : List Int} {m : Nat} (h0 : 0 < m) (hm : m ≤ xs.length) (hz : xs.getD (m - 1) 0 = 0) : trimLen (xs.take (m - 1)) = trimLen (xs.take m) := by
  rw [take_split xs h0 hm, hz, trimLen_zero]
theorem trim_end {xs : List Int} {m : Nat} (hm : m ≤ xs.length) (hz : m = 0 ∨ xs.getD (m - 1) 0 ≠ 0) (e : trimLen (xs.take m) = trimLen xs) : xs.take m = trim xs := by
  unfold trim
  rw [← e]
  congr 1
  rcases hz with h | h
  · subst h
    rfl
  · by_cases h0 : 0 < m
    · rw [take_split xs h0 hm, trimLen_ne h, List.length_take]
      omega
    · have h0 : m = 0 := by omega
      subst h0
      rfl
theorem sc_trimmed : FnScope ["numbers", "many"] ["numbers"] (defScope (top 5)) := ⟨rfl, rfl, rfl, by decide +kernel, rfl, by decide +kernel, by decide +kernel⟩
theorem b_trimmed (h : Hd K mg) : Binds K h.fd_trimmed ["numbers"] [] := h.F_trimmed.bindsN fun _ _ _ _ _ _ us hl => match us, hl with | [_], _ => rfl
theorem ok_trimmed (h : Hd K mg) : FnOk P w K mg base CX0 1 h.f_trimmed h.fd_trimmed ["numbers"] sp_trimmed := by
  have nd := sc_trimmed.nd
  refine h.F_trimmed.ok sc_trimmed (fun vs H Q E h => ?_) (fun cdv A outer s H vs Q E hr hsp => ?_)
  · rcases h with ⟨i, G, _, ⟨v, ws, e, _, rfl⟩, _⟩ | ⟨i, G, _, ⟨v, ws, e, _, rfl⟩, _⟩ <;> (subst e; rfl)
  · rcases hsp with ⟨numbers, G, d, ⟨v, ws, rfl, ⟨a, us, rfl, ha, t⟩, rfl⟩, hl, q⟩ | hsp
    · refine ⟨_, PSs.nox (pss_cons (ps_set (i := 1) nd rfl (by first | exact .inl rfl | exact .inr rfl) (pe_callB (k_len (K := K) rfl) rfl h.b_len (by decide +kernel) (pa_cons (pv 0) pa_nil)))
    (pss_cons (ps_while PassesOwn.never (pt_w (pw_and (pt_cmpR op_gt (pv 1) pe_int (nomark _)) (pw_and1 (pt_cmpR op_eq (pe_ix (k_ixL (K := K) rfl) (pv 0) (pe_op op_sub (pv 1) pe_int) (fun _ _ => rfl)) pe_int (nomark _))))) (pss_one (ps_set (i := 1) nd rfl (by first | exact .inl rfl | exact .inr rfl) (pe_op op_sub (pv 1) pe_int))))
    (pss_one (ps_ret (pe_callTy (k_tuple (K := K) rfl) rfl h.b_tuple (by decide +kernel) (pa_cons (pe_slice (k_slL (K := K) rfl) (pv 0) po_none (po_some (pv 1))) pa_nil)))))), ?_⟩
      refine (?_ : Nx ⟨[], G, H, G⟩ _ ⟨[eR rA a, eAny], [oF a us rI numbers]⟩) _ G H (en_startF d ⟨⟨_, rfl, rfl⟩, trivial, trivial⟩ rfl ha t)
      refine nx_seq (nx_asg (fun e => (ev_lenN (lkF e 0 0 rfl rfl))) ?_)
      refine nx_seq (nx_while (ι := Nat) (fun m => ⟨[eR rA a, eR rN m], [oF a us rI numbers]⟩) (fun m => m ≤ numbers.length ∧ trimLen (numbers.take m) = trimLen numbers) id (fun m => decide (0 < m) && decide (numbers.getD ((m : Int) - 1).toNat 0 = 0)) numbers.length
        ⟨.same (.same .nil), List.Sublist.refl _⟩ ⟨Nat.le_refl _, by rw [List.take_length]⟩ (fun m hm {σ G H} e => (et_and (et_t (ev_gtN (lk e 1 rfl) (ev_litN 0))) fun hc => (et_t (ev_eqI (ev_gL (d := 0) (lkF e 0 0 rfl rfl) (ev_sub (ev_nI (lk e 1 rfl)) ev_i) ?_ ?_) ev_i)))) (fun W' _ _ _ m hm hb => ?_) (fun m hm hb => ?_))
      · have := of_decide_eq_true hc
        omega
      · have := of_decide_eq_true hc
        omega
      · rw [Bool.and_eq_true] at hb
        obtain ⟨h1, h2⟩ := hb
        have h1 := of_decide_eq_true h1
        have h2 := of_decide_eq_true h2
        rw [show ((m : Int) - 1).toNat = m - 1 by omega] at h2
        refine nx_asg (r := rN) (x := m - 1) (fun e => ev_nI' (ev_sub (ev_nI (lk e 1 rfl)) ev_i) (by omega)) (nx_endW (m - 1) ⟨.same (.same .nil), List.Sublist.refl _⟩ ⟨by omega, by rw [trim_step h1 hm.1 h2]; exact hm.2⟩ (show m - 1 < m by omega))
      · rw [Bool.and_eq_false_iff] at hb
        have hb : m = 0 ∨ numbers.getD (m - 1) 0 ≠ 0 := by
          rcases hb with hb | hb
          · have := of_decide_eq_false hb
            exact .inl (by omega)
          · have hb := of_decide_eq_false hb
            rcases Nat.eq_zero_or_pos m with hz | hz
            · exact .inl hz
            · rw [show ((m : Int) - 1).toNat = m - 1 by omega] at hb
              exact .inr hb
        refine nx_retP rfl (fun v G' H' f hv => q v G' H' f hv) (fun e => EvR.is (ev_tupleL (ev_takeL _ (lkF e 0 0 rfl rfl) (ev_nI (lk e 1 rfl)) ?_)) (trim_end hm.1 hb hm.2))
        rfl
    · refine ⟨_, PSs.nox (pss_cons (ps_set (i := 1) nd rfl (by first | exact .inl rfl | exact .inr rfl) (pe_callB (k_len (K := K) rfl) rfl h.b_len (by decide +kernel) (pa_cons (pv 0) pa_nil)))
    (pss_cons (ps_while PassesOwn.never (pt_w (pw_and (pt_cmpR op_gt (pv 1) pe_int (nomark _)) (pw_and1 (pt_cmpR op_eq (pe_ix (k_ixT (K := K) rfl) (pv 0) (pe_op op_sub (pv 1) pe_int) (fun _ _ => rfl)) pe_int (nomark _))))) (pss_one (ps_set (i := 1) nd rfl (by first | exact .inl rfl | exact .inr rfl) (pe_op op_sub (pv 1) pe_int))))
    (pss_one (ps_ret (pe_callTy (k_tuple (K := K) rfl) rfl h.b_tuple (by decide +kernel) (pa_cons (pe_slice (k_slT (K := K) rfl) (pv 0) po_none (po_some (pv 1))) pa_nil)))))), pure_run hsp fun numbers W D hl hS q => ?_⟩
      refine nx_seq (nx_asg (fun e => (ev_lenN (lk e 0 rfl))) ?_)
      refine nx_seq (nx_while (ι := Nat) (fun m => ⟨[eR (rT rI) numbers, eR rN m], []⟩) (fun m => m ≤ numbers.length ∧ trimLen (numbers.take m) = trimLen numbers) id (fun m => decide (0 < m) && decide (numbers.getD ((m : Int) - 1).toNat 0 = 0)) numbers.length
        ⟨.same (.same .nil), List.Sublist.refl _⟩ ⟨Nat.le_refl _, by rw [List.take_length]⟩ (fun m hm {σ G H} e => (et_and (et_t (ev_gtN (lk e 1 rfl) (ev_litN 0))) fun hc => (et_t (ev_eqI (ev_gT (d := 0) (lk e 0 rfl) (ev_sub (ev_nI (lk e 1 rfl)) ev_i) ?_ ?_) ev_i)))) (fun W' _ _ _ m hm hb => ?_) (fun m hm hb => ?_))
      · have := of_decide_eq_true hc
        omega
      · have := of_decide_eq_true hc
        omega
      · rw [Bool.and_eq_true] at hb
        obtain ⟨h1, h2⟩ := hb
        have h1 := of_decide_eq_true h1
        have h2 := of_decide_eq_true h2
        rw [show ((m : Int) - 1).toNat = m - 1 by omega] at h2
        refine nx_asg (r := rN) (x := m - 1) (fun e => ev_nI' (ev_sub (ev_nI (lk e 1 rfl)) ev_i) (by omega)) (nx_endW (m - 1) ⟨.same (.same .nil), List.Sublist.refl _⟩ ⟨by omega, by rw [trim_step h1 hm.1 h2]; exact hm.2⟩ (show m - 1 < m by omega))
      · rw [Bool.and_eq_false_iff] at hb
        have hb : m = 0 ∨ numbers.getD (m - 1) 0 ≠ 0 := by
          rcases hb with hb | hb
          · have := of_decide_eq_false hb
            exact .inl (by omega)
          · have hb := of_decide_eq_false hb
            rcases Nat.eq_zero_or_pos m with hz | hz
            · exact .inl hz
            · rw [show ((m : Int) - 1).toNat = m - 1 by omega] at hb
              exact .inr hb
        refine nx_retP hS q (fun e => EvR.is (ev_tupleT (ev_takeT _ (lk e 0 rfl) (ev_nI (lk e 1 rfl)) ?_)) (trim_end hm.1 hb hm.2))
        rfl

theorem mulOk {p x y : Int} (hp : Pm p) (h : 0 ≤ y ∧ y < p) : CMul x y := by
  have := hp.le
  exact Or.inr ⟨by omega, by omega⟩
theorem mulOkL {p x y : Int} (hp : Pm p) (h : 0 ≤ x ∧ x < p) : CMul x y := by
  have := hp.le
  exact Or.inl ⟨by omega, by omega⟩
theorem back_ne {p n : Int} (hp : Pm p) (h0 : 0 ≤ n) (h1 : n < p) (h2 : n ≠ 0) : 0 < (backL p n).length := by
  rcases hp with rfl | rfl | rfl
  · have : n = 1 := by omega
    subst this
    decide
  · have : n = 1 ∨ n = 2 := by omega
    rcases this with rfl | rfl <;> decide
  · have : n = 1 ∨ n = 2 ∨ n = 3 ∨ n = 4 := by omega
    rcases this with rfl | rfl | rfl | rfl <;> decide


theorem sc_back_of : FnScope ["p", "number", "other"] ["p", "number"] (defScope (top 4)) := ⟨rfl, rfl, rfl, by decide +kernel, rfl, by decide +kernel, by decide +kernel⟩
theorem b_back_of (h : Hd K mg) : Binds K h.fd_back_of ["p", "number"] [] := h.F_back_of.bindsN fun _ _ _ _ _ _ us hl => match us, hl with | [_, _], _ => rfl
theorem ok_back_of (h : Hd K mg) : FnOk P w K mg base CX0 1 h.f_back_of h.fd_back_of ["p", "number"] sp_back_of := by
  have nd := sc_back_of.nd
  refine h.F_back_of.ok sc_back_of (len_spF fun _ _ _ _ h => (ArgsE.sl h).1) (fun cdv A outer s H vs Q E hr hsp => ⟨_, PSs.nox
    (pss_one (ps_ret (pe_ix (k_ixL (K := K) rfl) (pe_lc rfl nd (pi_range1 rfl h.b_range (pa_cons (pv 0) pa_nil)) (blkOk_by (own := [("other", 2)]) (by kernel_rfl)) (fun _ _ _ _ _ => (by exact (pg_name (i := 2) nd rfl (by first | exact .inl rfl | exact .inr rfl)))) (fun _ _ _ _ _ => pts_one (pt_cmpR op_eq (pe_op op_mod (pe_op op_mul (pv 1) (pv 2)) (pv 0)) pe_int (nomark _))) (fun _ _ _ _ _ => (pv 2))) pe_int (fun _ _ => rfl)))), pure_run hsp fun t W D hp hS q => ?_⟩)
  obtain ⟨p, number⟩ := t
  dsimp only at hp q
  show Nx W _ ⟨[eR rI p, eR rI number, eAny], []⟩

  obtain ⟨hp, h0, h1, h2⟩ := hp
  have l5 := hp.le
  have p0 := hp.pos
  refine nx_retP hS q (fun e => (EvR.is (ev_gLn (d := 0) (en_lc e (ei_r1 (lk e 0 rfl) ?_ ?_) ?_ (fun x => [(2, eR rN x)]) (fun x hx => (tg_n 2)) (by simp) (fun x hx σ2 G2 H2 e2 => (et_t (ev_eqI (ev_mod (ev_mul (lk e2 1 rfl) (ev_nI (lk e2 2 rfl)) ?_) (lk e2 0 rfl) ?_) ev_i))) (fun x hx hk σ2 G2 H2 e2 => (lk e2 2 rfl))).ev (ev_litN 0) ?_) (by simp [back, backL])))
  · omega
  · omega
  · rw [List.length_range]; omega
  · exact mulOkL hp ⟨h0, h1⟩
  · exact p0
  · rw [List.map_id']; exact back_ne hp h0 h1 h2


theorem sc_added : FnScope ["p", "one", "other", "often", "found", "place", "number"] ["p", "one", "other", "often"] (defScope (top 6)) := ⟨rfl, rfl, rfl, by decide +kernel, rfl, by decide +kernel, by decide +kernel⟩
theorem b_added (h : Hd K mg) : Binds K h.fd_added ["p", "one", "other", "often"] [] := h.F_added.bindsN fun _ _ _ _ _ _ us hl => match us, hl with | [_, _, _, _], _ => rfl
theorem ok_added (h : Hd K mg) : FnOk P w K mg base CX0 2 h.f_added h.fd_added ["p", "one", "other", "often"] sp_added := by
  have nd := sc_added.nd
  refine h.F_added.ok sc_added (len_spF fun _ _ _ _ h => (ArgsE.sl h).1) (fun cdv A outer s H vs Q E hr hsp => ⟨_, PSs.nox
    (pss_cons (ps_set (i := 4) nd rfl (by first | exact .inl rfl | exact .inr rfl) (pe_op op_cat (pe_callTy (k_list (K := K) rfl) rfl h.b_list (by decide +kernel) (pa_cons (pv 1) pa_nil)) (pe_op op_rep (pe_lst (pa_cons pe_int pa_nil)) (pe_op op_sub (pe_callB (k_len (K := K) rfl) rfl h.b_len (by decide +kernel) (pa_cons (pv 2) pa_nil)) (pe_callB (k_len (K := K) rfl) rfl h.b_len (by decide +kernel) (pa_cons (pv 1) pa_nil))))))
    (pss_cons (ps_for PassesOwn.never rfl (k_piET (K := K) rfl rfl h.b_enumerate (pa_cons (pv 2) pa_nil)) (k_tup (K := K) (n := 2) rfl rfl (pgs_cons (pg_name (i := 5) nd rfl (by first | exact .inl rfl | exact .inr rfl)) (pgs_cons (pg_name (i := 6) nd rfl (by first | exact .inl rfl | exact .inr rfl)) pgs_nil))) (pss_one (ps_asg (pe_op op_mod (pe_op op_add (pe_ix (k_ixL (K := K) rfl) (pv 4) (pv 5) (fun _ _ => rfl)) (pe_op op_mul (pv 3) (pv 6))) (pv 0)) (pg_sub (pv 4) (pv 5) set_list))))
    (pss_one (ps_ret (pe_call (ok_trimmed h) (hr.mono (by decide)) rfl h.g_trimmed h.F_trimmed.kp (b_trimmed h) .nil pass0 (pa_cons (pv 4) pa_nil)))))), pure_run hsp fun t W D hp hS q => ?_⟩)
  obtain ⟨p, one, other, often⟩ := t
  dsimp only at hp q
  show Nx W _ ⟨[eR rI p, eR (rT rI) one, eR (rT rI) other, eR rI often, eAny, eAny, eAny], []⟩

  obtain ⟨hp, l1, l2, hn⟩ := hp
  have h0 := hp.pos
  refine nx_seq (nx_own (fun e => EvN.is (en_cat (ev_list (lk e 1 rfl)) (en_rep (ev_lst (el_c ev_i el_n) (by simp)) (ev_sub (ev_nI (ev_lenN (lk e 2 rfl))) (ev_nI (ev_lenN (lk e 1 rfl)))) ?_ ?_).ev ?_) (by rw [show (((other.length : Nat) : Int) - ((one.length : Nat) : Int)).toNat = other.length - one.length by omega])) fun a => ?_)
  · omega
  · omega
  · rw [List.length_replicate]; omega
  refine nx_seq (nx_fold (fun e => (ei_et (lk e 2 rfl))) (fun _ acc => acc.length = max one.length other.length) (fun acc => ⟨[eR rI p, eR (rT rI) one, eR (rT rI) other, eR rI often, eR rA a, eAny, eAny], [oL a rI acc]⟩) (fun acc q => acc.set q.1 ((acc.getD q.1 0 + often * q.2) % p)) _ (fun x => [(5, eR rN x.1), (6, eR rI x.2)]) ⟨.same (.same (.same (.same (.same (.any (.any .nil)))))), List.Sublist.refl _⟩ ?_ (fun x hx => (tg_u (tga_c (tga_c tga_n)) (by rfl))) (by simp) ?_ ?_)
  · rw [List.length_append, List.length_replicate]; omega
  · intro W' e1 e2 e3 k acc x hx hl
    obtain ⟨x1, x2, x3⟩ := enumL_mem (List.mem_of_getElem? hx)
    refine ⟨by rw [List.length_set]; exact hl, ?_⟩
    refine nx_put 0 x.1 (fun e => (ev_mod (ev_add (ev_gLn (d := 0) (lkO e 4 0 rfl rfl) (lk e 5 rfl) ?_) (ev_mul (lk e 3 rfl) (lk e 6 rfl) ?_)) (lk e 0 rfl) ?_)) (fun e => lk e 4 rfl) (fun e => (ev_nI (lk e 5 rfl))) rfl rfl (by omega) (fun z => nomatch z) (nx_end ⟨.same (.same (.same (.same (.same (.any (.any .nil)))))), List.Sublist.refl _⟩)
    · omega
    · exact mulOk hp (hn _ x3)
    · exact h0
  · intro hl
    refine nx_retP hS q (fun e => (ev_trimmedL (ea_c (lkO e 4 0 rfl rfl) ea_n) ?_))
    have hl : (addL p often one other).length = _ := hl
    omega


theorem sc_multiplied : FnScope ["p", "one", "other", "found", "place", "number", "far", "more"] ["p", "one", "other"] (defScope (top 7)) := ⟨rfl, rfl, rfl, by decide +kernel, rfl, by decide +kernel, by decide +kernel⟩
theorem b_multiplied (h : Hd K mg) : Binds K h.fd_multiplied ["p", "one", "other"] [] := h.F_multiplied.bindsN fun _ _ _ _ _ _ us hl => match us, hl with | [_, _, _], _ => rfl
theorem ok_multiplied (h : Hd K mg) : FnOk P w K mg base CX0 2 h.f_multiplied h.fd_multiplied ["p", "one", "other"] sp_multiplied := by
  have nd := sc_multiplied.nd
  refine h.F_multiplied.ok sc_multiplied (len_spF fun _ _ _ _ h => (ArgsE.sl h).1) (fun cdv A outer s H vs Q E hr hsp => ⟨_, PSs.nox
    (pss_cons (ps_set (i := 3) nd rfl (by first | exact .inl rfl | exact .inr rfl) (pe_op op_rep (pe_lst (pa_cons pe_int pa_nil)) (pe_op op_add (pe_callB (k_len (K := K) rfl) rfl h.b_len (by decide +kernel) (pa_cons (pv 1) pa_nil)) (pe_callB (k_len (K := K) rfl) rfl h.b_len (by decide +kernel) (pa_cons (pv 2) pa_nil)))))
    (pss_cons (ps_for PassesOwn.never rfl (k_piET (K := K) rfl rfl h.b_enumerate (pa_cons (pv 1) pa_nil)) (k_tup (K := K) (n := 2) rfl rfl (pgs_cons (pg_name (i := 4) nd rfl (by first | exact .inl rfl | exact .inr rfl)) (pgs_cons (pg_name (i := 5) nd rfl (by first | exact .inl rfl | exact .inr rfl)) pgs_nil))) (pss_one (ps_for PassesOwn.never rfl (k_piET (K := K) rfl rfl h.b_enumerate (pa_cons (pv 2) pa_nil)) (k_tup (K := K) (n := 2) rfl rfl (pgs_cons (pg_name (i := 6) nd rfl (by first | exact .inl rfl | exact .inr rfl)) (pgs_cons (pg_name (i := 7) nd rfl (by first | exact .inl rfl | exact .inr rfl)) pgs_nil))) (pss_one (ps_asg (pe_op op_mod (pe_op op_add (pe_ix (k_ixL (K := K) rfl) (pv 3) (pe_op op_add (pv 4) (pv 6)) (fun _ _ => rfl)) (pe_op op_mul (pv 5) (pv 7))) (pv 0)) (pg_sub (pv 3) (pe_op op_add (pv 4) (pv 6)) set_list))))))
    (pss_one (ps_ret (pe_call (ok_trimmed h) (hr.mono (by decide)) rfl h.g_trimmed h.F_trimmed.kp (b_trimmed h) .nil pass0 (pa_cons (pv 3) pa_nil)))))), pure_run hsp fun t W D hp hS q => ?_⟩)
  obtain ⟨p, one, other⟩ := t
  dsimp only at hp q
  show Nx W _ ⟨[eR rI p, eR (rT rI) one, eR (rT rI) other, eAny, eAny, eAny, eAny, eAny], []⟩

  obtain ⟨hp, l1, l2, hn⟩ := hp
  have h0 := hp.pos
  refine nx_seq (nx_own (fun e => (en_rep (ev_lst (el_c ev_i el_n) (by simp)) (ev_nI (ev_addN (ev_lenN (lk e 1 rfl)) (ev_lenN (lk e 2 rfl)))) ?_ ?_)) fun a => ?_)
  · omega
  · omega
  rw [Int.toNat_natCast]
  refine nx_seq (nx_fold (fun e => (ei_et (lk e 1 rfl))) (fun _ acc => acc.length = one.length + other.length) (fun acc => ⟨[eR rI p, eR (rT rI) one, eR (rT rI) other, eR rA a, eAny, eAny, eAny, eAny], [oL a rI acc]⟩) (fun acc q => (enumL other).foldl (fun acc w => acc.set (q.1 + w.1) ((acc.getD (q.1 + w.1) 0 + q.2 * w.2) % p)) acc) _ (fun x => [(4, eR rN x.1), (5, eR rI x.2)]) ⟨.same (.same (.same (.same (.any (.any (.any (.any .nil))))))), List.Sublist.refl _⟩ ?_ (fun x hx => (tg_u (tga_c (tga_c tga_n)) (by rfl))) (by simp) ?_ ?_)
  · rw [List.length_replicate]
  · intro W' e1 e2 e3 k acc x hx hl
    obtain ⟨x1, x2, x3⟩ := enumL_mem (List.mem_of_getElem? hx)
    have len : ∀ (l : List (Nat × Int)) (acc : List Int), (l.foldl (fun acc w => acc.set (x.1 + w.1) ((acc.getD (x.1 + w.1) 0 + x.2 * w.2) % p)) acc).length = acc.length := by
      intro l
      induction l with
      | nil => intro acc; rfl
      | cons w l ih => intro acc; rw [List.foldl_cons, ih, List.length_set]
    refine ⟨by rw [len]; exact hl, ?_⟩
    refine nx_fold (fun e => (ei_et (lk e 2 rfl))) (fun _ acc => acc.length = one.length + other.length) (fun acc => ⟨[eR rI p, eR (rT rI) one, eR (rT rI) other, eR rA a, eR rN x.1, eR rI x.2, eAny, eAny], [oL a rI acc]⟩) (fun acc w => acc.set (x.1 + w.1) ((acc.getD (x.1 + w.1) 0 + x.2 * w.2) % p)) _ (fun x => [(6, eR rN x.1), (7, eR rI x.2)]) ⟨.same (.same (.same (.same (.same (.same (.any (.any .nil))))))), List.Sublist.refl _⟩ hl (fun x hx => (tg_u (tga_c (tga_c tga_n)) (by rfl))) (by simp) ?_ ?_
    · intro W2 e1 e2 e3 k acc y hy hl
      obtain ⟨y1, y2, y3⟩ := enumL_mem (List.mem_of_getElem? hy)
      refine ⟨by rw [List.length_set]; exact hl, ?_⟩
      refine nx_put 0 (x.1 + y.1) (fun e => (ev_mod (ev_add (ev_gLn (d := 0) (lkO e 3 0 rfl rfl) (ev_addN (lk e 4 rfl) (lk e 6 rfl)) ?_) (ev_mul (lk e 5 rfl) (lk e 7 rfl) ?_)) (lk e 0 rfl) ?_)) (fun e => lk e 3 rfl) (fun e => (ev_nI (ev_addN (lk e 4 rfl) (lk e 6 rfl)))) rfl rfl (by omega) (fun z => nomatch z) (nx_end ⟨.same (.same (.same (.same (.same (.same (.any (.any .nil))))))), List.Sublist.refl _⟩)
      · omega
      · exact mulOk hp (hn _ y3)
      · exact h0
    · intro hl
      exact nx_end ⟨.same (.same (.same (.same (.any (.any (.any (.any .nil))))))), List.Sublist.refl _⟩
  · intro hl
    refine nx_retP hS q (fun e => (ev_trimmedL (ea_c (lkO e 3 0 rfl rfl) ea_n) ?_))
    have hl : (mulL p one other).length = _ := hl
    omega


theorem sc_part_taken : FnScope ["p", "poly", "r"] ["p", "poly", "r"] (defScope (top 8)) := ⟨rfl, rfl, rfl, by decide +kernel, rfl, by decide +kernel, by decide +kernel⟩
theorem b_part_taken (h : Hd K mg) : Binds K h.fd_part_taken ["p", "poly", "r"] [] := h.F_part_taken.bindsN fun _ _ _ _ _ _ us hl => match us, hl with | [_, _, _], _ => rfl
theorem ok_part_taken (h : Hd K mg) : FnOk P w K mg base CX0 2 h.f_part_taken h.fd_part_taken ["p", "poly", "r"] sp_part_taken := by
  have nd := sc_part_taken.nd
  refine h.F_part_taken.ok sc_part_taken (len_spF fun _ _ _ _ h => (ArgsE.sl h).1) (fun cdv A outer s H vs Q E hr hsp => ⟨_, PSs.nox
    (pss_one (ps_ret (pe_call (ok_trimmed h) (hr.mono (by decide)) rfl h.g_trimmed h.F_trimmed.kp (b_trimmed h) .nil pass0 (pa_cons (k_step (K := K) rfl (pv 1) (po_some (pv 2)) (po_some (pv 0))) pa_nil)))), pure_run hsp fun t W D hp hS q => ?_⟩)
  obtain ⟨p, poly, r⟩ := t
  dsimp only at hp q
  show Nx W _ ⟨[eR rI p, eR (rT rI) poly, eR rN r], []⟩

  obtain ⟨hp, l1⟩ := hp
  refine nx_retP hS q (fun e => (ev_trimmedR (ea_c (ev_step _ _ (lk e 1 rfl) (ev_nI (lk e 2 rfl)) (lk e 0 rfl) ?_ ?_ ?_) ea_n) ?_))
  · have := hp.pos; omega
  · have := hp.pos; omega
  · have := hp.two; omega
  · have := stepL_len poly r p.toNat
    omega


theorem sc_spread_out : FnScope ["p", "poly", "found", "place", "number"] ["p", "poly"] (defScope (top 9)) := ⟨rfl, rfl, rfl, by decide +kernel, rfl, by decide +kernel, by decide +kernel⟩
theorem b_spread_out (h : Hd K mg) : Binds K h.fd_spread_out ["p", "poly"] [] := h.F_spread_out.bindsN fun _ _ _ _ _ _ us hl => match us, hl with | [_, _], _ => rfl
theorem ok_spread_out (h : Hd K mg) : FnOk P w K mg base CX0 2 h.f_spread_out h.fd_spread_out ["p", "poly"] sp_spread_out := by
  have nd := sc_spread_out.nd
  refine h.F_spread_out.ok sc_spread_out (len_spF fun _ _ _ _ h => (ArgsE.sl h).1) (fun cdv A outer s H vs Q E hr hsp => ⟨_, PSs.nox
    (pss_cons (ps_set (i := 2) nd rfl (by first | exact .inl rfl | exact .inr rfl) (pe_op op_rep (pe_lst (pa_cons pe_int pa_nil)) (pe_op op_mul (pv 0) (pe_callB (k_len (K := K) rfl) rfl h.b_len (by decide +kernel) (pa_cons (pv 1) pa_nil)))))
    (pss_cons (ps_for PassesOwn.never rfl (k_piET (K := K) rfl rfl h.b_enumerate (pa_cons (pv 1) pa_nil)) (k_tup (K := K) (n := 2) rfl rfl (pgs_cons (pg_name (i := 3) nd rfl (by first | exact .inl rfl | exact .inr rfl)) (pgs_cons (pg_name (i := 4) nd rfl (by first | exact .inl rfl | exact .inr rfl)) pgs_nil))) (pss_one (ps_asg (pv 4) (pg_sub (pv 2) (pe_op op_mul (pv 0) (pv 3)) set_list))))
    (pss_one (ps_ret (pe_call (ok_trimmed h) (hr.mono (by decide)) rfl h.g_trimmed h.F_trimmed.kp (b_trimmed h) .nil pass0 (pa_cons (pv 2) pa_nil)))))), pure_run hsp fun t W D hp hS q => ?_⟩)
  obtain ⟨p, poly⟩ := t
  dsimp only at hp q
  show Nx W _ ⟨[eR rI p, eR (rT rI) poly, eAny, eAny, eAny], []⟩

  obtain ⟨hp, l1⟩ := hp
  have h0 := hp.pos
  have h5 := hp.le
  have hm : p * (poly.length : Int) = ((p.toNat * poly.length : Nat) : Int) := by
    rw [Int.natCast_mul]
    congr 1
    omega
  have hb : p.toNat * poly.length ≤ 5 * 10000 := Nat.mul_le_mul (by omega) l1
  refine nx_seq (nx_own (fun e => EvN.is (en_rep (ev_lst (el_c ev_i el_n) (by simp)) (ev_mul (lk e 0 rfl) (ev_nI (ev_lenN (lk e 1 rfl))) ?_) ?_ ?_) (by rw [hm, Int.toNat_natCast])) fun a => ?_)
  · exact Or.inl ⟨by omega, by omega⟩
  · omega
  · omega
  refine nx_seq (nx_fold (fun e => (ei_et (lk e 1 rfl))) (fun _ acc => acc.length = p.toNat * poly.length) (fun acc => ⟨[eR rI p, eR (rT rI) poly, eR rA a, eAny, eAny], [oL a rI acc]⟩) (fun acc q => acc.set (p.toNat * q.1) q.2) _ (fun x => [(3, eR rN x.1), (4, eR rI x.2)]) ⟨.same (.same (.same (.any (.any .nil)))), List.Sublist.refl _⟩ ?_ (fun x hx => (tg_u (tga_c (tga_c tga_n)) (by rfl))) (by simp) ?_ ?_)
  · rw [List.length_replicate]
  · intro W' e1 e2 e3 k acc x hx hl
    obtain ⟨x1, x2, x3⟩ := enumL_mem (List.mem_of_getElem? hx)
    have lt : p.toNat * x.1 < p.toNat * poly.length := Nat.mul_lt_mul_of_pos_left x1 (by omega)
    refine ⟨by rw [List.length_set]; exact hl, ?_⟩
    refine nx_put 0 (p.toNat * x.1) (fun e => (lk e 4 rfl)) (fun e => lk e 2 rfl) (fun e => (ev_mul (lk e 0 rfl) (ev_nI (lk e 3 rfl)) ?_)) rfl ?_ (by omega) (fun z => nomatch z) (nx_end ⟨.same (.same (.same (.any (.any .nil)))), List.Sublist.refl _⟩)
    · exact Or.inl ⟨by omega, by omega⟩
    · rw [Int.natCast_mul]
      congr 1
      omega
  · intro hl
    refine nx_retP hS q (fun e => (ev_trimmedL (ea_c (lkO e 2 0 rfl rfl) ea_n) ?_))
    have hl : (spreadL p.toNat poly).length = _ := hl
    omega


theorem sc_led : FnScope ["p", "vector", "step", "found", "number", "row", "old", "more"] ["p", "vector", "step"] (defScope (top 11)) := ⟨rfl, rfl, rfl, by decide +kernel, rfl, by decide +kernel, by decide +kernel⟩
theorem b_led (h : Hd K mg) : Binds K h.fd_led ["p", "vector", "step"] [] := h.F_led.bindsN fun _ _ _ _ _ _ us hl => match us, hl with | [_, _, _], _ => rfl
theorem ok_led (h : Hd K mg) : FnOk P w K mg base CX0 1 h.f_led h.fd_led ["p", "vector", "step"] sp_led := by
  have nd := sc_led.nd
  refine h.F_led.ok sc_led (len_spF fun _ _ _ _ h => (ArgsE.sl h).1) (fun cdv A outer s H vs Q E hr hsp => ⟨_, PSs.nox
    (pss_cons (ps_set (i := 3) nd rfl (by first | exact .inl rfl | exact .inr rfl) (pe_op op_rep (pe_lst (pa_cons pe_int pa_nil)) (pe_callB (k_len (K := K) rfl) rfl h.b_len (by decide +kernel) (pa_cons (pv 1) pa_nil))))
    (pss_cons (ps_for PassesOwn.never rfl (k_piZ (K := K) rfl false false rfl h.b_zip (pa_cons (pv 1) (pa_cons (pv 2) pa_nil))) (k_tup (K := K) (n := 2) rfl rfl (pgs_cons (pg_name (i := 4) nd rfl (by first | exact .inl rfl | exact .inr rfl)) (pgs_cons (pg_name (i := 5) nd rfl (by first | exact .inl rfl | exact .inr rfl)) pgs_nil))) (pss_one (ps_if (pt_cmpR op_ne (pv 4) pe_int (nomark _)) (pss_one (ps_setLc (i := 3) rfl nd rfl rfl (sw_true rfl rfl rfl (by decide +kernel)) (k_piZ (K := K) rfl true false rfl h.b_zip (pa_cons (pv 3) (pa_cons (pv 5) pa_nil))) (blkOk_by (own := [("old", 6), ("more", 7)]) (by kernel_rfl)) (fun _ _ _ _ _ => (by exact (k_tup (K := K) (n := 2) rfl rfl (pgs_cons (pg_name (i := 6) nd rfl (by first | exact .inl rfl | exact .inr rfl)) (pgs_cons (pg_name (i := 7) nd rfl (by first | exact .inl rfl | exact .inr rfl)) pgs_nil))))) (fun _ _ _ _ _ => pts_nil) (fun _ _ _ _ _ => (pe_op op_mod (pe_op op_add (pv 6) (pe_op op_mul (pv 4) (pv 7))) (pv 0))))) pss_nil)))
    (pss_one (ps_ret (pe_callTy (k_tuple (K := K) rfl) rfl h.b_tuple (by decide +kernel) (pa_cons (pv 3) pa_nil)))))), pure_run hsp fun t W D hp hS q => ?_⟩)
  obtain ⟨p, vector, step⟩ := t
  dsimp only at hp q
  show Nx W _ ⟨[eR rI p, eR (rT rI) vector, eR (rT (rT rI)) step, eAny, eAny, eAny, eAny, eAny], []⟩

  obtain ⟨hp, l1, hn, l2⟩ := hp
  have h0 := hp.pos
  refine nx_seq (nx_asg (fun e => EvR.is (en_rep (ev_lst (el_c ev_i el_n) (by simp)) (ev_nI (ev_lenN (lk e 1 rfl))) ?_ ?_).ev (by rw [Int.toNat_natCast])) ?_)
  · omega
  · omega
  refine nx_seq (nx_fold (fun e => (ei_z (lk e 1 rfl) (lk e 2 rfl))) (fun _ acc => acc.length ≤ 100) (fun acc => ⟨[eR rI p, eR (rT rI) vector, eR (rT (rT rI)) step, eR (rL rI) acc, eAny, eAny, eAny, eAny], []⟩) (ledS p) _ (fun x => [(4, eR rI x.1), (5, eR (rT rI) x.2)]) ⟨.same (.same (.same (.same (.any (.any (.any (.any .nil))))))), List.Sublist.refl _⟩ ?_ (fun x hx => (tg_u (tga_c (tga_c tga_n)) (by rfl))) (by simp) ?_ ?_)
  · rw [List.length_replicate]; exact l1
  · intro W' e1 e2 e3 k acc x hx hl
    obtain ⟨m1, m2⟩ := List.of_mem_zip (List.mem_of_getElem? hx)
    have lz : ((acc.zip x.2).length) ≤ 100 := by
      rw [List.length_zip]
      omega
    refine ⟨?_, ?_⟩
    · unfold ledS
      split
      · rw [List.length_map]; exact lz
      · exact hl
    refine nx_if (fun e => (et_t (ev_neI (lk e 4 rfl) ev_i))) (fun hb => ?_) (fun hb => ?_)
    · have hb : x.1 ≠ 0 := by simpa using hb
      refine nx_asg (fun e => EvR.is (en_lc1 e (ei_z (lk e 3 rfl) (lk e 5 rfl)) ?_ (fun x => [(6, eR rI x.1), (7, eR rI x.2)]) (fun x hx => (tg_u (tga_c (tga_c tga_n)) (by rfl))) (by simp) (fun x hx σ2 G2 H2 e2 => (ev_mod (ev_add (lk e2 6 rfl) (ev_mul (lk e2 4 rfl) (lk e2 7 rfl) ?_)) (lk e2 0 rfl) ?_))).ev (show _ = ledS p acc x by unfold ledS; rw [if_pos hb])) (nx_end ⟨.same (.same (.same (.same (.any (.any (.any (.any .nil))))))), List.Sublist.refl _⟩)
      · omega
      · exact mulOkL hp (hn _ m1)
      · exact h0
    · have hb : x.1 = 0 := by simpa using hb
      have e : ledS p acc x = acc := by unfold ledS; rw [if_neg (by omega)]
      rw [e]
      exact nx_next (nx_end ⟨.same (.same (.same (.same (.any (.any (.any (.any .nil))))))), List.Sublist.refl _⟩)
  · intro hl
    exact nx_retP hS q (fun e => (ev_tupleL (lk e 3 rfl)))


theorem sc_summed : FnScope ["p", "vector", "column", "number", "other"] ["p", "vector", "column"] (defScope (top 12)) := ⟨rfl, rfl, rfl, by decide +kernel, rfl, by decide +kernel, by decide +kernel⟩
theorem b_summed (h : Hd K mg) : Binds K h.fd_summed ["p", "vector", "column"] [] := h.F_summed.bindsN fun _ _ _ _ _ _ us hl => match us, hl with | [_, _, _], _ => rfl
theorem ok_summed (h : Hd K mg) : FnOk P w K mg base CX0 1 h.f_summed h.fd_summed ["p", "vector", "column"] sp_summed := by
  have nd := sc_summed.nd
  refine h.F_summed.ok sc_summed (len_spF fun _ _ _ _ h => (ArgsE.sl h).1) (fun cdv A outer s H vs Q E hr hsp => ⟨_, PSs.nox
    (pss_one (ps_ret (pe_op op_mod (pe_callB (k_sum (K := K) rfl rfl) rfl h.b_sum (by decide +kernel) (pa_cons (pe_lc rfl nd (k_piZ (K := K) rfl false false rfl h.b_zip (pa_cons (pv 1) (pa_cons (pv 2) pa_nil))) (blkOk_by (own := [("number", 3), ("other", 4)]) (by kernel_rfl)) (fun _ _ _ _ _ => (by exact (k_tup (K := K) (n := 2) rfl rfl (pgs_cons (pg_name (i := 3) nd rfl (by first | exact .inl rfl | exact .inr rfl)) (pgs_cons (pg_name (i := 4) nd rfl (by first | exact .inl rfl | exact .inr rfl)) pgs_nil))))) (fun _ _ _ _ _ => pts_nil) (fun _ _ _ _ _ => (pe_op op_mul (pv 3) (pv 4)))) pa_nil)) (pv 0)))), pure_run hsp fun t W D hp hS q => ?_⟩)
  obtain ⟨p, vector, column⟩ := t
  dsimp only at hp q
  show Nx W _ ⟨[eR rI p, eR (rT rI) vector, eR (rT rI) column, eAny, eAny], []⟩

  obtain ⟨hp, l1, hn⟩ := hp
  refine nx_retP hS q (fun e => (ev_mod (ev_sum (en_lc1 e (ei_z (lk e 1 rfl) (lk e 2 rfl)) ?_ (fun x => [(3, eR rI x.1), (4, eR rI x.2)]) (fun x hx => (tg_u (tga_c (tga_c tga_n)) (by rfl))) (by simp) (fun x hx σ2 G2 H2 e2 => (ev_mul (lk e2 3 rfl) (lk e2 4 rfl) ?_))).ev) (lk e 0 rfl) ?_))
  · rw [List.length_zip]; omega
  · exact mulOkL hp (hn _ (List.of_mem_zip hx).1)
  · exact hp.pos


theorem sc_column_led : FnScope ["p", "step", "column", "row"] ["p", "step", "column"] (defScope (top 13)) := ⟨rfl, rfl, rfl, by decide +kernel, rfl, by decide +kernel, by decide +kernel⟩
theorem b_column_led (h : Hd K mg) : Binds K h.fd_column_led ["p", "step", "column"] [] := h.F_column_led.bindsN fun _ _ _ _ _ _ us hl => match us, hl with | [_, _, _], _ => rfl
theorem ok_column_led (h : Hd K mg) : FnOk P w K mg base CX0 2 h.f_column_led h.fd_column_led ["p", "step", "column"] sp_column_led := by
  have nd := sc_column_led.nd
  refine h.F_column_led.ok sc_column_led (len_spF fun _ _ _ _ h => (ArgsE.sl h).1) (fun cdv A outer s H vs Q E hr hsp => ⟨_, PSs.nox
    (pss_one (ps_ret (pe_callTy (k_tuple (K := K) rfl) rfl h.b_tuple (by decide +kernel) (pa_cons (pe_lc rfl nd (k_piT (K := K) rfl (pv 1)) (blkOk_by (own := [("row", 3)]) (by kernel_rfl)) (fun _ _ _ _ _ => (by exact (pg_name (i := 3) nd rfl (by first | exact .inl rfl | exact .inr rfl)))) (fun _ _ _ _ _ => pts_nil) (fun _ _ _ _ _ => (pe_call (ok_summed h) (hr.mono (by decide)) rfl h.g_summed h.F_summed.kp (b_summed h) .nil pass0 (pa_cons (pv 0) (pa_cons (pv 3) (pa_cons (pv 2) pa_nil)))))) pa_nil)))), pure_run hsp fun t W D hp hS q => ?_⟩)
  obtain ⟨p, step, column⟩ := t
  dsimp only at hp q
  show Nx W _ ⟨[eR rI p, eR (rT (rT rI)) step, eR (rT rI) column, eAny], []⟩

  obtain ⟨hp, l1, hn⟩ := hp
  refine nx_retP hS q (fun e => (ev_tupleL (en_lc1 e (ei_t (lk e 1 rfl)) ?_ (fun x => [(3, eR (rT rI) x)]) (fun x hx => (tg_n 3)) (by simp) (fun x hx σ2 G2 H2 e2 => (ev_summed (ea_c (lk e2 0 rfl) (ea_c (lk e2 3 rfl) (ea_c (lk e2 2 rfl) ea_n))) ?_))).ev))
  · omega
  · exact ⟨hp, hn _ hx⟩

end
end Dg
end
section
set_option Elab.async false
set_option linter.all false
set_option maxRecDepth 100000
set_option maxHeartbeats 4000000
/-! The nested defs of least_table. -/
namespace Dg
open PySem PySem.Spec PyProof.Rows L2 LamX NdefX
/-- a function with two captured values: the prime and another thing -/
def rClo {β : Type} (mk : Addr → NF) (r : Rl β) [Go r] (ws : List (Option V)) : Rl (Int × β) := fun G H v t => rFn mk G H v () ∧ ∃ u1 u2, ws = [some u1, some u2] ∧ rI G G u1 t.1 ∧ r G G u2 t.2
instance {β : Type} {mk : Addr → NF} {r : Rl β} [Go r] {ws : List (Option V)} : Go (rClo mk r ws) := ⟨fun h => ⟨Go.go h.1, h.2⟩, fun ⟨a, u1, u2, e, b, c⟩ z => ⟨Go.up a z, u1, u2, e, b, Go.to c z⟩⟩
/-- the promise of such a function -/
def spN {β γ δ : Type} (r : Rl β) (PA : γ → AP) (pre : Int × β → γ → Prop) (ro : Rl δ) (m : Int × β → γ → δ) : List (Option V) → Sp := fun ws => spF (ι := (Int × β) × γ) (fun t G H vs => (∃ u1 u2, ws = [some u1, some u2] ∧ rI G H u1 t.1.1 ∧ r G H u2 t.1.2) ∧ PA t.2 G H vs) (fun t => pre t.1 t.2) ro (fun t => m t.1 t.2)
section
variable {β γ δ : Type} {r : Rl β} {PA : γ → AP} {pre : Int × β → γ → Prop} {ro : Rl δ} {m : Int × β → γ → δ} {σ : L2.St} {G H : Hp} {Γ : Ct} {mk : Addr → NF} {ws : List (Option V)} {t : TA} {c : Int × β} {y : γ}
theorem ev_clo [Go r] (e : Eo G H σ Γ) (i : Nat) (h : gt Γ.sl i = eR (rClo mk r ws) c) (ha : EvA t σ G H (PA y)) (hp : pre c y) : EvR (tClo mk i (spN r PA pre ro m ws) t) σ G H ro (m c y) := fun G1 H1 f Q q => by
  obtain ⟨v, hv, w, ew, ⟨fa, k, rfl, h1, h2⟩, u1, u2, ew2, c1, c2⟩ := e.sl.get i h fun o => eR_some
  cases ew
  exact ⟨fa, k, hv, f.gd.sub _ _ (f.gg _ _ h1), ha G1 H1 f _ fun vs G2 H2 f2 p => ⟨f2.gd.sub _ _ (f2.gg _ _ (f.gg _ _ h1)), f2.gd.sub _ _ (f2.gg _ _ (f.gg _ _ h2)), (c, y), G2, f2.gd, ⟨⟨u1, u2, ew2, c1, Go.to c2 (f.trans f2).gg⟩, p⟩, hp, fun v G3 H3 f3 e => q v G3 H3 (f2.trans f3) e⟩⟩
end
abbrev nst (j : Nat) : Stmt := (defBody (top 18)).getD j (.Pass ⟨0, 0, 0, 0⟩)
abbrev mkLed (cl : List (Str × Addr)) : Addr → NF := NF.of (nst 2) "led_by" "least_table.<locals>.led_by" cl
abbrev mkFst (cl : List (Str × Addr)) : Addr → NF := NF.of (nst 3) "first" "least_table.<locals>.first" cl
abbrev mkSgn (cl : List (Str × Addr)) : Addr → NF := NF.of (nst 4) "sign" "least_table.<locals>.sign" cl
abbrev rTT : Rl (List (List (List Int))) := rT (rT (rT rI))
abbrev sp_led_by : List (Option V) → Sp := spN rTT (fun y : List Int × Nat => aC (rT rI) y.1 (aC rN y.2 aN)) (fun c y => Pm c.1 ∧ y.2 < c.2.length ∧ y.1.length ≤ 100 ∧ Nm c.1 y.1 ∧ ∀ row ∈ c.2.getD y.2 [], row.length ≤ 100) (rT rI) (fun c y => led c.1 y.1 (c.2.getD y.2 []))
abbrev sp_first : List (Option V) → Sp := spN (rT rI) (fun y : List Int => aC (rT rI) y aN) (fun c y => Pm c.1 ∧ y.length ≤ 1000 ∧ Nm c.1 y) rI (fun c y => summed c.1 y c.2)
def sg (p : Int) (columns : List (List Int)) (v : List Int) : List Int := columns.map fun c => summed p v c
abbrev sp_sign : List (Option V) → Sp := spN (rL (rT rI)) (fun y : List Int => aC (rT rI) y aN) (fun c y => Pm c.1 ∧ y.length ≤ 1000 ∧ Nm c.1 y ∧ c.2.length ≤ 1000) (rT rI) (fun c y => sg c.1 c.2 y)
section
variable {P : Program} {w : World} {K : PySem.W.Frag} {mg : Str → Option Value} {base : Heap} {cl : List (Str × Addr)} {f k : Addr}
theorem ok_led_by (h : Hd K mg) : NOk P w K mg base CX0 2 f (mkLed cl k) ["vector", "r"] ["p", "steps"] sp_led_by := by
  have S : NScope ["vector", "r", "p", "steps"] ["vector", "r"] ["p", "steps"] (mkLed cl k).scope := show NScope _ _ _ (C8.fnScope (nst 2)) from nscope_by (by decide +kernel)
  refine nok_of S (fun doc pm ctv us hl => match us, hl with | [_, _], _ => rfl) (fun ws vs H Q E q => ?_) (fun A outer s H vs ws Q E hr hf hc hl hsp => ⟨_, PSs.nox (pss_one (ps_ret (pe_call (ok_led h) (hr.mono (by decide)) rfl h.g_led h.F_led.kp (b_led h) .nil pass0 (pa_cons (pv 2) (pa_cons (pv 0) (pa_cons (pe_ix (k_ixT (K := K) rfl) (pv 3) (pv 1) (fun _ _ => rfl)) pa_nil)))))), ?_⟩)
  · obtain ⟨i, G, _, ⟨_, _, _, rfl, _, _, _, rfl, _, rfl⟩, _⟩ := q
    rfl
  obtain ⟨⟨⟨p, steps⟩, v, r⟩, G, d, ⟨⟨u1, u2, rfl, c1, c2⟩, _, _, rfl, a1, _, _, rfl, a2, rfl⟩, ⟨hp, hr, hv, hn, hs⟩, q⟩ := hsp
  dsimp only at c1 c2 a1 a2 hp hr hv hn hs q
  refine (?_ : Nx ⟨[], G, H, G⟩ _ ⟨[eR (rT rI) v, eR rN r, eR rI p, eR rTT steps], []⟩) _ G H (en_start d ⟨⟨_, rfl, Go.go a1⟩, ⟨_, rfl, Go.go a2⟩, ⟨_, rfl, Go.go c1⟩, ⟨_, rfl, Go.go c2⟩, trivial⟩ rfl)
  refine nx_retP rfl q (fun e => ev_led (ea_c (lk e 2 rfl) (ea_c (lk e 0 rfl) (ea_c (ev_gTn (d := []) (lk e 3 rfl) (lk e 1 rfl) ?_) ea_n))) ?_)
  · exact hr
  · exact ⟨hp, hv, hn, hs⟩
theorem ok_first (h : Hd K mg) : NOk P w K mg base CX0 2 f (mkFst cl k) ["vector"] ["p", "firsts"] sp_first := by
  have S : NScope ["vector", "p", "firsts"] ["vector"] ["p", "firsts"] (mkFst cl k).scope := show NScope _ _ _ (C8.fnScope (nst 3)) from nscope_by (by decide +kernel)
  refine nok_of S (fun doc pm ctv us hl => match us, hl with | [_], _ => rfl) (fun ws vs H Q E q => ?_) (fun A outer s H vs ws Q E hr hf hc hl hsp => ⟨_, PSs.nox (pss_one (ps_ret (pe_call (ok_summed h) (hr.mono (by decide)) rfl h.g_summed h.F_summed.kp (b_summed h) .nil pass0 (pa_cons (pv 1) (pa_cons (pv 0) (pa_cons (pv 2) pa_nil)))))), ?_⟩)
  · obtain ⟨i, G, _, ⟨_, _, _, rfl, _, rfl⟩, _⟩ := q
    rfl
  obtain ⟨⟨⟨p, firsts⟩, v⟩, G, d, ⟨⟨u1, u2, rfl, c1, c2⟩, _, _, rfl, a1, rfl⟩, ⟨hp, hv, hn⟩, q⟩ := hsp
  dsimp only at c1 c2 a1 hp hv hn q
  refine (?_ : Nx ⟨[], G, H, G⟩ _ ⟨[eR (rT rI) v, eR rI p, eR (rT rI) firsts], []⟩) _ G H (en_start d ⟨⟨_, rfl, Go.go a1⟩, ⟨_, rfl, Go.go c1⟩, ⟨_, rfl, Go.go c2⟩, trivial⟩ rfl)
  refine nx_retP rfl q (fun e => ev_summed (ea_c (lk e 1 rfl) (ea_c (lk e 0 rfl) (ea_c (lk e 2 rfl) ea_n))) ?_)
  exact ⟨hp, hv, hn⟩
theorem ok_sign (h : Hd K mg) : NOk P w K mg base CX0 2 f (mkSgn cl k) ["vector"] ["p", "columns"] sp_sign := by
  have S : CellScope ["vector", "p", "columns", "column"] "vector" ["p", "columns"] (mkSgn cl k).scope := show CellScope _ _ _ (C8.fnScope (nst 4)) from ⟨rfl, rfl, rfl, by decide +kernel, by decide +kernel, rfl, by decide +kernel, by decide +kernel, by decide +kernel, fun n acc => rfl, fun h => rfl⟩
  have nd := S.nd
  refine nok_cell S (fun doc pm ctv us hl => match us, hl with | [_], _ => rfl) (fun ws vs H Q E q => ?_) (fun A outer s H v0 ws Q E hr hl hsp => ⟨_, PSs.nox (pss_one (ps_ret (pe_callTy (k_tuple (K := K) rfl) rfl h.b_tuple (by decide +kernel) (pa_cons (pe_lc rfl nd (k_piL (K := K) rfl (pv 2)) (blkOk_by (own := [("column", 3)]) (by kernel_rfl)) (fun _ _ _ _ _ => (by exact (pg_name (i := 3) nd rfl (by first | exact .inl rfl | exact .inr rfl)))) (fun _ _ _ _ _ => pts_nil) (fun _ _ _ _ _ => (pe_call (ok_summed h) (hr.mono (by decide)) rfl h.g_summed h.F_summed.kp (b_summed h) .nil pass0 (pa_cons (pv 1) (pa_cons (pv 0) (pa_cons (pv 3) pa_nil)))))) pa_nil)))), ?_⟩)
  · obtain ⟨i, G, _, ⟨_, _, _, rfl, _, rfl⟩, _⟩ := q
    rfl
  obtain ⟨⟨⟨p, columns⟩, v⟩, G, d, ⟨⟨u1, u2, rfl, c1, c2⟩, _, _, ev, a1, en⟩, ⟨hp, hv, hn, hc⟩, q⟩ := hsp
  subst en
  cases ev
  dsimp only at c1 c2 a1 hp hv hn hc q
  refine (?_ : Nx ⟨[], G, H, G⟩ _ ⟨[eR (rT rI) v, eR rI p, eR (rL (rT rI)) columns, eAny], []⟩) _ G H (en_start d ⟨⟨_, rfl, Go.go a1⟩, ⟨_, rfl, Go.go c1⟩, ⟨_, rfl, Go.go c2⟩, trivial, trivial⟩ rfl)
  refine nx_retP rfl q (fun e => ev_tupleL (en_lc1 e (ei_l (lk e 2 rfl)) ?_ (fun x => [(3, eR (rT rI) x)]) (fun x hx => (tg_n 3)) (by simp) (fun x hx σ2 G2 H2 e2 => ev_summed (ea_c (lk e2 1 rfl) (ea_c (lk e2 0 rfl) (ea_c (lk e2 3 rfl) ea_n))) ?_)).ev)
  · omega
  · exact ⟨hp, hv, hn⟩
end
end Dg
end
section
set_option Elab.async false
set_option linter.all false
set_option maxRecDepth 100000
set_option maxHeartbeats 4000000
/-! What keeper_table keeps. -/
namespace Dg
open Lean.Grind
theorem sg_len (p : Int) (columns : List (List Int)) (v : List Int) : (sg p columns v).length = columns.length := List.length_map _
theorem sg_nm {p : Int} (hp : 0 < p) (columns : List (List Int)) (v : List Int) : Nm p (sg p columns v) := fun x hx => by
  obtain ⟨c, _, rfl⟩ := List.mem_map.mp hx
  exact summed_nm hp _ _
/-- s is the mix of tks by the numbers c -/
structure MixOk (p : Int) (V : Nat) (tks : List (List Int)) (c s : List Int) : Prop where
  l : c.length ≤ tks.length
  n : Nm p c
  e : ∀ (R : Type) [CommRing R] (h : Hom R p), ∀ x, x < V → h.f (s.getD x 0) = sumTo tks.length (fun t => h.f (c.getD t 0) * h.f ((tks.getD t []).getD x 0))
theorem getD_none {xs : List Int} {k : Nat} (h : xs.length ≤ k) : xs.getD k 0 = 0 := by
  rw [List.getD_eq_getElem?_getD, List.getElem?_eq_none h]
  rfl
theorem MixOk.more {p : Int} {V : Nat} {tks : List (List Int)} {c s w : List Int} (m : MixOk p V tks c s) : MixOk p V (tks ++ [w]) c s := ⟨by rw [List.length_append]; exact Nat.le_trans m.l (Nat.le_add_right _ _), m.n, fun R _ h x hx => by
  rw [List.length_append, List.length_singleton, sumTo_succ, getD_none m.l, h.zero, m.e R h x hx]
  have q : sumTo tks.length (fun t => h.f (c.getD t 0) * h.f (((tks ++ [w]).getD t []).getD x 0)) = sumTo tks.length (fun t => h.f (c.getD t 0) * h.f ((tks.getD t []).getD x 0)) := sumTo_congr fun t ht => by rw [getD_app, if_pos ht]
  rw [q]
  grind⟩
theorem rep_at {n k : Nat} : (List.replicate n (0 : Int)).getD k 0 = 0 := by
  rw [List.getD_eq_getElem?_getD, List.getElem?_replicate]
  split <;> rfl
theorem MixOk.self {p : Int} (hp : 1 < p) {V : Nat} {tks : List (List Int)} {s : List Int} : MixOk p V (tks ++ [s]) (List.replicate tks.length 0 ++ [1]) s := ⟨by rw [List.length_append, List.length_append, List.length_replicate]; exact Nat.le_refl _, fun x hx => by
  rcases List.mem_append.mp hx with hx | hx
  · rw [(List.mem_replicate.mp hx).2]
    omega
  · rw [List.mem_singleton.mp hx]
    omega, fun R _ h x hx => by
  rw [List.length_append, List.length_singleton, sumTo_succ]
  have z : sumTo tks.length (fun t => h.f ((List.replicate tks.length (0 : Int) ++ [1]).getD t 0) * h.f (((tks ++ [s]).getD t []).getD x 0)) = 0 := sumTo_none fun t ht => by
    have e : (List.replicate tks.length (0 : Int) ++ [1]).getD t 0 = 0 := by rw [getD_app, List.length_replicate, if_pos ht, rep_at]
    rw [e, h.zero]
    grind
  have e1 : (List.replicate tks.length (0 : Int) ++ [1]).getD tks.length 0 = 1 := by rw [getD_app, List.length_replicate, if_neg (Nat.lt_irrefl _), if_pos rfl]
  rw [z, e1, getD_app, if_neg (Nat.lt_irrefl _), if_pos rfl, h.one]
  grind⟩
theorem MixOk.of {p : Int} (hp : Pm p) {V : Nat} {lines : List SLine} {tks : List (List Int)} {s mix : List Int} (S : SIA p V lines tks) (hs : s.length = V ∧ Nm p s) (e : mixM p lines.length lines s = some mix) : MixOk p V tks mix s := by
  obtain ⟨R, _, ⟨h⟩⟩ := hom_of hp
  obtain ⟨a, b, _⟩ := mix_ok hp.pos (S R h) hs e
  exact ⟨Nat.le_of_eq a, b, fun R _ h => (mix_ok hp.pos (S R h) hs e).2.2⟩
/-- the state of keeper_table -/
structure KI (p : Int) (start : List Int) (steps : List (List (List Int))) (m : Nat) (columns : List (List Int)) (lines : List SLine) (tk : List (List Int)) (rows : List (List (List Int))) (at_ r0 : Nat) : Prop where
  sia : SIA p columns.length lines (tk.map (sg p columns))
  tok : ∀ t ∈ tk, t.length = m ∧ Nm p t
  rl : rows.length = p.toNat
  len : ∀ r, r < p.toNat → (rows.getD r []).length = at_ + (if r < r0 then 1 else 0)
  atl : at_ ≤ tk.length
  mix : ∀ r, r < p.toNat → ∀ k, k < (rows.getD r []).length → MixOk p columns.length (tk.map (sg p columns)) ((rows.getD r []).getD k []) (sg p columns (led p (tk.getD k []) (steps.getD r [])))
  st0 : tk = [] → ∀ (R : Type) [CommRing R] (h : Hom R p), ∀ x, x < columns.length → h.f ((sg p columns start).getD x 0) = 0
  st1 : tk ≠ [] → tk.getD 0 [] = start
section
variable {p : Int} {start : List Int} {steps : List (List (List Int))} {m : Nat} {columns : List (List Int)} {lines : List SLine} {tk : List (List Int)} {rows : List (List (List Int))} {at_ r0 : Nat}
theorem KI.few (hp : Pm p) (c : KI p start steps m columns lines tk rows at_ r0) : lines.length = tk.length ∧ tk.length ≤ columns.length ∧ SL p columns.length lines := by
  obtain ⟨a, b, s⟩ := c.sia.any hp
  rw [List.length_map] at b
  exact ⟨b, by omega, s⟩
theorem getD_setL {α : Type} {xs : List α} {d v : α} {k j : Nat} (hk : k < xs.length) : (xs.set k v).getD j d = if j = k then v else xs.getD j d := by
  rw [List.getD_eq_getElem?_getD]
  by_cases e : j = k
  · rw [if_pos e, e, List.getElem?_set_self hk]
    rfl
  · rw [if_neg e, List.getElem?_set_ne (fun z => e z.symm), List.getD_eq_getElem?_getD]
/-- nothing is taken -/
theorem ki_none (hp : Pm p) (hz : (sg p columns start).any (fun n => n != 0) = false) : KI p start steps m columns [] [] (List.replicate p.toNat []) 0 0 := by
  have rep : ∀ r, (List.replicate p.toNat ([] : List (List Int))).getD r [] = [] := fun r => by
    rw [List.getD_eq_getElem?_getD, List.getElem?_replicate]
    split <;> rfl
  refine ⟨fun R _ h => SI.nil h, fun t ht => absurd ht (by simp), List.length_replicate, fun r hr => by rw [rep]; rfl, Nat.le_refl _, fun r hr k hk => ?_, fun _ R _ h x hx => ?_, fun z => absurd rfl z⟩
  · rw [rep] at hk
    exact absurd hk (Nat.not_lt_zero _)
  · have hm := getD_mem (d := (0 : Int)) (show x < (sg p columns start).length by rw [sg_len]; exact hx)
    have q := List.any_eq_false.mp hz _ hm
    have e : (sg p columns start).getD x 0 = 0 := by simpa using q
    rw [e, h.zero]
/-- the start is taken -/
theorem ki_one (hp : Pm p) (hs : start.length = m ∧ Nm p start) (hz : (sg p columns start).any (fun n => n != 0) = true) : KI p start steps m columns ([] ++ [takeM p ([] : List SLine).length [] (sg p columns start)]) ([] ++ [start]) (List.replicate p.toNat []) 0 0 := by
  have rep : ∀ r, (List.replicate p.toNat ([] : List (List Int))).getD r [] = [] := fun r => by
    rw [List.getD_eq_getElem?_getD, List.getElem?_replicate]
    split <;> rfl
  have bd : (bdM p ([] : List SLine).length [] (sg p columns start)).1.any (fun n => n != 0) = true := hz
  refine ⟨fun R _ h => ?_, fun t ht => ?_, List.length_replicate, fun r hr => by rw [rep]; rfl, Nat.zero_le _, fun r hr k hk => ?_, fun z => absurd z (by simp), fun _ => rfl⟩
  · exact take_ok (lines := []) (tk := []) hp (SI.nil h) ⟨sg_len _ _ _, sg_nm hp.pos _ _⟩ bd
  · rw [List.nil_append, List.mem_singleton] at ht
    rw [ht]
    exact hs
  · rw [rep] at hk
    exact absurd hk (Nat.not_lt_zero _)
/-- one vector more -/
theorem KI.grow (hp : Pm p) (c : KI p start steps m columns lines tk rows at_ r0) (hat : at_ < tk.length) {v : List Int} (hv : v.length = m ∧ Nm p v) (hn : mixM p lines.length lines (sg p columns v) = none) :
    KI p start steps m columns (lines ++ [takeM p lines.length lines (sg p columns v)]) (tk ++ [v]) rows at_ r0 := by
  have hany : (bdM p lines.length lines (sg p columns v)).1.any (fun n => n != 0) = true := by
    unfold mixM at hn
    by_cases h : (bdM p lines.length lines (sg p columns v)).1.any (fun n => n != 0) = true
    · exact h
    · rw [if_neg h] at hn
      cases hn
  refine ⟨fun R _ h => ?_, fun t ht => ?_, c.rl, c.len, by rw [List.length_append]; omega, fun r hr k hk => ?_, fun z => absurd z (by simp), fun _ => ?_⟩
  · rw [List.map_append]
    exact take_ok hp (c.sia R h) ⟨sg_len _ _ _, sg_nm hp.pos _ _⟩ hany
  · rcases List.mem_append.mp ht with ht | ht
    · exact c.tok t ht
    · rw [List.mem_singleton.mp ht]
      exact hv
  · have q := c.mix r hr k hk
    have lk := c.len r hr
    have kt : k < tk.length := by
      split at lk <;> omega
    rw [List.map_append, getD_app, if_pos kt]
    exact q.more
  · rw [getD_app, if_pos (by omega)]
    exact c.st1 (fun z => by rw [z] at hat; exact absurd hat (Nat.not_lt_zero _))
/-- one mix more -/
theorem KI.put (c : KI p start steps m columns lines tk rows at_ r0) (hr : r0 < p.toNat) {mx : List Int} (hm : MixOk p columns.length (tk.map (sg p columns)) mx (sg p columns (led p (tk.getD at_ []) (steps.getD r0 [])))) :
    KI p start steps m columns lines tk (rows.set r0 (rows.getD r0 [] ++ [mx])) at_ (r0 + 1) := by
  have rl := c.rl
  have l0 := c.len r0 hr
  rw [if_neg (Nat.lt_irrefl _)] at l0
  refine ⟨c.sia, c.tok, by rw [List.length_set]; exact rl, fun r hr2 => ?_, c.atl, fun r hr2 k hk => ?_, c.st0, c.st1⟩
  · rw [getD_setL (by omega)]
    by_cases e : r = r0
    · subst e
      rw [if_pos rfl, if_pos (Nat.lt_succ_self _), List.length_append, l0]
      rfl
    · rw [if_neg e, c.len r hr2]
      congr 1
      by_cases h : r < r0
      · rw [if_pos h, if_pos (by omega)]
      · rw [if_neg h, if_neg (by omega)]
  · rw [getD_setL (by omega)] at hk ⊢
    by_cases e : r = r0
    · subst e
      rw [if_pos rfl] at hk ⊢
      rw [getD_app]
      by_cases h : k < (rows.getD r []).length
      · rw [if_pos h]
        exact c.mix r hr2 k h
      · have ek : k = (rows.getD r []).length := by
          rw [List.length_append, List.length_singleton] at hk
          omega
        rw [if_neg h, if_pos ek]
        have : k = at_ := by omega
        subst this
        exact hm
    · rw [if_neg e] at hk ⊢
      exact c.mix r hr2 k hk
theorem KI.turn (c : KI p start steps m columns lines tk rows at_ p.toNat) (hat : at_ < tk.length) : KI p start steps m columns lines tk rows (at_ + 1) 0 := ⟨c.sia, c.tok, c.rl, fun r hr => by
  rw [c.len r hr, if_pos hr, if_neg (Nat.not_lt_zero _)], hat, c.mix, c.st0, c.st1⟩
/-- the table that is told -/
structure Kept (p : Int) (start : List Int) (steps : List (List (List Int))) (firsts : List Int) (columns : List (List Int)) (begin' : List Int) (steps' : List (List (List Int))) (firsts' : List Int) (tk : List (List Int)) : Prop where
  tb : Tb p begin' steps' firsts'
  n : tk.length = firsts'.length
  le : firsts'.length ≤ columns.length
  ok : ∀ t ∈ tk, t.length = firsts.length ∧ Nm p t
  ini : ∀ k, k < firsts'.length → firsts'.getD k 0 = summed p (tk.getD k []) firsts
  rec_ : ∀ (R : Type) [CommRing R] (h : Hom R p), ∀ k, k < firsts'.length → ∀ r, r < p.toNat → ∀ x, x < columns.length → h.f ((sg p columns (led p (tk.getD k []) (steps.getD r []))).getD x 0) = sumTo tk.length (fun l => h.f (((steps'.getD r []).getD k []).getD l 0) * h.f ((sg p columns (tk.getD l [])).getD x 0))
  bg : ∀ (R : Type) [CommRing R] (h : Hom R p), ∀ x, x < columns.length → h.f ((sg p columns start).getD x 0) = sumTo tk.length (fun l => h.f (begin'.getD l 0) * h.f ((sg p columns (tk.getD l [])).getD x 0))
theorem zeros_at {xs : List Int} {n k : Nat} : (xs ++ List.replicate n 0).getD k 0 = xs.getD k 0 := by
  rw [List.getD_eq_getElem?_getD]
  by_cases h : k < xs.length
  · rw [List.getElem?_append_left h, List.getD_eq_getElem?_getD]
  · rw [List.getElem?_append_right (by omega), getD_none (by omega), ← List.getD_eq_getElem?_getD]
    exact rep_at
theorem KI.fin {firsts : List Int} (hp : Pm p) (hm : m = firsts.length) (hf : firsts.length ≤ 32) (hc : columns.length ≤ firsts.length) (c : KI p start steps m columns lines tk rows at_ 0) (hat : tk.length ≤ at_) :
    Kept p start steps firsts columns ((List.range tk.length).map fun k => if decide (k = 0) then 1 else 0) (rows.map fun some => some.map fun mix => mix ++ List.replicate (tk.length - mix.length) 0) (tk.map fun v => summed p v firsts) tk := by
  subst hm
  obtain ⟨_, few, _⟩ := c.few hp
  have p2 := hp.two
  have atl := c.atl
  have rl := c.rl
  have rlen : ∀ r, r < p.toNat → (rows.getD r []).length = tk.length := fun r hr => by
    rw [c.len r hr, if_neg (Nat.not_lt_zero _)]
    omega
  have rowOf : ∀ some ∈ rows, ∃ r, r < p.toNat ∧ some = rows.getD r [] := fun some hs => by
    obtain ⟨r, hr, rfl⟩ := List.mem_iff_getElem.mp hs
    exact ⟨r, by omega, by rw [List.getD_eq_getElem?_getD, List.getElem?_eq_getElem hr]; rfl⟩
  have mixOf : ∀ some ∈ rows, ∀ mx ∈ some, mx.length ≤ tk.length ∧ Nm p mx := fun some hs mx hm => by
    obtain ⟨r, hr, rfl⟩ := rowOf some hs
    obtain ⟨k, hk, rfl⟩ := List.mem_iff_getElem.mp hm
    have q := c.mix r hr k hk
    rw [show (rows.getD r []).getD k [] = (rows.getD r [])[k] by rw [List.getD_eq_getElem?_getD (l := rows.getD r []), List.getElem?_eq_getElem hk]; rfl] at q
    have l := q.l
    rw [List.length_map] at l
    exact ⟨l, q.n⟩
  refine ⟨⟨hp, by rw [List.length_map]; exact rl, by rw [List.length_map, List.length_map, List.length_range], by rw [List.length_map]; omega, fun s hs => ?_, fun s hs row hrow => ?_, fun x hx => ?_, fun x hx => ?_⟩, (List.length_map _).symm, by rw [List.length_map]; exact few, c.tok, fun k hk => ?_, fun R _ h k hk r hr x hx => ?_, fun R _ h x hx => ?_⟩
  · obtain ⟨some, hsome, rfl⟩ := List.mem_map.mp hs
    obtain ⟨r, hr, rfl⟩ := rowOf some hsome
    rw [List.length_map, List.length_map, rlen r hr]
  · obtain ⟨some, hsome, rfl⟩ := List.mem_map.mp hs
    obtain ⟨mx, hmx, rfl⟩ := List.mem_map.mp hrow
    obtain ⟨l, n⟩ := mixOf some hsome mx hmx
    exact ⟨by rw [List.length_append, List.length_replicate, List.length_map]; omega, n.app (.rep0 hp.pos _)⟩
  · obtain ⟨k, _, rfl⟩ := List.mem_map.mp hx
    split <;> omega
  · obtain ⟨v, _, rfl⟩ := List.mem_map.mp hx
    exact summed_nm hp.pos _ _
  · rw [List.length_map] at hk
    rw [getD_map (d := []) hk]
  · rw [List.length_map] at hk
    have e := (c.mix r hr k (by rw [rlen r hr]; exact hk)).e R h x hx
    rw [List.length_map] at e
    rw [e]
    refine sumTo_congr fun l hl => ?_
    rw [getD_map (d := []) hl, getD_map (d := []) (show r < rows.length by omega), getD_map (d := []) (by rw [rlen r hr]; exact hk), zeros_at]
  · by_cases z : tk = []
    · rw [c.st0 z R h x hx, z]
      rfl
    · have l0 : 0 < tk.length := List.length_pos_iff.mpr z
      rw [sumTo_one l0 (fun l hl hne => ?_), getD_map (d := 0) (by rw [List.length_range]; exact l0), c.st1 z]
      · have r0 : (List.range tk.length).getD 0 0 = 0 := by rw [List.getD_eq_getElem?_getD, List.getElem?_range l0]; rfl
        rw [r0, if_pos (by decide), h.one]
        grind
      · have rk : (List.range tk.length).getD l 0 = l := by rw [List.getD_eq_getElem?_getD, List.getElem?_range hl]; rfl
        rw [getD_map (d := 0) (by rw [List.length_range]; exact hl), rk, if_neg (by simpa using hne), h.zero]
        grind
end
end Dg
end
section
set_option Elab.async false
set_option linter.all false
set_option maxRecDepth 100000
set_option maxHeartbeats 4000000
/-! The plain defs: powers. -/
namespace Dg
open PySem PySem.Spec PyProof.Rows L2

abbrev sp_power_of : Sp := spF (ι := (Int) × (Nat)) (fun t => (aC rI t.1 (aC rN t.2 aN))) (fun t => (fun (p : Int) (often : Nat) => Pm p ∧ often ≤ 1000) (t.1) (t.2)) rI (fun t => (fun (p : Int) (often : Nat) => p ^ often) (t.1) (t.2))
theorem ev_power_of {σ : L2.St} {G H : Hp} {ta : TA} {E : XK} {p : Int} {often : Nat} (ha : EvA ta σ G H (aC rI p (aC rN often aN))) (hp : Pm p ∧ often ≤ 1000) : EvR (tCall sp_power_of [] E ta) σ G H rI (p ^ often) := ev_call (p, often) ha hp
abbrev sp_step_polys : Sp := spF (ι := ((Int) × (List (Int)) × (List (List (List (Int)))) × (List (Int)))) (fun t => (aC (rQd rI (rT rI) (rT (rT (rT rI))) (rT rI)) t aN)) (fun t => (fun (table : (Int) × (List (Int)) × (List (List (List (Int)))) × (List (Int))) => Tb table.1 table.2.1 table.2.2.1 table.2.2.2) (t)) (rL (rL (rT rI))) (fun t => (fun (table : (Int) × (List (Int)) × (List (List (List (Int)))) × (List (Int))) => stepPolys table.2.2.1 table.2.2.2.length) (t))
theorem ev_step_polys {σ : L2.St} {G H : Hp} {ta : TA} {E : XK} {table : (Int) × (List (Int)) × (List (List (List (Int)))) × (List (Int))} (ha : EvA ta σ G H (aC (rQd rI (rT rI) (rT (rT (rT rI))) (rT rI)) table aN)) (hp : Tb table.1 table.2.1 table.2.2.1 table.2.2.2) : EvR (tCall sp_step_polys [] E ta) σ G H (rL (rL (rT rI))) (stepPolys table.2.2.1 table.2.2.2.length) := ev_call table ha hp
abbrev sp_spread_polys : Sp := spF (ι := (Int) × (List (List (List (Int))))) (fun t => (aC rI t.1 (aC (rL (rL (rT rI))) t.2 aN))) (fun t => (fun (p : Int) (polys : List (List (List (Int)))) => Pm p ∧ polys.length ≤ 100 ∧ ∀ row ∈ polys, row.length ≤ 100 ∧ Po p 10000 row) (t.1) (t.2)) (rL (rL (rT rI))) (fun t => (fun (p : Int) (polys : List (List (List (Int)))) => spreadPolys p polys) (t.1) (t.2))
theorem ev_spread_polys {σ : L2.St} {G H : Hp} {ta : TA} {E : XK} {p : Int} {polys : List (List (List (Int)))} (ha : EvA ta σ G H (aC rI p (aC (rL (rL (rT rI))) polys aN))) (hp : Pm p ∧ polys.length ≤ 100 ∧ ∀ row ∈ polys, row.length ≤ 100 ∧ Po p 10000 row) : EvR (tCall sp_spread_polys [] E ta) σ G H (rL (rL (rT rI))) (spreadPolys p polys) := ev_call (p, polys) ha hp
abbrev sp_row_by_square : Sp := spF (ι := (Int) × (List (List (Int))) × (List (List (List (Int))))) (fun t => (aC rI t.1 (aC (rL (rT rI)) t.2.1 (aC (rL (rL (rT rI))) t.2.2 aN)))) (fun t => (fun (p : Int) (row : List (List (Int))) (square : List (List (List (Int)))) => Pm p ∧ row.length ≤ 100 ∧ Po p 10000 row ∧ ∀ r ∈ square, r.length = row.length ∧ Po p 10000 r) (t.1) (t.2.1) (t.2.2)) (rL (rT rI)) (fun t => (fun (p : Int) (row : List (List (Int))) (square : List (List (List (Int)))) => rowBySq p row square) (t.1) (t.2.1) (t.2.2))
theorem ev_row_by_square {σ : L2.St} {G H : Hp} {ta : TA} {E : XK} {p : Int} {row : List (List (Int))} {square : List (List (List (Int)))} (ha : EvA ta σ G H (aC rI p (aC (rL (rT rI)) row (aC (rL (rL (rT rI))) square aN)))) (hp : Pm p ∧ row.length ≤ 100 ∧ Po p 10000 row ∧ ∀ r ∈ square, r.length = row.length ∧ Po p 10000 r) : EvR (tCall sp_row_by_square [] E ta) σ G H (rL (rT rI)) (rowBySq p row square) := ev_call (p, row, square) ha hp
abbrev sp_rows_by_powers : Sp := spF (ι := ((Int) × (List (Int)) × (List (List (List (Int)))) × (List (Int))) × (Nat)) (fun t => (aC (rQd rI (rT rI) (rT (rT (rT rI))) (rT rI)) t.1 (aC rN t.2 aN))) (fun t => (fun (table : (Int) × (List (Int)) × (List (List (List (Int)))) × (List (Int))) (often : Nat) => Tb table.1 table.2.1 table.2.2.1 table.2.2.2 ∧ often ≤ 5 ∧ table.1.toNat ^ often ≤ 32) (t.1) (t.2)) (rL (rL (rT rI))) (fun t => (fun (table : (Int) × (List (Int)) × (List (List (List (Int)))) × (List (Int))) (often : Nat) => rowsByPowers table.1 table.2.1 table.2.2.1 table.2.2.2.length often) (t.1) (t.2))
theorem ev_rows_by_powers {σ : L2.St} {G H : Hp} {ta : TA} {E : XK} {table : (Int) × (List (Int)) × (List (List (List (Int)))) × (List (Int))} {often : Nat} (ha : EvA ta σ G H (aC (rQd rI (rT rI) (rT (rT (rT rI))) (rT rI)) table (aC rN often aN))) (hp : Tb table.1 table.2.1 table.2.2.1 table.2.2.2 ∧ often ≤ 5 ∧ table.1.toNat ^ often ≤ 32) : EvR (tCall sp_rows_by_powers [] E ta) σ G H (rL (rL (rT rI))) (rowsByPowers table.1 table.2.1 table.2.2.1 table.2.2.2.length often) := ev_call (table, often) ha hp
abbrev sp_how_often : Sp := spF (ι := (Int) × (List (Int)) × (List (Int))) (fun t => (aC rI t.1 (aC (rT rI) t.2.1 (aC (rT rI) t.2.2 aN)))) (fun t => (fun (p : Int) (one : List (Int)) (other : List (Int)) => Pm p ∧ one.length ≤ 20000 ∧ other.length ≤ 20000 ∧ Nm p other ∧ other ≠ [] ∧ other.getD (other.length - 1) 0 ≠ 0) (t.1) (t.2.1) (t.2.2)) (rT rI) (fun t => (fun (p : Int) (one : List (Int)) (other : List (Int)) => howOften p one other) (t.1) (t.2.1) (t.2.2))
theorem ev_how_often {σ : L2.St} {G H : Hp} {ta : TA} {E : XK} {p : Int} {one : List (Int)} {other : List (Int)} (ha : EvA ta σ G H (aC rI p (aC (rT rI) one (aC (rT rI) other aN)))) (hp : Pm p ∧ one.length ≤ 20000 ∧ other.length ≤ 20000 ∧ Nm p other ∧ other ≠ [] ∧ other.getD (other.length - 1) 0 ≠ 0) : EvR (tCall sp_how_often [] E ta) σ G H (rT rI) (howOften p one other) := ev_call (p, one, other) ha hp
abbrev sp_less_often : Sp := spF (ι := (Int) × (List (List (Int))) × (List (Int)) × (List (List (Int)))) (fun t => (aC rI t.1 (aC (rL (rT rI)) t.2.1 (aC (rT rI) t.2.2.1 (aC (rL (rT rI)) t.2.2.2 aN))))) (fun t => (fun (p : Int) (row : List (List (Int))) (often : List (Int)) (other : List (List (Int))) => Pm p ∧ row.length ≤ 100 ∧ Po p 10000 row ∧ often.length ≤ 10000 ∧ Po p 10000 other) (t.1) (t.2.1) (t.2.2.1) (t.2.2.2)) (rL (rT rI)) (fun t => (fun (p : Int) (row : List (List (Int))) (often : List (Int)) (other : List (List (Int))) => lessOften p row often other) (t.1) (t.2.1) (t.2.2.1) (t.2.2.2))
theorem ev_less_often {σ : L2.St} {G H : Hp} {ta : TA} {E : XK} {p : Int} {row : List (List (Int))} {often : List (Int)} {other : List (List (Int))} (ha : EvA ta σ G H (aC rI p (aC (rL (rT rI)) row (aC (rT rI) often (aC (rL (rT rI)) other aN))))) (hp : Pm p ∧ row.length ≤ 100 ∧ Po p 10000 row ∧ often.length ≤ 10000 ∧ Po p 10000 other) : EvR (tCall sp_less_often [] E ta) σ G H (rL (rT rI)) (lessOften p row often other) := ev_call (p, row, often, other) ha hp
section
variable {P : Program} {w : World} {K : PySem.W.Frag} {mg : Str → Option Value} {base : Heap}


theorem sc_power_of : FnScope ["p", "often", "found", "turn"] ["p", "often"] (defScope (top 21)) := ⟨rfl, rfl, rfl, by decide +kernel, rfl, by decide +kernel, by decide +kernel⟩
theorem b_power_of (h : Hd K mg) : Binds K h.fd_power_of ["p", "often"] [] := h.F_power_of.bindsN fun _ _ _ _ _ _ us hl => match us, hl with | [_, _], _ => rfl
theorem ok_power_of (h : Hd K mg) : FnOk P w K mg base CX0 1 h.f_power_of h.fd_power_of ["p", "often"] sp_power_of := by
  have nd := sc_power_of.nd
  refine h.F_power_of.ok sc_power_of (len_spF fun _ _ _ _ h => (ArgsE.sl h).1) (fun cdv A outer s H vs Q E hr hsp => ⟨_, PSs.nox
    (pss_cons (ps_set (i := 2) nd rfl (by first | exact .inl rfl | exact .inr rfl) pe_int)
    (pss_cons (ps_for PassesOwn.never rfl (pi_range1 rfl h.b_range (pa_cons (pv 1) pa_nil)) (pg_name (i := 3) nd rfl (by first | exact .inl rfl | exact .inr rfl)) (pss_one (ps_set (i := 2) nd rfl (by first | exact .inl rfl | exact .inr rfl) (pe_op op_mul (pv 2) (pv 0)))))
    (pss_one (ps_ret (pv 2))))), pure_run hsp fun t W D hp hS q => ?_⟩)
  obtain ⟨p, often⟩ := t
  dsimp only at hp q
  show Nx W _ ⟨[eR rI p, eR rN often, eAny, eAny], []⟩

  obtain ⟨hp, l1⟩ := hp
  refine nx_seq (nx_asg (fun e => ev_i) ?_)
  refine nx_seq (nx_fold (fun e => (ei_r1 (ev_nI (lk e 1 rfl)) ?_ ?_)) (fun k f => f = p ^ k) (fun f => ⟨[eR rI p, eR rN often, eR rI f, eAny], []⟩) (fun f _ => f * p) _ (fun x => [(3, eR rN x)]) ⟨.same (.same (.same (.any .nil))), List.Sublist.refl _⟩ (Int.pow_zero p).symm (fun x hx => (tg_n 3)) (by simp) ?_ ?_)
  · omega
  · omega
  · intro W' e1 e2 e3 k f x hx hf
    refine ⟨by rw [hf, Int.pow_succ], ?_⟩
    refine nx_asg (fun e => (ev_mul (lk e 2 rfl) (lk e 0 rfl) ?_)) (nx_end ⟨.same (.same (.same (.any .nil))), List.Sublist.refl _⟩)
    have := hp.le
    have := hp.pos
    exact Or.inr ⟨by omega, by omega⟩
  · intro hf
    rw [List.length_range, Int.toNat_natCast] at hf
    exact nx_retP hS q (fun e => EvR.is (lk e 2 rfl) hf)


theorem sc_step_polys : FnScope ["table", "p", "begin", "steps", "firsts", "many", "i", "j", "step"] ["table"] (defScope (top 22)) := ⟨rfl, rfl, rfl, by decide +kernel, rfl, by decide +kernel, by decide +kernel⟩
theorem b_step_polys (h : Hd K mg) : Binds K h.fd_step_polys ["table"] [] := h.F_step_polys.bindsN fun _ _ _ _ _ _ us hl => match us, hl with | [_], _ => rfl
theorem ok_step_polys (h : Hd K mg) : FnOk P w K mg base CX0 2 h.f_step_polys h.fd_step_polys ["table"] sp_step_polys := by
  have nd := sc_step_polys.nd
  refine h.F_step_polys.ok sc_step_polys (len_spF fun _ _ _ _ h => (ArgsE.sl h).1) (fun cdv A outer s H vs Q E hr hsp => ⟨_, PSs.nox
    (pss_cons (ps_asg (pv 0) (k_tup (K := K) (n := 4) rfl rfl (pgs_cons (pg_name (i := 1) nd rfl (by first | exact .inl rfl | exact .inr rfl)) (pgs_cons (pg_name (i := 2) nd rfl (by first | exact .inl rfl | exact .inr rfl)) (pgs_cons (pg_name (i := 3) nd rfl (by first | exact .inl rfl | exact .inr rfl)) (pgs_cons (pg_name (i := 4) nd rfl (by first | exact .inl rfl | exact .inr rfl)) pgs_nil))))))
    (pss_cons (ps_set (i := 5) nd rfl (by first | exact .inl rfl | exact .inr rfl) (pe_callB (k_len (K := K) rfl) rfl h.b_len (by decide +kernel) (pa_cons (pv 4) pa_nil)))
    (pss_one (ps_ret (pe_lc rfl nd (pi_range1 rfl h.b_range (pa_cons (pv 5) pa_nil)) (blkOk_by (own := [("i", 6)]) (by kernel_rfl)) (fun _ _ _ _ _ => (by exact (pg_name (i := 6) nd rfl (by first | exact .inl rfl | exact .inr rfl)))) (fun _ _ _ _ _ => pts_nil) (fun _ _ _ _ _ => (pe_lc rfl nd (pi_range1 rfl h.b_range (pa_cons (pv 5) pa_nil)) (blkOk_by (own := [("j", 7)]) (by kernel_rfl)) (fun _ _ _ _ _ => (by exact (pg_name (i := 7) nd rfl (by first | exact .inl rfl | exact .inr rfl)))) (fun _ _ _ _ _ => pts_nil) (fun _ _ _ _ _ => (pe_call (ok_trimmed h) (hr.mono (by decide)) rfl h.g_trimmed h.F_trimmed.kp (b_trimmed h) .nil pass0 (pa_cons (pe_lc rfl nd (k_piT (K := K) rfl (pv 3)) (blkOk_by (own := [("step", 8)]) (by kernel_rfl)) (fun _ _ _ _ _ => (by exact (pg_name (i := 8) nd rfl (by first | exact .inl rfl | exact .inr rfl)))) (fun _ _ _ _ _ => pts_nil) (fun _ _ _ _ _ => (pe_ix (k_ixT (K := K) rfl) (pe_ix (k_ixT (K := K) rfl) (pv 8) (pv 6) (fun _ _ => rfl)) (pv 7) (fun _ _ => rfl)))) pa_nil)))))))))), pure_run hsp fun table W D hp hS q => ?_⟩)
  dsimp only at hp q
  show Nx W _ ⟨[eR (rQd rI (rT rI) (rT (rT (rT rI))) (rT rI)) table, eAny, eAny, eAny, eAny, eAny, eAny, eAny, eAny], []⟩

  have nm := hp.nm
  refine nx_seq (nx_tup (fun e => (lk e 0 rfl)) (tg_u (tga_c (tga_c (tga_c (tga_c tga_n)))) (by rfl)) ?_)
  refine nx_seq (nx_asg (fun e => (ev_lenN (lk e 4 rfl))) ?_)
  refine nx_retP hS q (fun e => EvR.is (en_lc1 e (ei_r1 (ev_nI (lk e 5 rfl)) ?_ ?_) ?_ (fun x => [(6, eR rN x)]) (fun x hx => (tg_n 6)) (by simp) (fun x hx σ2 G2 H2 e2 => (en_lc1 e2 (ei_r1 (ev_nI (lk e2 5 rfl)) ?_ ?_) ?_ (fun x => [(7, eR rN x)]) (fun x hx => (tg_n 7)) (by simp) (fun x hx σ2 G2 H2 e2 => (ev_trimmedL (ea_c (ev_rr (en_lc1 e2 (ei_t (lk e2 3 rfl)) ?_ (fun x => [(8, eR (rT (rT rI)) x)]) (fun x hx => (tg_n 8)) (by simp) (fun x hx σ2 G2 H2 e2 => (ev_gTn (d := 0) (ev_gTn (d := []) (lk e2 8 rfl) (lk e2 6 rfl) ?_) (lk e2 7 rfl) ?_))).ev) ea_n) ?_))).ev)).ev (by rw [Int.toNat_natCast]; rfl))
  · omega
  · omega
  · rw [List.length_range]; omega
  · omega
  · omega
  · rw [List.length_range]; omega
  · have := hp.np; have := hp.pm.le; omega
  · rename_i i hi _ _ _ _ j hj _ _ _ _
    rw [List.mem_range] at hi hj
    have := hp.st x hx
    show i < x.length
    omega
  · rename_i i hi _ _ _ _ j hj _ _ _ _
    rw [List.mem_range] at hi hj
    have l1 := hp.st x hx
    have l2 := (hp.rw x hx (x.getD i []) (getD_mem (by omega))).1
    show j < (x.getD i []).length
    omega
  · rw [List.length_map]
    have := hp.np
    have := hp.pm.le
    omega


theorem sc_spread_polys : FnScope ["p", "polys", "row", "poly"] ["p", "polys"] (defScope (top 23)) := ⟨rfl, rfl, rfl, by decide +kernel, rfl, by decide +kernel, by decide +kernel⟩
theorem b_spread_polys (h : Hd K mg) : Binds K h.fd_spread_polys ["p", "polys"] [] := h.F_spread_polys.bindsN fun _ _ _ _ _ _ us hl => match us, hl with | [_, _], _ => rfl
theorem ok_spread_polys (h : Hd K mg) : FnOk P w K mg base CX0 3 h.f_spread_polys h.fd_spread_polys ["p", "polys"] sp_spread_polys := by
  have nd := sc_spread_polys.nd
  refine h.F_spread_polys.ok sc_spread_polys (len_spF fun _ _ _ _ h => (ArgsE.sl h).1) (fun cdv A outer s H vs Q E hr hsp => ⟨_, PSs.nox
    (pss_one (ps_ret (pe_lc rfl nd (k_piL (K := K) rfl (pv 1)) (blkOk_by (own := [("row", 2)]) (by kernel_rfl)) (fun _ _ _ _ _ => (by exact (pg_name (i := 2) nd rfl (by first | exact .inl rfl | exact .inr rfl)))) (fun _ _ _ _ _ => pts_nil) (fun _ _ _ _ _ => (pe_lc rfl nd (k_piL (K := K) rfl (pv 2)) (blkOk_by (own := [("poly", 3)]) (by kernel_rfl)) (fun _ _ _ _ _ => (by exact (pg_name (i := 3) nd rfl (by first | exact .inl rfl | exact .inr rfl)))) (fun _ _ _ _ _ => pts_nil) (fun _ _ _ _ _ => (pe_call (ok_spread_out h) (hr.mono (by decide)) rfl h.g_spread_out h.F_spread_out.kp (b_spread_out h) .nil pass0 (pa_cons (pv 0) (pa_cons (pv 3) pa_nil))))))))), pure_run hsp fun t W D hp hS q => ?_⟩)
  obtain ⟨p, polys⟩ := t
  dsimp only at hp q
  show Nx W _ ⟨[eR rI p, eR (rL (rL (rT rI))) polys, eAny, eAny], []⟩

  obtain ⟨hp, l1, hr⟩ := hp
  refine nx_retP hS q (fun e => (en_lc1 e (ei_l (lk e 1 rfl)) ?_ (fun x => [(2, eR (rL (rT rI)) x)]) (fun x hx => (tg_n 2)) (by simp) (fun x hx σ2 G2 H2 e2 => (en_lc1 e2 (ei_l (lk e2 2 rfl)) ?_ (fun x => [(3, eR (rT rI) x)]) (fun x hx => (tg_n 3)) (by simp) (fun x hx σ2 G2 H2 e2 => (ev_spread_out (ea_c (lk e2 0 rfl) (ea_c (lk e2 3 rfl) ea_n)) ?_))).ev)).ev)
  · omega
  · have := (hr x hx).1
    omega
  · rename_i row hrow _ _ _ _
    exact ⟨hp, ((hr row hrow).2 x hx).1⟩


theorem sc_row_by_square : FnScope ["p", "row", "square", "found", "poly", "line", "old", "more"] ["p", "row", "square"] (defScope (top 24)) := ⟨rfl, rfl, rfl, by decide +kernel, rfl, by decide +kernel, by decide +kernel⟩
theorem b_row_by_square (h : Hd K mg) : Binds K h.fd_row_by_square ["p", "row", "square"] [] := h.F_row_by_square.bindsN fun _ _ _ _ _ _ us hl => match us, hl with | [_, _, _], _ => rfl
theorem ok_row_by_square (h : Hd K mg) : FnOk P w K mg base CX0 3 h.f_row_by_square h.fd_row_by_square ["p", "row", "square"] sp_row_by_square := by
  have nd := sc_row_by_square.nd
  refine h.F_row_by_square.ok sc_row_by_square (len_spF fun _ _ _ _ h => (ArgsE.sl h).1) (fun cdv A outer s H vs Q E hr hsp => ⟨_, PSs.nox
    (pss_cons (ps_setLc (i := 3) rfl nd rfl rfl (sw_true rfl rfl rfl (by decide +kernel)) (k_piL (K := K) rfl (pv 1)) (blkOk_by (own := [("poly", 4)]) (by kernel_rfl)) (fun _ _ _ _ _ => (by exact (pg_name (i := 4) nd rfl (by first | exact .inl rfl | exact .inr rfl)))) (fun _ _ _ _ _ => pts_nil) (fun _ _ _ _ _ => (pe_tup pa_nil)))
    (pss_cons (ps_for PassesOwn.never rfl (k_piZ (K := K) rfl true true rfl h.b_zip (pa_cons (pv 1) (pa_cons (pv 2) pa_nil))) (k_tup (K := K) (n := 2) rfl rfl (pgs_cons (pg_name (i := 4) nd rfl (by first | exact .inl rfl | exact .inr rfl)) (pgs_cons (pg_name (i := 5) nd rfl (by first | exact .inl rfl | exact .inr rfl)) pgs_nil))) (pss_one (ps_if (pt_cmpR (k_neD (K := K) rfl (hu64 hr)) (pv 4) (pe_tup pa_nil) (nomark _)) (pss_one (ps_setLc (i := 3) rfl nd rfl rfl (sw_true rfl rfl rfl (by decide +kernel)) (k_piZ (K := K) rfl true true rfl h.b_zip (pa_cons (pv 3) (pa_cons (pv 5) pa_nil))) (blkOk_by (own := [("old", 6), ("more", 7)]) (by kernel_rfl)) (fun _ _ _ _ _ => (by exact (k_tup (K := K) (n := 2) rfl rfl (pgs_cons (pg_name (i := 6) nd rfl (by first | exact .inl rfl | exact .inr rfl)) (pgs_cons (pg_name (i := 7) nd rfl (by first | exact .inl rfl | exact .inr rfl)) pgs_nil))))) (fun _ _ _ _ _ => pts_nil) (fun _ _ _ _ _ => (pe_call (ok_added h) (hr.mono (by decide)) rfl h.g_added h.F_added.kp (b_added h) .nil pass0 (pa_cons (pv 0) (pa_cons (pv 6) (pa_cons (pe_call (ok_multiplied h) (hr.mono (by decide)) rfl h.g_multiplied h.F_multiplied.kp (b_multiplied h) .nil pass0 (pa_cons (pv 0) (pa_cons (pv 4) (pa_cons (pv 7) pa_nil)))) (pa_cons pe_int pa_nil)))))))) pss_nil)))
    (pss_one (ps_ret (pv 3))))), pure_run hsp fun t W D hp hS q => ?_⟩)
  obtain ⟨p, row, square⟩ := t
  dsimp only at hp q
  show Nx W _ ⟨[eR rI p, eR (rL (rT rI)) row, eR (rL (rL (rT rI))) square, eAny, eAny, eAny, eAny, eAny], []⟩

  obtain ⟨hp, l1, h1, h2⟩ := hp
  have h0 := hp.pos
  refine nx_seq (nx_asg (fun e => (en_lc1 e (ei_l (lk e 1 rfl)) ?_ (fun x => [(4, eR (rT rI) x)]) (fun x hx => (tg_n 4)) (by simp) (fun x hx σ2 G2 H2 e2 => (ev_nilT (r := rI)))).ev) ?_)
  · omega
  refine nx_seq (nx_fold (fun e => (ei_z (lk e 1 rfl) (lk e 2 rfl))) (fun _ acc => acc.length = row.length ∧ Po p (10000 + 10000) acc) (fun acc => ⟨[eR rI p, eR (rL (rT rI)) row, eR (rL (rL (rT rI))) square, eR (rL (rT rI)) acc, eAny, eAny, eAny, eAny], []⟩) (rbs p) _ (fun x => [(4, eR (rT rI) x.1), (5, eR (rL (rT rI)) x.2)]) ⟨.same (.same (.same (.same (.any (.any (.any (.any .nil))))))), List.Sublist.refl _⟩ ?_ (fun x hx => (tg_u (tga_c (tga_c tga_n)) (by rfl))) (by simp) ?_ ?_)
  · refine ⟨by rw [List.length_map], fun poly hm => ?_⟩
    obtain ⟨y, _, rfl⟩ := List.mem_map.mp hm
    exact ⟨by decide, .nil⟩
  · intro W' e1 e2 e3 k acc w hw ⟨hl, ha⟩
    obtain ⟨m1, m2⟩ := List.of_mem_zip (List.mem_of_getElem? hw)
    obtain ⟨s1, s2⟩ := h2 _ m2
    refine ⟨⟨by rw [rbs_len (by omega)]; exact hl, rbs_po h0 ha (h1 _ m1).1 s2⟩, ?_⟩
    refine nx_if (fun e => (et_t (ev_neU (lk e 4 rfl)))) (fun hb => ?_) (fun hb => ?_)
    · have hb : w.1 ≠ [] := by simpa using hb
      refine nx_asg (fun e => EvR.is (en_lc1 e (ei_z (lk e 3 rfl) (lk e 5 rfl)) ?_ (fun x => [(6, eR (rT rI) x.1), (7, eR (rT rI) x.2)]) (fun x hx => (tg_u (tga_c (tga_c tga_n)) (by rfl))) (by simp) (fun x hx σ2 G2 H2 e2 => (ev_added (ea_c (lk e2 0 rfl) (ea_c (lk e2 6 rfl) (ea_c (ev_multiplied (ea_c (lk e2 0 rfl) (ea_c (lk e2 4 rfl) (ea_c (lk e2 7 rfl) ea_n))) ?_) (ea_c ev_i ea_n)))) ?_))).ev (show _ = rbs p acc w by unfold rbs; rw [if_pos hb])) (nx_end ⟨.same (.same (.same (.same (.any (.any (.any (.any .nil))))))), List.Sublist.refl _⟩)
      · rw [List.length_zip]; omega
      · obtain ⟨a, b⟩ := List.of_mem_zip hx
        have l1 := (h1 _ m1).1
        have l2 := (s2 _ b)
        exact ⟨hp, by omega, by omega, l2.2⟩
      · obtain ⟨a, b⟩ := List.of_mem_zip hx
        have l1 := (h1 _ m1).1
        have l2 := (s2 _ b).1
        have l3 := (ha _ a).1
        have l4 := mul_len p w.1 x.2
        exact ⟨hp, by omega, by omega, mul_nm h0 _ _⟩
    · have hb : w.1 = [] := by simpa using hb
      have e : rbs p acc w = acc := by unfold rbs; rw [if_neg (by rw [hb]; exact fun z => z rfl)]
      rw [e]
      exact nx_next (nx_end ⟨.same (.same (.same (.same (.any (.any (.any (.any .nil))))))), List.Sublist.refl _⟩)
  · intro hl
    exact nx_retP hS q (fun e => (lk e 3 rfl))


theorem sc_less_often : FnScope ["p", "row", "often", "other", "old", "more"] ["p", "row", "often", "other"] (defScope (top 27)) := ⟨rfl, rfl, rfl, by decide +kernel, rfl, by decide +kernel, by decide +kernel⟩
theorem b_less_often (h : Hd K mg) : Binds K h.fd_less_often ["p", "row", "often", "other"] [] := h.F_less_often.bindsN fun _ _ _ _ _ _ us hl => match us, hl with | [_, _, _, _], _ => rfl
theorem ok_less_often (h : Hd K mg) : FnOk P w K mg base CX0 3 h.f_less_often h.fd_less_often ["p", "row", "often", "other"] sp_less_often := by
  have nd := sc_less_often.nd
  refine h.F_less_often.ok sc_less_often (len_spF fun _ _ _ _ h => (ArgsE.sl h).1) (fun cdv A outer s H vs Q E hr hsp => ⟨_, PSs.nox
    (pss_one (ps_ret (pe_lc rfl nd (k_piZ (K := K) rfl true true rfl h.b_zip (pa_cons (pv 1) (pa_cons (pv 3) pa_nil))) (blkOk_by (own := [("old", 4), ("more", 5)]) (by kernel_rfl)) (fun _ _ _ _ _ => (by exact (k_tup (K := K) (n := 2) rfl rfl (pgs_cons (pg_name (i := 4) nd rfl (by first | exact .inl rfl | exact .inr rfl)) (pgs_cons (pg_name (i := 5) nd rfl (by first | exact .inl rfl | exact .inr rfl)) pgs_nil))))) (fun _ _ _ _ _ => pts_nil) (fun _ _ _ _ _ => (pe_call (ok_added h) (hr.mono (by decide)) rfl h.g_added h.F_added.kp (b_added h) .nil pass0 (pa_cons (pv 0) (pa_cons (pv 4) (pa_cons (pe_call (ok_multiplied h) (hr.mono (by decide)) rfl h.g_multiplied h.F_multiplied.kp (b_multiplied h) .nil pass0 (pa_cons (pv 0) (pa_cons (pv 2) (pa_cons (pv 5) pa_nil)))) (pa_cons (pe_un un_neg pe_int) pa_nil))))))))), pure_run hsp fun t W D hp hS q => ?_⟩)
  obtain ⟨p, row, often, other⟩ := t
  dsimp only at hp q
  show Nx W _ ⟨[eR rI p, eR (rL (rT rI)) row, eR (rT rI) often, eR (rL (rT rI)) other, eAny, eAny], []⟩

  obtain ⟨hp, l1, h1, l2, h2⟩ := hp
  have h0 := hp.pos
  refine nx_retP hS q (fun e => (en_lc1 e (ei_z (lk e 1 rfl) (lk e 3 rfl)) ?_ (fun x => [(4, eR (rT rI) x.1), (5, eR (rT rI) x.2)]) (fun x hx => (tg_u (tga_c (tga_c tga_n)) (by rfl))) (by simp) (fun x hx σ2 G2 H2 e2 => (ev_added (ea_c (lk e2 0 rfl) (ea_c (lk e2 4 rfl) (ea_c (ev_multiplied (ea_c (lk e2 0 rfl) (ea_c (lk e2 2 rfl) (ea_c (lk e2 5 rfl) ea_n))) ?_) (ea_c (ev_neg ev_i) ea_n)))) ?_))).ev)
  · rw [List.length_zip]; omega
  · obtain ⟨a, b⟩ := List.of_mem_zip hx
    have := (h2 _ b)
    exact ⟨hp, by omega, by omega, this.2⟩
  · obtain ⟨a, b⟩ := List.of_mem_zip hx
    have l3 := (h2 _ b).1
    have l5 := (h1 _ a).1
    have l4 := mul_len p often x.2
    exact ⟨hp, by omega, by omega, mul_nm h0 _ _⟩


theorem sc_rows_by_powers : FnScope ["table", "often", "p", "begin", "steps", "firsts", "squares", "square", "turn", "found", "first", "row", "number"] ["table", "often"] (defScope (top 25)) := ⟨rfl, rfl, rfl, by decide +kernel, rfl, by decide +kernel, by decide +kernel⟩
theorem b_rows_by_powers (h : Hd K mg) : Binds K h.fd_rows_by_powers ["table", "often"] [] := h.F_rows_by_powers.bindsN fun _ _ _ _ _ _ us hl => match us, hl with | [_, _], _ => rfl
theorem ok_rows_by_powers (h : Hd K mg) : FnOk P w K mg base CX0 4 h.f_rows_by_powers h.fd_rows_by_powers ["table", "often"] sp_rows_by_powers := by
  have nd := sc_rows_by_powers.nd
  refine h.F_rows_by_powers.ok sc_rows_by_powers (len_spF fun _ _ _ _ h => (ArgsE.sl h).1) (fun cdv A outer s H vs Q E hr hsp => ⟨_, PSs.nox
    (pss_cons (ps_asg (pv 0) (k_tup (K := K) (n := 4) rfl rfl (pgs_cons (pg_name (i := 2) nd rfl (by first | exact .inl rfl | exact .inr rfl)) (pgs_cons (pg_name (i := 3) nd rfl (by first | exact .inl rfl | exact .inr rfl)) (pgs_cons (pg_name (i := 4) nd rfl (by first | exact .inl rfl | exact .inr rfl)) (pgs_cons (pg_name (i := 5) nd rfl (by first | exact .inl rfl | exact .inr rfl)) pgs_nil))))))
    (pss_cons (ps_set (i := 6) nd rfl (by first | exact .inl rfl | exact .inr rfl) (pe_lst pa_nil))
    (pss_cons (ps_set (i := 7) nd rfl (by first | exact .inl rfl | exact .inr rfl) (pe_call (ok_step_polys h) (hr.mono (by decide)) rfl h.g_step_polys h.F_step_polys.kp (b_step_polys h) .nil pass0 (pa_cons (pv 0) pa_nil)))
    (pss_cons (ps_for PassesOwn.never rfl (pi_range1 rfl h.b_range (pa_cons (pv 1) pa_nil)) (pg_name (i := 8) nd rfl (by first | exact .inl rfl | exact .inr rfl)) (pss_cons (ps_expr (pe_bm PySem.F.plainAttrs_list PySem.F.slot_list_append PySem.F.type_list_append mt_append (pv 6) (pa_cons (pv 7) pa_nil)))
    (pss_one (ps_set (i := 7) nd rfl (by first | exact .inl rfl | exact .inr rfl) (pe_call (ok_spread_polys h) (hr.mono (by decide)) rfl h.g_spread_polys h.F_spread_polys.kp (b_spread_polys h) .nil pass0 (pa_cons (pv 2) (pa_cons (pv 7) pa_nil)))))))
    (pss_cons (ps_set (i := 9) nd rfl (by first | exact .inl rfl | exact .inr rfl) (pe_lst pa_nil))
    (pss_cons (ps_for PassesOwn.never rfl (pi_range1 rfl h.b_range (pa_cons (pe_op op_add (pv 1) pe_int) pa_nil)) (pg_name (i := 10) nd rfl (by first | exact .inl rfl | exact .inr rfl)) (pss_cons (ps_setLc (i := 11) rfl nd rfl rfl (sw_true rfl rfl rfl (by decide +kernel)) (k_piT (K := K) rfl (pv 3)) (blkOk_by (own := [("number", 12)]) (by kernel_rfl)) (fun _ _ _ _ _ => (by exact (pg_name (i := 12) nd rfl (by first | exact .inl rfl | exact .inr rfl)))) (fun _ _ _ _ _ => pts_nil) (fun _ _ _ _ _ => (pe_call (ok_trimmed h) (hr.mono (by decide)) rfl h.g_trimmed h.F_trimmed.kp (b_trimmed h) .nil pass0 (pa_cons (pe_lst (pa_cons (pv 12) pa_nil)) pa_nil))))
    (pss_cons (ps_for PassesOwn.never rfl (k_piL (K := K) rfl (pe_slice (k_slL (K := K) rfl) (pv 6) (po_some (pv 10)) po_none)) (pg_name (i := 7) nd rfl (by first | exact .inl rfl | exact .inr rfl)) (pss_one (ps_set (i := 11) nd rfl (by first | exact .inl rfl | exact .inr rfl) (pe_call (ok_row_by_square h) (hr.mono (by decide)) rfl h.g_row_by_square h.F_row_by_square.kp (b_row_by_square h) .nil pass0 (pa_cons (pv 2) (pa_cons (pv 11) (pa_cons (pv 7) pa_nil)))))))
    (pss_one (ps_expr (pe_bm PySem.F.plainAttrs_list PySem.F.slot_list_append PySem.F.type_list_append mt_append (pv 9) (pa_cons (pv 11) pa_nil)))))))
    (pss_one (ps_ret (pv 9))))))))), pure_run hsp fun t W D hp hS q => ?_⟩)
  obtain ⟨table, often⟩ := t
  dsimp only at hp q
  show Nx W _ ⟨[eR (rQd rI (rT rI) (rT (rT (rT rI))) (rT rI)) table, eR rN often, eAny, eAny, eAny, eAny, eAny, eAny, eAny, eAny, eAny, eAny, eAny], []⟩

  obtain ⟨hp, ho, hq⟩ := hp
  obtain ⟨p, begin, steps, firsts⟩ := table
  dsimp only at hp hq q
  have h0 := hp.pm.pos
  have h5 := hp.pm.le
  have nm := hp.nm
  refine nx_seq (nx_tup (fun e => (lk e 0 rfl)) (tg_u (tga_c (tga_c (tga_c (tga_c tga_n)))) (by rfl)) ?_)
  refine nx_seq (nx_own (r := rL (rL (rT rI))) (fun e => (en_lst el_n (by simp))) fun a => ?_)
  refine nx_seq (nx_asg (fun e => (ev_step_polys (ea_c (lk e 0 rfl) ea_n) ?_)) ?_)
  · exact hp
  refine nx_seq (nx_fold (fun e => (ei_r1 (ev_nI (lk e 1 rfl)) ?_ ?_)) (fun k s => s = ((List.range k).map fun k => sprIt p k (stepPolys steps firsts.length), sprIt p k (stepPolys steps firsts.length))) (fun s => ⟨[eR (rQd rI (rT rI) (rT (rT (rT rI))) (rT rI)) (p, begin, steps, firsts), eR rN often, eR rI p, eR (rT rI) begin, eR (rT (rT (rT rI))) steps, eR (rT rI) firsts, eR rA a, eR (rL (rL (rT rI))) s.2, eAny, eAny, eAny, eAny, eAny], [oL a (rL (rL (rT rI))) s.1]⟩)
    (fun s _ => (s.1 ++ [s.2], spreadPolys p s.2)) ([], stepPolys steps firsts.length) (fun x => [(8, eR rN x)]) ⟨.same (.same (.same (.same (.same (.same (.same (.same (.any (.any (.any (.any (.any .nil)))))))))))), List.Sublist.refl _⟩ rfl (fun x hx => (tg_n 8)) (by simp) ?_ ?_)
  · omega
  · omega
  · intro W' e1 e2 e3 k s w hw hs
    subst hs
    have hk : k < often := by
      have := (List.getElem?_eq_some_iff.mp hw).1
      rwa [List.length_range, Int.toNat_natCast] at this
    refine ⟨?_, ?_⟩
    · rw [List.range_succ, List.map_append]
      rfl
    refine nx_seq (nx_app 0 (fun e => lk e 6 rfl) (fun e => (lk e 7 rfl)) rfl ?_ (fun z => nomatch z) ?_)
    · rw [List.length_map, List.length_range]; omega
    refine nx_asg (fun e => (ev_spread_polys (ea_c (lk e 2 rfl) (ea_c (lk e 7 rfl) ea_n)) ?_)) (nx_end ⟨.same (.same (.same (.same (.same (.same (.same (.same (.any (.any (.any (.any (.any .nil)))))))))))), List.Sublist.refl _⟩)
    obtain ⟨a, b⟩ := sprIt_ok hp.pm hp (k := k) (by
      refine Nat.le_trans (Nat.pow_le_pow_right (by omega) (show k ≤ often by omega)) hq)
    exact ⟨hp.pm, by show (sprIt p k (stepPolys steps firsts.length)).length ≤ 100; omega, fun row hrow => ⟨by rw [(b row hrow).1]; omega, fun poly hpoly => ⟨Nat.le_trans ((b row hrow).2 poly hpoly).1 (by omega), ((b row hrow).2 poly hpoly).2⟩⟩⟩
  · intro hs
    rw [hs, List.length_range, Int.toNat_natCast]
    refine nx_keep 6 0 rfl rfl ?_
    refine nx_seq (nx_own (r := rL (rT rI)) (fun e => (en_lst el_n (by simp))) fun b => ?_)
    refine nx_seq (nx_fold (fun e => (ei_r1 (ev_nI (ev_addN (lk e 1 rfl) (ev_litN 1))) ?_ ?_)) (fun k s => s = (List.range k).map fun first => ((sqs p (stepPolys steps firsts.length) often).drop first).foldl (rowBySq p) (ones begin)) (fun s => ⟨[eR (rQd rI (rT rI) (rT (rT (rT rI))) (rT rI)) (p, begin, steps, firsts), eR rN often, eR rI p, eR (rT rI) begin, eR (rT (rT (rT rI))) steps, eR (rT rI) firsts, eR (rL (rL (rL (rT rI)))) (sqs p (stepPolys steps firsts.length) often), eAny, eAny, eR rA b, eAny, eAny, eAny], [oL b (rL (rT rI)) s]⟩)
      (fun s first => s ++ [((sqs p (stepPolys steps firsts.length) often).drop first).foldl (rowBySq p) (ones begin)]) [] (fun x => [(10, eR rN x)]) ⟨.same (.same (.same (.same (.same (.same (.same (.any (.any (.same (.any (.any (.any .nil)))))))))))), List.Sublist.refl _⟩ rfl (fun x hx => (tg_n 10)) (by simp) ?_ ?_)
    · omega
    · omega
    · intro W' e1 e2 e3 k s w hw hs
      subst hs
      rw [Int.toNat_natCast] at hw
      have hk : k < often + 1 := by
        have := (List.getElem?_eq_some_iff.mp hw).1
        rwa [List.length_range] at this
      have ew : w = k := by
        rw [List.getElem?_range hk] at hw
        exact (Option.some.inj hw).symm
      subst ew
      refine ⟨?_, ?_⟩
      · rw [List.range_succ, List.map_append]
        rfl
      refine nx_seq (nx_asg (x := ones begin) (fun e => (en_lc1 e (ei_t (lk e 3 rfl)) ?_ (fun x => [(12, eR rI x)]) (fun x hx => (tg_n 12)) (by simp) (fun x hx σ2 G2 H2 e2 => (ev_trimmedL (ea_c (ev_rr (ev_lst (el_c (lk e2 12 rfl) el_n) (by simp))) ea_n) ?_))).ev) ?_)
      · rw [hp.nb]; omega
      · show 1 ≤ 100000; omega
      refine nx_seq (nx_fold (fun e => ei_l (ev_dropL _ (lk e 6 rfl) (ev_nI (lk e 10 rfl)) rfl)) (fun k row => row.length = firsts.length ∧ Po p (1 + k * 160) row) (fun row => ⟨[eR (rQd rI (rT rI) (rT (rT (rT rI))) (rT rI)) (p, begin, steps, firsts), eR rN often, eR rI p, eR (rT rI) begin, eR (rT (rT (rT rI))) steps, eR (rT rI) firsts, eR (rL (rL (rL (rT rI)))) (sqs p (stepPolys steps firsts.length) often), eAny, eAny, eR rA b, eR rN w, eR (rL (rT rI)) row, eAny],
        [oL b (rL (rT rI)) ((List.range w).map fun first => ((sqs p (stepPolys steps firsts.length) often).drop first).foldl (rowBySq p) (ones begin))]⟩) (rowBySq p) (ones begin) (fun x => [(7, eR (rL (rL (rT rI))) x)]) ⟨.same (.same (.same (.same (.same (.same (.same (.any (.any (.same (.same (.same (.any .nil)))))))))))), List.Sublist.refl _⟩ ?_ (fun x hx => (tg_n 7)) (by simp) ?_ ?_)
      · refine ⟨by unfold ones; rw [List.length_map]; exact hp.nb, ?_⟩
        intro poly hpoly
        obtain ⟨n, hn, rfl⟩ := List.mem_map.mp hpoly
        exact ⟨trim_len [n], trim_nm fun x hx => by rw [List.mem_singleton.mp hx]; exact hp.nB n hn⟩
      · intro W2 e1 e2 e3 j row sq hsq ⟨r1, r2⟩
        have hm : sq ∈ sqs p (stepPolys steps firsts.length) often := List.mem_of_mem_drop (List.mem_of_getElem? hsq)
        have hj : j < often := by
          have := (List.getElem?_eq_some_iff.mp hsq).1
          unfold sqs at this
          rw [List.length_drop, List.length_map, List.length_range] at this
          omega
        obtain ⟨k, hk, rfl⟩ := List.mem_map.mp hm
        rw [List.mem_range] at hk
        obtain ⟨a, c⟩ := sprIt_ok hp.pm hp (k := k) (by
          refine Nat.le_trans (Nat.pow_le_pow_right (by omega) (show k ≤ often by omega)) hq)
        have c2 : ∀ r ∈ sprIt p k (stepPolys steps firsts.length), r.length = row.length ∧ Po p 160 r := fun r hr => ⟨by rw [(c r hr).1, r1], (c r hr).2⟩
        have jb : 1 + j * 160 ≤ 10000 := by
          have := Nat.mul_le_mul_right 160 (show j ≤ 5 by omega)
          omega
        refine ⟨⟨by rw [rowBySq_len fun r hr => (c2 r hr).1]; exact r1, ?_⟩, nx_asg (fun e => (ev_row_by_square (ea_c (lk e 2 rfl) (ea_c (lk e 11 rfl) (ea_c (lk e 7 rfl) ea_n))) ?_)) (nx_end ⟨.same (.same (.same (.same (.same (.same (.same (.any (.any (.same (.same (.same (.any .nil)))))))))))), List.Sublist.refl _⟩)⟩
        · have q := rowBySq_po h0 (A := 1 + j * 160) (B := 160) (row := row) (square := sprIt p k (stepPolys steps firsts.length)) r2 fun r hr => (c2 r hr).2
          rw [show 1 + (j + 1) * 160 = 1 + j * 160 + 160 by omega]
          exact q
        · exact ⟨hp.pm, by omega, fun poly hpoly => ⟨by have := (r2 poly hpoly).1; omega, (r2 poly hpoly).2⟩, fun r hr => ⟨(c2 r hr).1, fun poly hpoly => ⟨by have := ((c2 r hr).2 poly hpoly).1; omega, ((c2 r hr).2 poly hpoly).2⟩⟩⟩
      · intro _
        refine nx_app 0 (fun e => lk e 9 rfl) (fun e => (lk e 11 rfl)) rfl ?_ (fun z => nomatch z) (nx_end ⟨.same (.same (.same (.same (.same (.same (.same (.any (.any (.same (.any (.any (.any .nil)))))))))))), List.Sublist.refl _⟩)
        rw [List.length_map, List.length_range]; omega
    · intro hs
      rw [hs, List.length_range, Int.toNat_natCast]
      refine nx_keep 9 0 rfl rfl ?_
      exact nx_retP hS q (fun e => lk e 9 rfl)


theorem sc_how_often : FnScope ["p", "one", "other", "back", "left", "found", "place", "often", "k", "number"] ["p", "one", "other"] (defScope (top 26)) := ⟨rfl, rfl, rfl, by decide +kernel, rfl, by decide +kernel, by decide +kernel⟩
theorem b_how_often (h : Hd K mg) : Binds K h.fd_how_often ["p", "one", "other"] [] := h.F_how_often.bindsN fun _ _ _ _ _ _ us hl => match us, hl with | [_, _, _], _ => rfl
theorem ok_how_often (h : Hd K mg) : FnOk P w K mg base CX0 2 h.f_how_often h.fd_how_often ["p", "one", "other"] sp_how_often := by
  have nd := sc_how_often.nd
  refine h.F_how_often.ok sc_how_often (len_spF fun _ _ _ _ h => (ArgsE.sl h).1) (fun cdv A outer s H vs Q E hr hsp => ⟨_, PSs.nox
    (pss_cons (ps_set (i := 3) nd rfl (by first | exact .inl rfl | exact .inr rfl) (pe_call (ok_back_of h) (hr.mono (by decide)) rfl h.g_back_of h.F_back_of.kp (b_back_of h) .nil pass0 (pa_cons (pv 0) (pa_cons (pe_ix (k_ixT (K := K) rfl) (pv 2) (pe_un un_neg pe_int) (fun _ _ => rfl)) pa_nil))))
    (pss_cons (ps_set (i := 4) nd rfl (by first | exact .inl rfl | exact .inr rfl) (pe_callTy (k_list (K := K) rfl) rfl h.b_list (by decide +kernel) (pa_cons (pv 1) pa_nil)))
    (pss_cons (ps_set (i := 5) nd rfl (by first | exact .inl rfl | exact .inr rfl) (pe_op op_rep (pe_lst (pa_cons pe_int pa_nil)) (pe_callB (call_max2 rfl) rfl h.b_max (by decide +kernel) (pa_cons pe_int (pa_cons (pe_op op_add (pe_op op_sub (pe_callB (k_len (K := K) rfl) rfl h.b_len (by decide +kernel) (pa_cons (pv 1) pa_nil)) (pe_callB (k_len (K := K) rfl) rfl h.b_len (by decide +kernel) (pa_cons (pv 2) pa_nil))) pe_int) pa_nil)))))
    (pss_cons (ps_for PassesOwn.never rfl (pi_range3 rfl h.b_range (pa_cons (pe_op op_sub (pe_callB (k_len (K := K) rfl) rfl h.b_len (by decide +kernel) (pa_cons (pv 5) pa_nil)) pe_int) (pa_cons (pe_un un_neg pe_int) (pa_cons (pe_un un_neg pe_int) pa_nil)))) (pg_name (i := 6) nd rfl (by first | exact .inl rfl | exact .inr rfl)) (pss_cons (ps_set (i := 7) nd rfl (by first | exact .inl rfl | exact .inr rfl) (pe_op op_mod (pe_op op_mul (pe_ix (k_ixL (K := K) rfl) (pv 4) (pe_op op_sub (pe_op op_add (pv 6) (pe_callB (k_len (K := K) rfl) rfl h.b_len (by decide +kernel) (pa_cons (pv 2) pa_nil))) pe_int) (fun _ _ => rfl)) (pv 3)) (pv 0)))
    (pss_cons (ps_asg (pv 7) (pg_sub (pv 5) (pv 6) set_list))
    (pss_one (ps_for PassesOwn.never rfl (k_piET (K := K) rfl rfl h.b_enumerate (pa_cons (pv 2) pa_nil)) (k_tup (K := K) (n := 2) rfl rfl (pgs_cons (pg_name (i := 8) nd rfl (by first | exact .inl rfl | exact .inr rfl)) (pgs_cons (pg_name (i := 9) nd rfl (by first | exact .inl rfl | exact .inr rfl)) pgs_nil))) (pss_one (ps_asg (pe_op op_mod (pe_op op_sub (pe_ix (k_ixL (K := K) rfl) (pv 4) (pe_op op_add (pv 6) (pv 8)) (fun _ _ => rfl)) (pe_op op_mul (pv 7) (pv 9))) (pv 0)) (pg_sub (pv 4) (pe_op op_add (pv 6) (pv 8)) set_list))))))))
    (pss_one (ps_ret (pe_call (ok_trimmed h) (hr.mono (by decide)) rfl h.g_trimmed h.F_trimmed.kp (b_trimmed h) .nil pass0 (pa_cons (pv 5) pa_nil)))))))), pure_run hsp fun t W D hp hS q => ?_⟩)
  obtain ⟨p, one, other⟩ := t
  dsimp only at hp q
  show Nx W _ ⟨[eR rI p, eR (rT rI) one, eR (rT rI) other, eAny, eAny, eAny, eAny, eAny, eAny, eAny], []⟩

  obtain ⟨hp, l1, l2, hn, hne, hl⟩ := hp
  have h0 := hp.pos
  have h5 := hp.le
  have pl : 0 < other.length := List.length_pos_iff.mpr hne
  have hlast := hn.getD h0 (other.length - 1)
  have bl := back_lt (back_ne hp hlast.1 hlast.2 hl)
  refine nx_seq (nx_asg (fun e => (ev_back_of (ea_c (lk e 0 rfl) (ea_c (ev_endG (d := 0) (lk e 2 rfl) (ev_neg ev_i) ?_) ea_n)) ?_)) ?_)
  · exact hne
  · exact ⟨hp, hlast.1, hlast.2, hl⟩
  refine nx_seq (nx_own (fun e => (en_list (lk e 1 rfl))) fun a => ?_)
  have em : (if ((one.length : Nat) : Int) - ((other.length : Nat) : Int) + 1 > 0 then ((one.length : Nat) : Int) - ((other.length : Nat) : Int) + 1 else 0) = ((one.length + 1 - other.length : Nat) : Int) := by
    split <;> omega
  refine nx_seq (nx_own (xs := List.replicate (one.length + 1 - other.length) 0) (fun e => EvN.is (en_rep (ev_lst (el_c ev_i el_n) (by simp)) (ev_max2 ev_i (ev_add (ev_sub (ev_nI (ev_lenN (lk e 1 rfl))) (ev_nI (ev_lenN (lk e 2 rfl)))) ev_i)) ?_ ?_) (by rw [em, Int.toNat_natCast])) fun b => ?_)
  · split <;> omega
  · split <;> omega
  refine nx_seq (nx_fold (fun e => EvI.is (ei_dn (ev_sub (ev_nI (ev_lenN (lkO e 5 0 rfl rfl))) ev_i) (ev_neg ev_i) (ev_neg ev_i) rfl rfl ?_ ?_) (show _ = (List.range (one.length + 1 - other.length)).reverse by rw [List.length_replicate, show (((one.length + 1 - other.length : Nat) : Int) - 1 + 1).toNat = one.length + 1 - other.length by omega])) (fun _ s => s.1.length = one.length ∧ s.2.length = one.length + 1 - other.length) (fun s => ⟨[eR rI p, eR (rT rI) one, eR (rT rI) other, eR rN (back p (other.getD (other.length - 1) 0)), eR rA a, eR rA b, eAny, eAny, eAny, eAny], [oL b rI s.2, oL a rI s.1]⟩) (hoS p (back p (other.getD (other.length - 1) 0)) other) (one, List.replicate (one.length + 1 - other.length) 0) (fun x => [(6, eR rN x)])
    ⟨.same (.same (.same (.same (.same (.same (.any (.any (.any (.any .nil))))))))), List.Sublist.refl _⟩ ?_ (fun x hx => (tg_n 6)) (by simp) ?_ ?_)
  · rw [List.length_replicate]; omega
  · rw [List.length_replicate]; omega
  · exact ⟨rfl, List.length_replicate⟩
  · intro W' e1 e2 e3 k s place hpl ⟨s1, s2⟩
    have hpl : place < one.length + 1 - other.length := by
      have := List.mem_of_getElem? hpl
      rw [List.mem_reverse, List.mem_range] at this
      exact this
    have en : (((place + other.length : Nat) : Int) - 1).toNat = place + other.length - 1 := by omega
    have len : ∀ (o : Int) (l : List (Nat × Int)) (acc : List Int), (l.foldl (fun acc w => acc.set (place + w.1) ((acc.getD (place + w.1) 0 - o * w.2) % p)) acc).length = acc.length := by
      intro o l
      induction l with
      | nil => intro acc; rfl
      | cons w l ih => intro acc; rw [List.foldl_cons, ih, List.length_set]
    refine ⟨⟨by unfold hoS; rw [len]; exact s1, by unfold hoS; rw [List.length_set]; exact s2⟩, ?_⟩
    refine nx_seq (nx_asg (fun e => EvR.is (ev_mod (ev_mul (ev_gL (d := 0) (lkO e 4 1 rfl rfl) (ev_sub (ev_nI (ev_addN (lk e 6 rfl) (ev_lenN (lk e 2 rfl)))) ev_i) ?_ ?_) (ev_nI (lk e 3 rfl)) ?_) (lk e 0 rfl) ?_) (by rw [en])) ?_)
    · omega
    · omega
    · exact Or.inr ⟨by omega, by omega⟩
    · exact h0
    refine nx_seq (nx_put 0 place (fun e => (lk e 7 rfl)) (fun e => lk e 5 rfl) (fun e => (ev_nI (lk e 6 rfl))) rfl rfl (by omega) (fun z => nomatch z) ?_)
    have ob := md h0 (s.1.getD (place + other.length - 1) 0 * ((back p (other.getD (other.length - 1) 0) : Nat) : Int))
    have eh : hoS p (back p (other.getD (other.length - 1) 0)) other s place = ((enumL other).foldl (fun acc w => acc.set (place + w.1) ((acc.getD (place + w.1) 0 - (s.1.getD (place + other.length - 1) 0 * ((back p (other.getD (other.length - 1) 0) : Nat) : Int)) % p * w.2) % p)) s.1, s.2.set place ((s.1.getD (place + other.length - 1) 0 * ((back p (other.getD (other.length - 1) 0) : Nat) : Int)) % p)) := rfl
    rw [eh]
    generalize (s.1.getD (place + other.length - 1) 0 * ((back p (other.getD (other.length - 1) 0) : Nat) : Int)) % p = often at ob ⊢
    refine nx_fold (fun e => (ei_et (lk e 2 rfl))) (fun _ acc => acc.length = one.length) (fun acc => ⟨[eR rI p, eR (rT rI) one, eR (rT rI) other, eR rN (back p (other.getD (other.length - 1) 0)), eR rA a, eR rA b, eR rN place, eR rI often, eAny, eAny], [oL b rI (s.2.set place often), oL a rI acc]⟩) (fun acc w => acc.set (place + w.1) ((acc.getD (place + w.1) 0 - often * w.2) % p)) s.1 (fun x => [(8, eR rN x.1), (9, eR rI x.2)])
      ⟨.same (.same (.same (.same (.same (.same (.same (.same (.any (.any .nil))))))))), List.Sublist.refl _⟩ s1 (fun x hx => (tg_u (tga_c (tga_c tga_n)) (by rfl))) (by simp) ?_ ?_
    · intro W2 e1 e2 e3 j acc w hw hl
      obtain ⟨w1, w2, w3⟩ := enumL_mem (List.mem_of_getElem? hw)
      refine ⟨by rw [List.length_set]; exact hl, ?_⟩
      refine nx_put 1 (place + w.1) (fun e => (ev_mod (ev_sub (ev_gLn (d := 0) (lkO e 4 1 rfl rfl) (ev_addN (lk e 6 rfl) (lk e 8 rfl)) ?_) (ev_mul (lk e 7 rfl) (lk e 9 rfl) ?_)) (lk e 0 rfl) ?_)) (fun e => lk e 4 rfl) (fun e => (ev_nI (ev_addN (lk e 6 rfl) (lk e 8 rfl)))) rfl rfl (by omega) (fun z => nomatch z) (nx_end ⟨.same (.same (.same (.same (.same (.same (.same (.same (.any (.any .nil))))))))), List.Sublist.refl _⟩)
      · omega
      · exact mulOkL hp ob
      · exact h0
    · intro _
      exact nx_end ⟨.same (.same (.same (.same (.same (.same (.any (.any (.any (.any .nil))))))))), List.Sublist.refl _⟩
  · intro ⟨s1, s2⟩
    refine nx_retP hS q (fun e => (ev_trimmedL (ea_c (lkO e 5 0 rfl rfl) ea_n) ?_))
    have : (howL p one other).2.length = _ := s2
    omega

end
end Dg
end
section
set_option Elab.async false
set_option linter.all false
set_option maxRecDepth 100000
set_option maxHeartbeats 4000000
/-! The plain defs: the law. -/
namespace Dg
open PySem PySem.Spec PyProof.Rows L2

abbrev sp__law_back : Sp := spF (ι := (Int) × (Int)) (fun t => (aC rI t.1 (aC rI t.2 aN))) (fun t => (fun (_law_p : Int) (_law_number : Int) => Pm _law_p ∧ 0 ≤ _law_number ∧ _law_number < _law_p ∧ _law_number ≠ 0) (t.1) (t.2)) rN (fun t => (fun (_law_p : Int) (_law_number : Int) => back _law_p _law_number) (t.1) (t.2))
theorem ev__law_back {σ : L2.St} {G H : Hp} {ta : TA} {E : XK} {_law_p : Int} {_law_number : Int} (ha : EvA ta σ G H (aC rI _law_p (aC rI _law_number aN))) (hp : Pm _law_p ∧ 0 ≤ _law_number ∧ _law_number < _law_p ∧ _law_number ≠ 0) : EvR (tCall sp__law_back [] E ta) σ G H rN (back _law_p _law_number) := ev_call (_law_p, _law_number) ha hp
abbrev sp__law_trimmed : Sp := spE (spF (ι := (List (Int))) (fun t => (aC (rR rI) t aN)) (fun t => (fun (_law_numbers_here : List (Int)) => _law_numbers_here.length ≤ 100000) (t)) (rT rI) (fun t => (fun (_law_numbers_here : List (Int)) => trim _law_numbers_here) (t))) (spF (ι := (List (Int))) (fun t => (aC (rT rI) t aN)) (fun t => (fun (_law_numbers_here : List (Int)) => _law_numbers_here.length ≤ 100000) (t)) (rT rI) (fun t => (fun (_law_numbers_here : List (Int)) => trim _law_numbers_here) (t)))
theorem ev__law_trimmedL {σ : L2.St} {G H : Hp} {ta : TA} {E : XK} {_law_numbers_here : List (Int)} (ha : EvA ta σ G H (aC (rR rI) _law_numbers_here aN)) (hp : _law_numbers_here.length ≤ 100000) : EvR (tCall sp__law_trimmed [] E ta) σ G H (rT rI) (trim _law_numbers_here) := ev_callL _law_numbers_here ha hp
theorem ev__law_trimmedR {σ : L2.St} {G H : Hp} {ta : TA} {E : XK} {_law_numbers_here : List (Int)} (ha : EvA ta σ G H (aC (rT rI) _law_numbers_here aN)) (hp : _law_numbers_here.length ≤ 100000) : EvR (tCall sp__law_trimmed [] E ta) σ G H (rT rI) (trim _law_numbers_here) := ev_callR _law_numbers_here ha hp
abbrev sp__law_part : Sp := spF (ι := (Int) × (List (List (Int))) × (Nat)) (fun t => (aC rI t.1 (aC (rL (rT rI)) t.2.1 (aC rN t.2.2 aN)))) (fun t => (fun (_law_p : Int) (_law_row : List (List (Int))) (_law_r : Nat) => Pm _law_p ∧ _law_row.length ≤ 1000 ∧ ∀ poly ∈ _law_row, poly.length ≤ 100000) (t.1) (t.2.1) (t.2.2)) (rL (rT rI)) (fun t => (fun (_law_p : Int) (_law_row : List (List (Int))) (_law_r : Nat) => partRow _law_p _law_row _law_r) (t.1) (t.2.1) (t.2.2))
theorem ev__law_part {σ : L2.St} {G H : Hp} {ta : TA} {E : XK} {_law_p : Int} {_law_row : List (List (Int))} {_law_r : Nat} (ha : EvA ta σ G H (aC rI _law_p (aC (rL (rT rI)) _law_row (aC rN _law_r aN)))) (hp : Pm _law_p ∧ _law_row.length ≤ 1000 ∧ ∀ poly ∈ _law_row, poly.length ≤ 100000) : EvR (tCall sp__law_part [] E ta) σ G H (rL (rT rI)) (partRow _law_p _law_row _law_r) := ev_call (_law_p, _law_row, _law_r) ha hp
abbrev sp__law_times : Sp := spF (ι := (Int) × (List (Int)) × (List (Int))) (fun t => (aC rI t.1 (aC (rT rI) t.2.1 (aC (rT rI) t.2.2 aN)))) (fun t => (fun (_law_p : Int) (_law_one : List (Int)) (_law_other : List (Int)) => Pm _law_p ∧ _law_one.length ≤ 50000 ∧ _law_other.length ≤ 50000 ∧ Nm _law_p _law_other) (t.1) (t.2.1) (t.2.2)) (rT rI) (fun t => (fun (_law_p : Int) (_law_one : List (Int)) (_law_other : List (Int)) => mul _law_p _law_one _law_other) (t.1) (t.2.1) (t.2.2))
theorem ev__law_times {σ : L2.St} {G H : Hp} {ta : TA} {E : XK} {_law_p : Int} {_law_one : List (Int)} {_law_other : List (Int)} (ha : EvA ta σ G H (aC rI _law_p (aC (rT rI) _law_one (aC (rT rI) _law_other aN)))) (hp : Pm _law_p ∧ _law_one.length ≤ 50000 ∧ _law_other.length ≤ 50000 ∧ Nm _law_p _law_other) : EvR (tCall sp__law_times [] E ta) σ G H (rT rI) (mul _law_p _law_one _law_other) := ev_call (_law_p, _law_one, _law_other) ha hp
abbrev sp__law_plus : Sp := spF (ι := (Int) × (List (Int)) × (List (Int))) (fun t => (aC rI t.1 (aC (rT rI) t.2.1 (aC (rT rI) t.2.2 aN)))) (fun t => (fun (_law_p : Int) (_law_one : List (Int)) (_law_other : List (Int)) => Pm _law_p ∧ _law_one.length ≤ 50000 ∧ _law_other.length ≤ 50000) (t.1) (t.2.1) (t.2.2)) (rT rI) (fun t => (fun (_law_p : Int) (_law_one : List (Int)) (_law_other : List (Int)) => add _law_p 1 _law_one _law_other) (t.1) (t.2.1) (t.2.2))
theorem ev__law_plus {σ : L2.St} {G H : Hp} {ta : TA} {E : XK} {_law_p : Int} {_law_one : List (Int)} {_law_other : List (Int)} (ha : EvA ta σ G H (aC rI _law_p (aC (rT rI) _law_one (aC (rT rI) _law_other aN)))) (hp : Pm _law_p ∧ _law_one.length ≤ 50000 ∧ _law_other.length ≤ 50000) : EvR (tCall sp__law_plus [] E ta) σ G H (rT rI) (add _law_p 1 _law_one _law_other) := ev_call (_law_p, _law_one, _law_other) ha hp
abbrev sp__law_woven : Sp := spF (ι := (Int) × (List (List (Int))) × (List (List (List (Int))))) (fun t => (aC rI t.1 (aC (rL (rT rI)) t.2.1 (aC (rT (rT (rT rI))) t.2.2 aN)))) (fun t => (fun (_law_p : Int) (_law_row : List (List (Int))) (_law_steps : List (List (List (Int)))) => Pm _law_p ∧ _law_row.length ≤ 32 ∧ _law_steps.length ≤ 5 ∧ (∀ s ∈ _law_steps, s.length = _law_row.length ∧ ∀ r ∈ s, r.length = _law_row.length ∧ Nm _law_p r) ∧ ∀ poly ∈ _law_row, poly.length ≤ 20000) (t.1) (t.2.1) (t.2.2)) (rL (rT rI)) (fun t => (fun (_law_p : Int) (_law_row : List (List (Int))) (_law_steps : List (List (List (Int)))) => woven _law_p _law_row _law_steps) (t.1) (t.2.1) (t.2.2))
theorem ev__law_woven {σ : L2.St} {G H : Hp} {ta : TA} {E : XK} {_law_p : Int} {_law_row : List (List (Int))} {_law_steps : List (List (List (Int)))} (ha : EvA ta σ G H (aC rI _law_p (aC (rL (rT rI)) _law_row (aC (rT (rT (rT rI))) _law_steps aN)))) (hp : Pm _law_p ∧ _law_row.length ≤ 32 ∧ _law_steps.length ≤ 5 ∧ (∀ s ∈ _law_steps, s.length = _law_row.length ∧ ∀ r ∈ s, r.length = _law_row.length ∧ Nm _law_p r) ∧ ∀ poly ∈ _law_row, poly.length ≤ 20000) : EvR (tCall sp__law_woven [] E ta) σ G H (rL (rT rI)) (woven _law_p _law_row _law_steps) := ev_call (_law_p, _law_row, _law_steps) ha hp
abbrev sp__law_spread : Sp := spF (ι := (Int) × (List (Int)) × (Nat)) (fun t => (aC rI t.1 (aC (rT rI) t.2.1 (aC rN t.2.2 aN)))) (fun t => (fun (_law_p : Int) (_law_poly : List (Int)) (_law_far : Nat) => _law_far * _law_poly.length ≤ 100000 ∧ _law_far ≤ 100000 ∧ 0 < _law_far) (t.1) (t.2.1) (t.2.2)) (rT rI) (fun t => (fun (_law_p : Int) (_law_poly : List (Int)) (_law_far : Nat) => spread _law_far _law_poly) (t.1) (t.2.1) (t.2.2))
theorem ev__law_spread {σ : L2.St} {G H : Hp} {ta : TA} {E : XK} {_law_p : Int} {_law_poly : List (Int)} {_law_far : Nat} (ha : EvA ta σ G H (aC rI _law_p (aC (rT rI) _law_poly (aC rN _law_far aN)))) (hp : _law_far * _law_poly.length ≤ 100000 ∧ _law_far ≤ 100000 ∧ 0 < _law_far) : EvR (tCall sp__law_spread [] E ta) σ G H (rT rI) (spread _law_far _law_poly) := ev_call (_law_p, _law_poly, _law_far) ha hp
abbrev sp__law_left : Sp := spF (ι := (Int) × (List ((Nat) × (List (Int)))) × (List (Int))) (fun t => (aC rI t.1 (aC (rR (rPr rN (rL rI))) t.2.1 (aC (rL rI) t.2.2 aN)))) (fun t => (fun (_law_p : Int) (_law_lines : List ((Nat) × (List (Int)))) (_law_vector : List (Int)) => Pm _law_p ∧ _law_vector.length ≤ 100000 ∧ (∀ q ∈ _law_lines, q.1 < _law_vector.length ∧ q.2.length = _law_vector.length ∧ Nm _law_p q.2)) (t.1) (t.2.1) (t.2.2)) (rL rI) (fun t => (fun (_law_p : Int) (_law_lines : List ((Nat) × (List (Int)))) (_law_vector : List (Int)) => leftL _law_p _law_lines _law_vector) (t.1) (t.2.1) (t.2.2))
theorem ev__law_left {σ : L2.St} {G H : Hp} {ta : TA} {E : XK} {_law_p : Int} {_law_lines : List ((Nat) × (List (Int)))} {_law_vector : List (Int)} (ha : EvA ta σ G H (aC rI _law_p (aC (rR (rPr rN (rL rI))) _law_lines (aC (rL rI) _law_vector aN)))) (hp : Pm _law_p ∧ _law_vector.length ≤ 100000 ∧ (∀ q ∈ _law_lines, q.1 < _law_vector.length ∧ q.2.length = _law_vector.length ∧ Nm _law_p q.2)) : EvR (tCall sp__law_left [] E ta) σ G H (rL rI) (leftL _law_p _law_lines _law_vector) := ev_call (_law_p, _law_lines, _law_vector) ha hp
section
variable {P : Program} {w : World} {K : PySem.W.Frag} {mg : Str → Option Value} {base : Heap}


theorem sc__law_back : FnScope ["_law_p", "_law_number", "_law_other"] ["_law_p", "_law_number"] (defScope (top 35)) := ⟨rfl, rfl, rfl, by decide +kernel, rfl, by decide +kernel, by decide +kernel⟩
theorem b__law_back (h : Hd K mg) : Binds K h.fd__law_back ["_law_p", "_law_number"] [] := h.F__law_back.bindsN fun _ _ _ _ _ _ us hl => match us, hl with | [_, _], _ => rfl
theorem ok__law_back (h : Hd K mg) : FnOk P w K mg base CX0 1 h.f__law_back h.fd__law_back ["_law_p", "_law_number"] sp__law_back := by
  have nd := sc__law_back.nd
  refine h.F__law_back.ok sc__law_back (len_spF fun _ _ _ _ h => (ArgsE.sl h).1) (fun cdv A outer s H vs Q E hr hsp => ⟨_, PSs.nox
    (pss_one (ps_ret (pe_ix (k_ixL (K := K) rfl) (pe_lc rfl nd (pi_range1 rfl h.b_range (pa_cons (pv 0) pa_nil)) (blkOk_by (own := [("_law_other", 2)]) (by kernel_rfl)) (fun _ _ _ _ _ => (by exact (pg_name (i := 2) nd rfl (by first | exact .inl rfl | exact .inr rfl)))) (fun _ _ _ _ _ => pts_one (pt_cmpR op_eq (pe_op op_mod (pe_op op_mul (pv 1) (pv 2)) (pv 0)) pe_int (nomark _))) (fun _ _ _ _ _ => (pv 2))) pe_int (fun _ _ => rfl)))), pure_run hsp fun t W D hp hS q => ?_⟩)
  obtain ⟨_law_p, _law_number⟩ := t
  dsimp only at hp q
  show Nx W _ ⟨[eR rI _law_p, eR rI _law_number, eAny], []⟩

  obtain ⟨hp, h0, h1, h2⟩ := hp
  have l5 := hp.le
  have p0 := hp.pos
  refine nx_retP hS q (fun e => (EvR.is (ev_gLn (d := 0) (en_lc e (ei_r1 (lk e 0 rfl) ?_ ?_) ?_ (fun x => [(2, eR rN x)]) (fun x hx => (tg_n 2)) (by simp) (fun x hx σ2 G2 H2 e2 => (et_t (ev_eqI (ev_mod (ev_mul (lk e2 1 rfl) (ev_nI (lk e2 2 rfl)) ?_) (lk e2 0 rfl) ?_) ev_i))) (fun x hx hk σ2 G2 H2 e2 => (lk e2 2 rfl))).ev (ev_litN 0) ?_) (by simp [back, backL])))
  · omega
  · omega
  · rw [List.length_range]; omega
  · exact mulOkL hp ⟨h0, h1⟩
  · exact p0
  · rw [List.map_id']; exact back_ne hp h0 h1 h2


theorem sc__law_trimmed : FnScope ["_law_numbers_here", "_law_many", "_law_k"] ["_law_numbers_here"] (defScope (top 38)) := ⟨rfl, rfl, rfl, by decide +kernel, rfl, by decide +kernel, by decide +kernel⟩
theorem b__law_trimmed (h : Hd K mg) : Binds K h.fd__law_trimmed ["_law_numbers_here"] [] := h.F__law_trimmed.bindsN fun _ _ _ _ _ _ us hl => match us, hl with | [_], _ => rfl
theorem ok__law_trimmed (h : Hd K mg) : FnOk P w K mg base CX0 1 h.f__law_trimmed h.fd__law_trimmed ["_law_numbers_here"] sp__law_trimmed := by
  have nd := sc__law_trimmed.nd
  refine h.F__law_trimmed.ok sc__law_trimmed (fun vs H Q E h => ?_) (fun cdv A outer s H vs Q E hr hsp => ?_)
  · rcases h with ⟨i, G, _, ⟨v, ws, e, _, rfl⟩, _⟩ | ⟨i, G, _, ⟨v, ws, e, _, rfl⟩, _⟩ <;> (subst e; rfl)
  · rcases hsp with ⟨numbers, G, d, ⟨v, ws, rfl, ⟨a, us, rfl, ha, t⟩, rfl⟩, hl, q⟩ | hsp
    · refine ⟨_, PSs.nox (pss_cons (ps_set (i := 1) nd rfl (by first | exact .inl rfl | exact .inr rfl) (pe_callBK (k_maxD (K := K) rfl rfl (hu64 hr)) rfl h.b_max (by decide +kernel) (pa_cons (pe_lc rfl nd (pi_range1 rfl h.b_range (pa_cons (pe_callB (k_len (K := K) rfl) rfl h.b_len (by decide +kernel) (pa_cons (pv 0) pa_nil)) pa_nil)) (blkOk_by (own := [("_law_k", 2)]) (by kernel_rfl)) (fun _ _ _ _ _ => (by exact (pg_name (i := 2) nd rfl (by first | exact .inl rfl | exact .inr rfl)))) (fun _ _ _ _ _ => pts_one (pt_cmpR op_ne (pe_ix (k_ixL (K := K) rfl) (pv 0) (pv 2) (fun _ _ => rfl)) pe_int (nomark _))) (fun _ _ _ _ _ => (pe_op op_add (pv 2) pe_int))) pa_nil) (pk_cons pe_int pk_nil)))
    (pss_one (ps_ret (pe_callTy (k_tuple (K := K) rfl) rfl h.b_tuple (by decide +kernel) (pa_cons (pe_slice (k_slL (K := K) rfl) (pv 0) po_none (po_some (pv 1))) pa_nil))))), ?_⟩
      refine (?_ : Nx ⟨[], G, H, G⟩ _ ⟨[eR rA a, eAny, eAny], [oF a us rI numbers]⟩) _ G H (en_startF d ⟨⟨_, rfl, rfl⟩, trivial, trivial, trivial⟩ rfl ha t)
      refine nx_seq (nx_asg (x := ((trimLen numbers : Nat) : Int)) (fun e => (ev_maxD (ev_LN (en_lc e (ei_r1 (ev_nI (ev_lenN (lkF e 0 0 rfl rfl))) ?_ ?_) ?_ (fun x => [(2, eR rN x)]) (fun x hx => (tg_n 2)) (by simp) (fun x hx σ2 G2 H2 e2 => (et_t (ev_neI (ev_gLn (d := 0) (lkF e2 0 0 rfl rfl) (lk e2 2 rfl) ?_) ev_i))) (fun x hx hk σ2 G2 H2 e2 => (ev_addN (lk e2 2 rfl) (ev_litN 1)))).ev) ?_ ?_)) ?_)
      · omega
      · omega
      · rw [List.length_range]; omega
      · rw [List.mem_range] at hx; omega
      · intro hn
        rcases Nat.eq_zero_or_pos (trimLen numbers) with h | h
        · omega
        · have l := trimLen_last h
          have l2 := trimLen_le numbers
          have hm : trimLen numbers - 1 ∈ (List.range numbers.length).filter (fun x => !decide (numbers.getD x 0 = 0)) := List.mem_filter.mpr ⟨List.mem_range.mpr (by omega), by simp only [Bool.not_eq_true', decide_eq_false_iff_not]; exact l⟩
          rw [Int.toNat_natCast, List.map_map, List.map_eq_nil_iff] at hn
          rw [hn] at hm
          cases hm
      · intro hn
        have hpos : 0 < trimLen numbers := by
          rcases Nat.eq_zero_or_pos (trimLen numbers) with h | h
          · exfalso
            apply hn
            rw [Int.toNat_natCast, List.map_map, List.map_eq_nil_iff, List.filter_eq_nil_iff]
            intro x hx hz
            have hz : numbers.getD x 0 ≠ 0 := by simpa using hz
            have := trimLen_ge hz
            omega
          · exact h
        refine ⟨?_, fun n hm => ?_⟩
        · have l := trimLen_last hpos
          have l2 := trimLen_le numbers
          rw [Int.toNat_natCast, List.map_map]
          refine List.mem_map.mpr ⟨trimLen numbers - 1, List.mem_filter.mpr ⟨List.mem_range.mpr (by omega), by simp only [Bool.not_eq_true', decide_eq_false_iff_not]; exact l⟩, ?_⟩
          show ((trimLen numbers - 1 + 1 : Nat) : Int) = _
          omega
        · rw [Int.toNat_natCast, List.map_map] at hm
          obtain ⟨x, hx, rfl⟩ := List.mem_map.mp hm
          have hz := (List.mem_filter.mp hx).2
          have hz : numbers.getD x 0 ≠ 0 := by simpa using hz
          have := trimLen_ge hz
          show ((x + 1 : Nat) : Int) ≤ _
          omega
      refine nx_retP rfl (fun v G' H' f hv => q v G' H' f hv) (fun e => (ev_tupleL (ev_takeL _ (lkF e 0 0 rfl rfl) (lk e 1 rfl) ?_)))
      rfl
    · refine ⟨_, PSs.nox (pss_cons (ps_set (i := 1) nd rfl (by first | exact .inl rfl | exact .inr rfl) (pe_callBK (k_maxD (K := K) rfl rfl (hu64 hr)) rfl h.b_max (by decide +kernel) (pa_cons (pe_lc rfl nd (pi_range1 rfl h.b_range (pa_cons (pe_callB (k_len (K := K) rfl) rfl h.b_len (by decide +kernel) (pa_cons (pv 0) pa_nil)) pa_nil)) (blkOk_by (own := [("_law_k", 2)]) (by kernel_rfl)) (fun _ _ _ _ _ => (by exact (pg_name (i := 2) nd rfl (by first | exact .inl rfl | exact .inr rfl)))) (fun _ _ _ _ _ => pts_one (pt_cmpR op_ne (pe_ix (k_ixT (K := K) rfl) (pv 0) (pv 2) (fun _ _ => rfl)) pe_int (nomark _))) (fun _ _ _ _ _ => (pe_op op_add (pv 2) pe_int))) pa_nil) (pk_cons pe_int pk_nil)))
    (pss_one (ps_ret (pe_callTy (k_tuple (K := K) rfl) rfl h.b_tuple (by decide +kernel) (pa_cons (pe_slice (k_slT (K := K) rfl) (pv 0) po_none (po_some (pv 1))) pa_nil))))), pure_run hsp fun numbers W D hl hS q => ?_⟩
      show Nx W _ ⟨[eR (rT rI) numbers, eAny, eAny], []⟩
      refine nx_seq (nx_asg (x := ((trimLen numbers : Nat) : Int)) (fun e => (ev_maxD (ev_LN (en_lc e (ei_r1 (ev_nI (ev_lenN (lk e 0 rfl))) ?_ ?_) ?_ (fun x => [(2, eR rN x)]) (fun x hx => (tg_n 2)) (by simp) (fun x hx σ2 G2 H2 e2 => (et_t (ev_neI (ev_gTn (d := 0) (lk e2 0 rfl) (lk e2 2 rfl) ?_) ev_i))) (fun x hx hk σ2 G2 H2 e2 => (ev_addN (lk e2 2 rfl) (ev_litN 1)))).ev) ?_ ?_)) ?_)
      · omega
      · omega
      · rw [List.length_range]; omega
      · rw [List.mem_range] at hx; omega
      · intro hn
        rcases Nat.eq_zero_or_pos (trimLen numbers) with h | h
        · omega
        · have l := trimLen_last h
          have l2 := trimLen_le numbers
          have hm : trimLen numbers - 1 ∈ (List.range numbers.length).filter (fun x => !decide (numbers.getD x 0 = 0)) := List.mem_filter.mpr ⟨List.mem_range.mpr (by omega), by simp only [Bool.not_eq_true', decide_eq_false_iff_not]; exact l⟩
          rw [Int.toNat_natCast, List.map_map, List.map_eq_nil_iff] at hn
          rw [hn] at hm
          cases hm
      · intro hn
        have hpos : 0 < trimLen numbers := by
          rcases Nat.eq_zero_or_pos (trimLen numbers) with h | h
          · exfalso
            apply hn
            rw [Int.toNat_natCast, List.map_map, List.map_eq_nil_iff, List.filter_eq_nil_iff]
            intro x hx hz
            have hz : numbers.getD x 0 ≠ 0 := by simpa using hz
            have := trimLen_ge hz
            omega
          · exact h
        refine ⟨?_, fun n hm => ?_⟩
        · have l := trimLen_last hpos
          have l2 := trimLen_le numbers
          rw [Int.toNat_natCast, List.map_map]
          refine List.mem_map.mpr ⟨trimLen numbers - 1, List.mem_filter.mpr ⟨List.mem_range.mpr (by omega), by simp only [Bool.not_eq_true', decide_eq_false_iff_not]; exact l⟩, ?_⟩
          show ((trimLen numbers - 1 + 1 : Nat) : Int) = _
          omega
        · rw [Int.toNat_natCast, List.map_map] at hm
          obtain ⟨x, hx, rfl⟩ := List.mem_map.mp hm
          have hz := (List.mem_filter.mp hx).2
          have hz : numbers.getD x 0 ≠ 0 := by simpa using hz
          have := trimLen_ge hz
          show ((x + 1 : Nat) : Int) ≤ _
          omega
      refine nx_retP hS q (fun e => (ev_tupleT (ev_takeT _ (lk e 0 rfl) (lk e 1 rfl) ?_)))
      rfl


theorem sc__law_part : FnScope ["_law_p", "_law_row", "_law_r", "_law_poly"] ["_law_p", "_law_row", "_law_r"] (defScope (top 39)) := ⟨rfl, rfl, rfl, by decide +kernel, rfl, by decide +kernel, by decide +kernel⟩
theorem b__law_part (h : Hd K mg) : Binds K h.fd__law_part ["_law_p", "_law_row", "_law_r"] [] := h.F__law_part.bindsN fun _ _ _ _ _ _ us hl => match us, hl with | [_, _, _], _ => rfl
theorem ok__law_part (h : Hd K mg) : FnOk P w K mg base CX0 2 h.f__law_part h.fd__law_part ["_law_p", "_law_row", "_law_r"] sp__law_part := by
  have nd := sc__law_part.nd
  refine h.F__law_part.ok sc__law_part (len_spF fun _ _ _ _ h => (ArgsE.sl h).1) (fun cdv A outer s H vs Q E hr hsp => ⟨_, PSs.nox
    (pss_one (ps_ret (pe_lc rfl nd (k_piL (K := K) rfl (pv 1)) (blkOk_by (own := [("_law_poly", 3)]) (by kernel_rfl)) (fun _ _ _ _ _ => (by exact (pg_name (i := 3) nd rfl (by first | exact .inl rfl | exact .inr rfl)))) (fun _ _ _ _ _ => pts_nil) (fun _ _ _ _ _ => (pe_call (ok__law_trimmed h) (hr.mono (by decide)) rfl h.g__law_trimmed h.F__law_trimmed.kp (b__law_trimmed h) .nil pass0 (pa_cons (k_step (K := K) rfl (pv 3) (po_some (pv 2)) (po_some (pv 0))) pa_nil)))))), pure_run hsp fun t W D hp hS q => ?_⟩)
  obtain ⟨_law_p, _law_row, _law_r⟩ := t
  dsimp only at hp q
  show Nx W _ ⟨[eR rI _law_p, eR (rL (rT rI)) _law_row, eR rN _law_r, eAny], []⟩

  obtain ⟨hp, l1, h1⟩ := hp
  refine nx_retP hS q (fun e => (en_lc1 e (ei_l (lk e 1 rfl)) ?_ (fun x => [(3, eR (rT rI) x)]) (fun x hx => (tg_n 3)) (by simp) (fun x hx σ2 G2 H2 e2 => (ev__law_trimmedR (ea_c (ev_step _ _ (lk e2 3 rfl) (ev_nI (lk e2 2 rfl)) (lk e2 0 rfl) ?_ ?_ ?_) ea_n) ?_))).ev)
  · omega
  · have := hp.pos; omega
  · have := hp.pos; omega
  · have := hp.two; omega
  · have := stepL_len x _law_r _law_p.toNat
    have := h1 x hx
    omega


theorem sc__law_times : FnScope ["_law_p", "_law_one", "_law_other", "_law_found", "_law_i", "_law_number", "_law_j", "_law_more"] ["_law_p", "_law_one", "_law_other"] (defScope (top 40)) := ⟨rfl, rfl, rfl, by decide +kernel, rfl, by decide +kernel, by decide +kernel⟩
theorem b__law_times (h : Hd K mg) : Binds K h.fd__law_times ["_law_p", "_law_one", "_law_other"] [] := h.F__law_times.bindsN fun _ _ _ _ _ _ us hl => match us, hl with | [_, _, _], _ => rfl
theorem ok__law_times (h : Hd K mg) : FnOk P w K mg base CX0 2 h.f__law_times h.fd__law_times ["_law_p", "_law_one", "_law_other"] sp__law_times := by
  have nd := sc__law_times.nd
  refine h.F__law_times.ok sc__law_times (len_spF fun _ _ _ _ h => (ArgsE.sl h).1) (fun cdv A outer s H vs Q E hr hsp => ⟨_, PSs.nox
    (pss_cons (ps_set (i := 3) nd rfl (by first | exact .inl rfl | exact .inr rfl) (pe_op op_rep (pe_lst (pa_cons pe_int pa_nil)) (pe_op op_add (pe_callB (k_len (K := K) rfl) rfl h.b_len (by decide +kernel) (pa_cons (pv 1) pa_nil)) (pe_callB (k_len (K := K) rfl) rfl h.b_len (by decide +kernel) (pa_cons (pv 2) pa_nil)))))
    (pss_cons (ps_for PassesOwn.never rfl (k_piET (K := K) rfl rfl h.b_enumerate (pa_cons (pv 1) pa_nil)) (k_tup (K := K) (n := 2) rfl rfl (pgs_cons (pg_name (i := 4) nd rfl (by first | exact .inl rfl | exact .inr rfl)) (pgs_cons (pg_name (i := 5) nd rfl (by first | exact .inl rfl | exact .inr rfl)) pgs_nil))) (pss_one (ps_for PassesOwn.never rfl (k_piET (K := K) rfl rfl h.b_enumerate (pa_cons (pv 2) pa_nil)) (k_tup (K := K) (n := 2) rfl rfl (pgs_cons (pg_name (i := 6) nd rfl (by first | exact .inl rfl | exact .inr rfl)) (pgs_cons (pg_name (i := 7) nd rfl (by first | exact .inl rfl | exact .inr rfl)) pgs_nil))) (pss_one (ps_asg (pe_op op_mod (pe_op op_add (pe_ix (k_ixL (K := K) rfl) (pv 3) (pe_op op_add (pv 4) (pv 6)) (fun _ _ => rfl)) (pe_op op_mul (pv 5) (pv 7))) (pv 0)) (pg_sub (pv 3) (pe_op op_add (pv 4) (pv 6)) set_list))))))
    (pss_one (ps_ret (pe_call (ok__law_trimmed h) (hr.mono (by decide)) rfl h.g__law_trimmed h.F__law_trimmed.kp (b__law_trimmed h) .nil pass0 (pa_cons (pv 3) pa_nil)))))), pure_run hsp fun t W D hp hS q => ?_⟩)
  obtain ⟨_law_p, _law_one, _law_other⟩ := t
  dsimp only at hp q
  show Nx W _ ⟨[eR rI _law_p, eR (rT rI) _law_one, eR (rT rI) _law_other, eAny, eAny, eAny, eAny, eAny], []⟩

  obtain ⟨hp, l1, l2, hn⟩ := hp
  have h0 := hp.pos
  refine nx_seq (nx_own (fun e => (en_rep (ev_lst (el_c ev_i el_n) (by simp)) (ev_nI (ev_addN (ev_lenN (lk e 1 rfl)) (ev_lenN (lk e 2 rfl)))) ?_ ?_)) fun a => ?_)
  · omega
  · omega
  rw [Int.toNat_natCast]
  refine nx_seq (nx_fold (fun e => (ei_et (lk e 1 rfl))) (fun _ acc => acc.length = _law_one.length + _law_other.length) (fun acc => ⟨[eR rI _law_p, eR (rT rI) _law_one, eR (rT rI) _law_other, eR rA a, eAny, eAny, eAny, eAny], [oL a rI acc]⟩) (fun acc q => (enumL _law_other).foldl (fun acc w => acc.set (q.1 + w.1) ((acc.getD (q.1 + w.1) 0 + q.2 * w.2) % _law_p)) acc) _ (fun x => [(4, eR rN x.1), (5, eR rI x.2)]) ⟨.same (.same (.same (.same (.any (.any (.any (.any .nil))))))), List.Sublist.refl _⟩ ?_ (fun x hx => (tg_u (tga_c (tga_c tga_n)) (by rfl))) (by simp) ?_ ?_)
  · rw [List.length_replicate]
  · intro W' e1 e2 e3 k acc x hx hl
    obtain ⟨x1, x2, x3⟩ := enumL_mem (List.mem_of_getElem? hx)
    have len : ∀ (l : List (Nat × Int)) (acc : List Int), (l.foldl (fun acc w => acc.set (x.1 + w.1) ((acc.getD (x.1 + w.1) 0 + x.2 * w.2) % _law_p)) acc).length = acc.length := by
      intro l
      induction l with
      | nil => intro acc; rfl
      | cons w l ih => intro acc; rw [List.foldl_cons, ih, List.length_set]
    refine ⟨by rw [len]; exact hl, ?_⟩
    refine nx_fold (fun e => (ei_et (lk e 2 rfl))) (fun _ acc => acc.length = _law_one.length + _law_other.length) (fun acc => ⟨[eR rI _law_p, eR (rT rI) _law_one, eR (rT rI) _law_other, eR rA a, eR rN x.1, eR rI x.2, eAny, eAny], [oL a rI acc]⟩) (fun acc w => acc.set (x.1 + w.1) ((acc.getD (x.1 + w.1) 0 + x.2 * w.2) % _law_p)) _ (fun x => [(6, eR rN x.1), (7, eR rI x.2)]) ⟨.same (.same (.same (.same (.same (.same (.any (.any .nil))))))), List.Sublist.refl _⟩ hl (fun x hx => (tg_u (tga_c (tga_c tga_n)) (by rfl))) (by simp) ?_ ?_
    · intro W2 e1 e2 e3 k acc y hy hl
      obtain ⟨y1, y2, y3⟩ := enumL_mem (List.mem_of_getElem? hy)
      refine ⟨by rw [List.length_set]; exact hl, ?_⟩
      refine nx_put 0 (x.1 + y.1) (fun e => (ev_mod (ev_add (ev_gLn (d := 0) (lkO e 3 0 rfl rfl) (ev_addN (lk e 4 rfl) (lk e 6 rfl)) ?_) (ev_mul (lk e 5 rfl) (lk e 7 rfl) ?_)) (lk e 0 rfl) ?_)) (fun e => lk e 3 rfl) (fun e => (ev_nI (ev_addN (lk e 4 rfl) (lk e 6 rfl)))) rfl rfl (by omega) (fun z => nomatch z) (nx_end ⟨.same (.same (.same (.same (.same (.same (.any (.any .nil))))))), List.Sublist.refl _⟩)
      · omega
      · exact mulOk hp (hn _ y3)
      · exact h0
    · intro hl
      exact nx_end ⟨.same (.same (.same (.same (.any (.any (.any (.any .nil))))))), List.Sublist.refl _⟩
  · intro hl
    refine nx_retP hS q (fun e => (ev__law_trimmedL (ea_c (lkO e 3 0 rfl rfl) ea_n) ?_))
    have hl : (mulL _law_p _law_one _law_other).length = _ := hl
    omega


theorem sc__law_plus : FnScope ["_law_p", "_law_one", "_law_other", "_law_found", "_law_k", "_law_number"] ["_law_p", "_law_one", "_law_other"] (defScope (top 41)) := ⟨rfl, rfl, rfl, by decide +kernel, rfl, by decide +kernel, by decide +kernel⟩
theorem b__law_plus (h : Hd K mg) : Binds K h.fd__law_plus ["_law_p", "_law_one", "_law_other"] [] := h.F__law_plus.bindsN fun _ _ _ _ _ _ us hl => match us, hl with | [_, _, _], _ => rfl
theorem ok__law_plus (h : Hd K mg) : FnOk P w K mg base CX0 2 h.f__law_plus h.fd__law_plus ["_law_p", "_law_one", "_law_other"] sp__law_plus := by
  have nd := sc__law_plus.nd
  refine h.F__law_plus.ok sc__law_plus (len_spF fun _ _ _ _ h => (ArgsE.sl h).1) (fun cdv A outer s H vs Q E hr hsp => ⟨_, PSs.nox
    (pss_cons (ps_set (i := 3) nd rfl (by first | exact .inl rfl | exact .inr rfl) (pe_op op_cat (pe_callTy (k_list (K := K) rfl) rfl h.b_list (by decide +kernel) (pa_cons (pv 1) pa_nil)) (pe_op op_rep (pe_lst (pa_cons pe_int pa_nil)) (pe_op op_sub (pe_callB (k_len (K := K) rfl) rfl h.b_len (by decide +kernel) (pa_cons (pv 2) pa_nil)) (pe_callB (k_len (K := K) rfl) rfl h.b_len (by decide +kernel) (pa_cons (pv 1) pa_nil))))))
    (pss_cons (ps_for PassesOwn.never rfl (k_piET (K := K) rfl rfl h.b_enumerate (pa_cons (pv 2) pa_nil)) (k_tup (K := K) (n := 2) rfl rfl (pgs_cons (pg_name (i := 4) nd rfl (by first | exact .inl rfl | exact .inr rfl)) (pgs_cons (pg_name (i := 5) nd rfl (by first | exact .inl rfl | exact .inr rfl)) pgs_nil))) (pss_one (ps_asg (pe_op op_mod (pe_op op_add (pe_ix (k_ixL (K := K) rfl) (pv 3) (pv 4) (fun _ _ => rfl)) (pv 5)) (pv 0)) (pg_sub (pv 3) (pv 4) set_list))))
    (pss_one (ps_ret (pe_call (ok__law_trimmed h) (hr.mono (by decide)) rfl h.g__law_trimmed h.F__law_trimmed.kp (b__law_trimmed h) .nil pass0 (pa_cons (pv 3) pa_nil)))))), pure_run hsp fun t W D hp hS q => ?_⟩)
  obtain ⟨_law_p, _law_one, _law_other⟩ := t
  dsimp only at hp q
  show Nx W _ ⟨[eR rI _law_p, eR (rT rI) _law_one, eR (rT rI) _law_other, eAny, eAny, eAny], []⟩

  obtain ⟨hp, l1, l2⟩ := hp
  have h0 := hp.pos
  refine nx_seq (nx_own (fun e => EvN.is (en_cat (ev_list (lk e 1 rfl)) (en_rep (ev_lst (el_c ev_i el_n) (by simp)) (ev_sub (ev_nI (ev_lenN (lk e 2 rfl))) (ev_nI (ev_lenN (lk e 1 rfl)))) ?_ ?_).ev ?_) (by rw [show (((_law_other.length : Nat) : Int) - ((_law_one.length : Nat) : Int)).toNat = _law_other.length - _law_one.length by omega])) fun a => ?_)
  · omega
  · omega
  · rw [List.length_replicate]; omega
  refine nx_seq (nx_fold (fun e => (ei_et (lk e 2 rfl))) (fun _ acc => acc.length = max _law_one.length _law_other.length) (fun acc => ⟨[eR rI _law_p, eR (rT rI) _law_one, eR (rT rI) _law_other, eR rA a, eAny, eAny], [oL a rI acc]⟩) (fun acc q => acc.set q.1 ((acc.getD q.1 0 + 1 * q.2) % _law_p)) _ (fun x => [(4, eR rN x.1), (5, eR rI x.2)]) ⟨.same (.same (.same (.same (.any (.any .nil))))), List.Sublist.refl _⟩ ?_ (fun x hx => (tg_u (tga_c (tga_c tga_n)) (by rfl))) (by simp) ?_ ?_)
  · rw [List.length_append, List.length_replicate]; omega
  · intro W' e1 e2 e3 k acc x hx hl
    obtain ⟨x1, x2, x3⟩ := enumL_mem (List.mem_of_getElem? hx)
    refine ⟨by rw [List.length_set]; exact hl, ?_⟩
    refine nx_put 0 x.1 (fun e => EvR.is (ev_mod (ev_add (ev_gLn (d := 0) (lkO e 3 0 rfl rfl) (lk e 4 rfl) ?_) (lk e 5 rfl)) (lk e 0 rfl) ?_) (show _ = (acc.getD x.1 0 + 1 * x.2) % _law_p by rw [Int.one_mul])) (fun e => lk e 3 rfl) (fun e => (ev_nI (lk e 4 rfl))) rfl rfl (by omega) (fun z => nomatch z) (nx_end ⟨.same (.same (.same (.same (.any (.any .nil))))), List.Sublist.refl _⟩)
    · omega
    · exact h0
  · intro hl
    refine nx_retP hS q (fun e => (ev__law_trimmedL (ea_c (lkO e 3 0 rfl rfl) ea_n) ?_))
    have hl : (addL _law_p 1 _law_one _law_other).length = _ := hl
    omega


theorem sc__law_spread : FnScope ["_law_p", "_law_poly", "_law_far", "_law_found", "_law_k", "_law_number"] ["_law_p", "_law_poly", "_law_far"] (defScope (top 43)) := ⟨rfl, rfl, rfl, by decide +kernel, rfl, by decide +kernel, by decide +kernel⟩
theorem b__law_spread (h : Hd K mg) : Binds K h.fd__law_spread ["_law_p", "_law_poly", "_law_far"] [] := h.F__law_spread.bindsN fun _ _ _ _ _ _ us hl => match us, hl with | [_, _, _], _ => rfl
theorem ok__law_spread (h : Hd K mg) : FnOk P w K mg base CX0 2 h.f__law_spread h.fd__law_spread ["_law_p", "_law_poly", "_law_far"] sp__law_spread := by
  have nd := sc__law_spread.nd
  refine h.F__law_spread.ok sc__law_spread (len_spF fun _ _ _ _ h => (ArgsE.sl h).1) (fun cdv A outer s H vs Q E hr hsp => ⟨_, PSs.nox
    (pss_cons (ps_set (i := 3) nd rfl (by first | exact .inl rfl | exact .inr rfl) (pe_op op_rep (pe_lst (pa_cons pe_int pa_nil)) (pe_op op_mul (pv 2) (pe_callB (k_len (K := K) rfl) rfl h.b_len (by decide +kernel) (pa_cons (pv 1) pa_nil)))))
    (pss_cons (ps_for PassesOwn.never rfl (k_piET (K := K) rfl rfl h.b_enumerate (pa_cons (pv 1) pa_nil)) (k_tup (K := K) (n := 2) rfl rfl (pgs_cons (pg_name (i := 4) nd rfl (by first | exact .inl rfl | exact .inr rfl)) (pgs_cons (pg_name (i := 5) nd rfl (by first | exact .inl rfl | exact .inr rfl)) pgs_nil))) (pss_one (ps_asg (pv 5) (pg_sub (pv 3) (pe_op op_mul (pv 2) (pv 4)) set_list))))
    (pss_one (ps_ret (pe_call (ok__law_trimmed h) (hr.mono (by decide)) rfl h.g__law_trimmed h.F__law_trimmed.kp (b__law_trimmed h) .nil pass0 (pa_cons (pv 3) pa_nil)))))), pure_run hsp fun t W D hp hS q => ?_⟩)
  obtain ⟨_law_p, _law_poly, _law_far⟩ := t
  dsimp only at hp q
  show Nx W _ ⟨[eR rI _law_p, eR (rT rI) _law_poly, eR rN _law_far, eAny, eAny, eAny], []⟩

  obtain ⟨l1, l2, hz⟩ := hp
  refine nx_seq (nx_own (fun e => EvN.is (en_rep (ev_lst (el_c ev_i el_n) (by simp)) (ev_nI (ev_mulN (lk e 2 rfl) (ev_lenN (lk e 1 rfl)) ?_)) ?_ ?_) (by rw [Int.toNat_natCast])) fun a => ?_)
  · omega
  · omega
  · omega
  refine nx_seq (nx_fold (fun e => (ei_et (lk e 1 rfl))) (fun _ acc => acc.length = _law_far * _law_poly.length) (fun acc => ⟨[eR rI _law_p, eR (rT rI) _law_poly, eR rN _law_far, eR rA a, eAny, eAny], [oL a rI acc]⟩) (fun acc q => acc.set (_law_far * q.1) q.2) _ (fun x => [(4, eR rN x.1), (5, eR rI x.2)]) ⟨.same (.same (.same (.same (.any (.any .nil))))), List.Sublist.refl _⟩ ?_ (fun x hx => (tg_u (tga_c (tga_c tga_n)) (by rfl))) (by simp) ?_ ?_)
  · rw [List.length_replicate]
  · intro W' e1 e2 e3 k acc x hx hl
    obtain ⟨x1, x2, x3⟩ := enumL_mem (List.mem_of_getElem? hx)
    refine ⟨by rw [List.length_set]; exact hl, ?_⟩
    have lt : _law_far * x.1 < _law_far * _law_poly.length := Nat.mul_lt_mul_of_pos_left x1 hz
    refine nx_put 0 (_law_far * x.1) (fun e => (lk e 5 rfl)) (fun e => lk e 3 rfl) (fun e => (ev_nI (ev_mulN (lk e 2 rfl) (lk e 4 rfl) ?_))) rfl rfl (by omega) (fun z => nomatch z) (nx_end ⟨.same (.same (.same (.same (.any (.any .nil))))), List.Sublist.refl _⟩)
    omega
  · intro hl
    refine nx_retP hS q (fun e => (ev__law_trimmedL (ea_c (lkO e 3 0 rfl rfl) ea_n) ?_))
    have hl : (spreadL _law_far _law_poly).length = _ := hl
    omega


theorem sc__law_woven : FnScope ["_law_p", "_law_row", "_law_steps", "_law_found", "_law_i", "_law_poly", "_law_j", "_law_line", "_law_step"] ["_law_p", "_law_row", "_law_steps"] (defScope (top 42)) := ⟨rfl, rfl, rfl, by decide +kernel, rfl, by decide +kernel, by decide +kernel⟩
theorem b__law_woven (h : Hd K mg) : Binds K h.fd__law_woven ["_law_p", "_law_row", "_law_steps"] [] := h.F__law_woven.bindsN fun _ _ _ _ _ _ us hl => match us, hl with | [_, _, _], _ => rfl
theorem ok__law_woven (h : Hd K mg) : FnOk P w K mg base CX0 3 h.f__law_woven h.fd__law_woven ["_law_p", "_law_row", "_law_steps"] sp__law_woven := by
  have nd := sc__law_woven.nd
  refine h.F__law_woven.ok sc__law_woven (len_spF fun _ _ _ _ h => (ArgsE.sl h).1) (fun cdv A outer s H vs Q E hr hsp => ⟨_, PSs.nox
    (pss_cons (ps_setLc (i := 3) rfl nd rfl rfl (sw_true rfl rfl rfl (by decide +kernel)) (k_piL (K := K) rfl (pv 1)) (blkOk_by (own := [("_law_poly", 5)]) (by kernel_rfl)) (fun _ _ _ _ _ => (by exact (pg_name (i := 5) nd rfl (by first | exact .inl rfl | exact .inr rfl)))) (fun _ _ _ _ _ => pts_nil) (fun _ _ _ _ _ => (pe_tup pa_nil)))
    (pss_cons (ps_for PassesOwn.never rfl (k_piE (K := K) rfl rfl h.b_enumerate (pa_cons (pv 1) pa_nil)) (k_tup (K := K) (n := 2) rfl rfl (pgs_cons (pg_name (i := 4) nd rfl (by first | exact .inl rfl | exact .inr rfl)) (pgs_cons (pg_name (i := 5) nd rfl (by first | exact .inl rfl | exact .inr rfl)) pgs_nil))) (pss_one (ps_for PassesOwn.never rfl (pi_range1 rfl h.b_range (pa_cons (pe_callB (k_len (K := K) rfl) rfl h.b_len (by decide +kernel) (pa_cons (pv 1) pa_nil)) pa_nil)) (pg_name (i := 6) nd rfl (by first | exact .inl rfl | exact .inr rfl)) (pss_cons (ps_set (i := 7) nd rfl (by first | exact .inl rfl | exact .inr rfl) (pe_call (ok__law_trimmed h) (hr.mono (by decide)) rfl h.g__law_trimmed h.F__law_trimmed.kp (b__law_trimmed h) .nil pass0 (pa_cons (pe_lc rfl nd (k_piT (K := K) rfl (pv 2)) (blkOk_by (own := [("_law_step", 8)]) (by kernel_rfl)) (fun _ _ _ _ _ => (by exact (pg_name (i := 8) nd rfl (by first | exact .inl rfl | exact .inr rfl)))) (fun _ _ _ _ _ => pts_nil) (fun _ _ _ _ _ => (pe_ix (k_ixT (K := K) rfl) (pe_ix (k_ixT (K := K) rfl) (pv 8) (pv 4) (fun _ _ => rfl)) (pv 6) (fun _ _ => rfl)))) pa_nil)))
    (pss_one (ps_asg (pe_call (ok__law_plus h) (hr.mono (by decide)) rfl h.g__law_plus h.F__law_plus.kp (b__law_plus h) .nil pass0 (pa_cons (pv 0) (pa_cons (pe_ix (k_ixL (K := K) rfl) (pv 3) (pv 6) (fun _ _ => rfl)) (pa_cons (pe_call (ok__law_times h) (hr.mono (by decide)) rfl h.g__law_times h.F__law_times.kp (b__law_times h) .nil pass0 (pa_cons (pv 0) (pa_cons (pv 5) (pa_cons (pv 7) pa_nil)))) pa_nil)))) (pg_sub (pv 3) (pv 6) set_list)))))))
    (pss_one (ps_ret (pv 3))))), pure_run hsp fun t W D hp hS q => ?_⟩)
  obtain ⟨_law_p, _law_row, _law_steps⟩ := t
  dsimp only at hp q
  show Nx W _ ⟨[eR rI _law_p, eR (rL (rT rI)) _law_row, eR (rT (rT (rT rI))) _law_steps, eAny, eAny, eAny, eAny, eAny, eAny], []⟩

  obtain ⟨hp, l1, l2, h1, h2⟩ := hp
  have h0 := hp.pos
  refine nx_seq (nx_own (fun e => (en_lc1 e (ei_l (lk e 1 rfl)) ?_ (fun x => [(5, eR (rT rI) x)]) (fun x hx => (tg_n 5)) (by simp) (fun x hx σ2 G2 H2 e2 => (ev_nilT (r := rI))))) fun a => ?_)
  · omega
  have step : ∀ (i : Nat) (poly : List Int), poly.length ≤ 20000 → ∀ (j : Nat) (acc : List (List Int)), (acc.length = _law_row.length ∧ ∀ g ∈ acc, g.length ≤ 20005) → ((acc.set j (add _law_p 1 (acc.getD j []) (mul _law_p poly (lineOf _law_steps i j)))).length = _law_row.length ∧ ∀ g ∈ acc.set j (add _law_p 1 (acc.getD j []) (mul _law_p poly (lineOf _law_steps i j))), g.length ≤ 20005) := by
    intro i poly hpoly j acc ⟨a1, a2⟩
    refine ⟨by rw [List.length_set]; exact a1, fun g hg => ?_⟩
    rcases List.mem_or_eq_of_mem_set hg with hg | hg
    · exact a2 g hg
    · subst hg
      have q1 := add_len _law_p 1 (acc.getD j []) (mul _law_p poly (lineOf _law_steps i j))
      have q2 := mul_len _law_p poly (lineOf _law_steps i j)
      have q3 : (lineOf _law_steps i j).length ≤ 5 := by
        unfold lineOf
        refine Nat.le_trans (trim_len _) ?_
        rw [List.length_map]
        exact l2
      have q4 : (acc.getD j []).length ≤ 20005 := by
        by_cases hj : j < acc.length
        · exact a2 _ (getD_mem hj)
        · rw [List.getD_eq_getElem?_getD, List.getElem?_eq_none (by omega)]
          exact Nat.zero_le _
      omega
  refine nx_seq (nx_fold (fun e => (ei_el (lk e 1 rfl))) (fun _ acc => acc.length = _law_row.length ∧ ∀ g ∈ acc, g.length ≤ 20005) (fun acc => ⟨[eR rI _law_p, eR (rL (rT rI)) _law_row, eR (rT (rT (rT rI))) _law_steps, eR rA a, eAny, eAny, eAny, eAny, eAny], [oL a (rT rI) acc]⟩) (wovenS _law_p _law_steps _law_row.length) _ (fun x => [(4, eR rN x.1), (5, eR (rT rI) x.2)]) ⟨.same (.same (.same (.same (.any (.any (.any (.any (.any .nil)))))))), List.Sublist.refl _⟩ ?_ (fun x hx => (tg_u (tga_c (tga_c tga_n)) (by rfl))) (by simp) ?_ ?_)
  · refine ⟨List.length_map _, fun g hg => ?_⟩
    obtain ⟨y, _, rfl⟩ := List.mem_map.mp hg
    exact Nat.zero_le _
  · intro W' e1 e2 e3 k acc w hw ha
    obtain ⟨w1, w2, w3⟩ := enumL_mem (List.mem_of_getElem? hw)
    have hw2 := h2 _ w3
    refine ⟨?_, ?_⟩
    · unfold wovenS
      exact foldl_inv (fun acc => acc.length = _law_row.length ∧ ∀ g ∈ acc, g.length ≤ 20005) _ _ _ ha fun b j _ hb => step w.1 w.2 hw2 j b hb
    refine nx_fold (fun e => EvI.is (ei_r1 (ev_nI (ev_lenN (lk e 1 rfl))) ?_ ?_) (by rw [Int.toNat_natCast])) (fun _ acc => acc.length = _law_row.length ∧ ∀ g ∈ acc, g.length ≤ 20005) (fun acc => ⟨[eR rI _law_p, eR (rL (rT rI)) _law_row, eR (rT (rT (rT rI))) _law_steps, eR rA a, eR rN w.1, eR (rT rI) w.2, eAny, eAny, eAny], [oL a (rT rI) acc]⟩) (fun acc j => acc.set j (add _law_p 1 (acc.getD j []) (mul _law_p w.2 (lineOf _law_steps w.1 j)))) acc (fun x => [(6, eR rN x)])
      ⟨.same (.same (.same (.same (.same (.same (.any (.any (.any .nil)))))))), List.Sublist.refl _⟩ ha (fun x hx => (tg_n 6)) (by simp) ?_ ?_
    · omega
    · omega
    · intro W2 e1 e2 e3 m acc j hj ha
      have hj : j < _law_row.length := by
        have := List.mem_of_getElem? hj
        rwa [List.mem_range] at this
      refine ⟨step w.1 w.2 hw2 j acc ha, ?_⟩
      refine nx_seq (nx_asg (x := lineOf _law_steps w.1 j) (fun e => (ev__law_trimmedL (ea_c (ev_rr (en_lc1 e (ei_t (lk e 2 rfl)) ?_ (fun x => [(8, eR (rT (rT rI)) x)]) (fun x hx => (tg_n 8)) (by simp) (fun x hx σ2 G2 H2 e2 => (ev_gTn (d := 0) (ev_gTn (d := []) (lk e2 8 rfl) (lk e2 4 rfl) ?_) (lk e2 6 rfl) ?_))).ev) ea_n) ?_)) ?_)
      · omega
      · have := (h1 x hx).1
        show w.1 < x.length
        omega
      · have q1 := (h1 x hx).1
        have q2 := ((h1 x hx).2 (x.getD w.1 []) (getD_mem (by omega))).1
        show j < (x.getD w.1 []).length
        omega
      · rw [List.length_map]; omega
      have q3 : (lineOf _law_steps w.1 j).length ≤ 5 := by
        unfold lineOf
        refine Nat.le_trans (trim_len _) ?_
        rw [List.length_map]
        exact l2
      have q4 : Nm _law_p (lineOf _law_steps w.1 j) := by
        refine trim_nm fun x hx => ?_
        obtain ⟨s, hs, rfl⟩ := List.mem_map.mp hx
        have q1 := (h1 s hs).1
        obtain ⟨q2, q3⟩ := (h1 s hs).2 (s.getD w.1 []) (getD_mem (by omega))
        exact q3 _ (getD_mem (by omega))
      refine nx_put 0 j (fun e => (ev__law_plus (ea_c (lk e 0 rfl) (ea_c (ev_gLn (d := []) (lkO e 3 0 rfl rfl) (lk e 6 rfl) ?_) (ea_c (ev__law_times (ea_c (lk e 0 rfl) (ea_c (lk e 5 rfl) (ea_c (lk e 7 rfl) ea_n))) ?_) ea_n))) ?_)) (fun e => lk e 3 rfl) (fun e => (ev_nI (lk e 6 rfl))) rfl rfl (by omega) (fun z => nomatch z) (nx_end ⟨.same (.same (.same (.same (.same (.same (.any (.any (.any .nil)))))))), List.Sublist.refl _⟩)
      · omega
      · exact ⟨hp, by omega, by omega, q4⟩
      · have := ha.2 _ (getD_mem (d := []) (show j < acc.length by omega))
        have := mul_len _law_p w.2 (lineOf _law_steps w.1 j)
        exact ⟨hp, by omega, by omega⟩
    · intro _
      exact nx_end ⟨.same (.same (.same (.same (.any (.any (.any (.any (.any .nil)))))))), List.Sublist.refl _⟩
  · intro _
    refine nx_keep 3 0 rfl rfl ?_
    exact nx_retP hS q (fun e => lk e 3 rfl)


theorem sc__law_left : FnScope ["_law_p", "_law_lines", "_law_vector", "_law_left_here", "_law_lead", "_law_line", "_law_often", "_law_a", "_law_b"] ["_law_p", "_law_lines", "_law_vector"] (defScope (top 45)) := ⟨rfl, rfl, rfl, by decide +kernel, rfl, by decide +kernel, by decide +kernel⟩
theorem b__law_left (h : Hd K mg) : Binds K h.fd__law_left ["_law_p", "_law_lines", "_law_vector"] [] := h.F__law_left.bindsN fun _ _ _ _ _ _ us hl => match us, hl with | [_, _, _], _ => rfl
theorem ok__law_left (h : Hd K mg) : FnOk P w K mg base CX0 1 h.f__law_left h.fd__law_left ["_law_p", "_law_lines", "_law_vector"] sp__law_left := by
  have nd := sc__law_left.nd
  refine h.F__law_left.ok sc__law_left (fun vs H Q E h => ?_) (fun cdv A outer s H vs Q E hr hsp => ⟨_, PSs.nox
    (pss_cons (ps_set (i := 3) nd rfl (by first | exact .inl rfl | exact .inr rfl) (pe_callTy (k_list (K := K) rfl) rfl h.b_list (by decide +kernel) (pa_cons (pv 2) pa_nil)))
    (pss_cons (ps_for PassesOwn.never rfl (k_piL (K := K) rfl (pv 1)) (k_tup (K := K) (n := 2) rfl rfl (pgs_cons (pg_name (i := 4) nd rfl (by first | exact .inl rfl | exact .inr rfl)) (pgs_cons (pg_name (i := 5) nd rfl (by first | exact .inl rfl | exact .inr rfl)) pgs_nil))) (pss_cons (ps_set (i := 6) nd rfl (by first | exact .inl rfl | exact .inr rfl) (pe_ix (k_ixL (K := K) rfl) (pv 3) (pv 4) (fun _ _ => rfl)))
    (pss_one (ps_setLc (i := 3) rfl nd rfl rfl (sw_true rfl rfl rfl (by decide +kernel)) (k_piZ (K := K) rfl true true rfl h.b_zip (pa_cons (pv 3) (pa_cons (pv 5) pa_nil))) (blkOk_by (own := [("_law_a", 7), ("_law_b", 8)]) (by kernel_rfl)) (fun _ _ _ _ _ => (by exact (k_tup (K := K) (n := 2) rfl rfl (pgs_cons (pg_name (i := 7) nd rfl (by first | exact .inl rfl | exact .inr rfl)) (pgs_cons (pg_name (i := 8) nd rfl (by first | exact .inl rfl | exact .inr rfl)) pgs_nil))))) (fun _ _ _ _ _ => pts_nil) (fun _ _ _ _ _ => (pe_op op_mod (pe_op op_sub (pv 7) (pe_op op_mul (pv 6) (pv 8))) (pv 0)))))))
    (pss_one (ps_ret (pv 3))))), ?_⟩)
  · obtain ⟨i, G, _, ⟨_, _, rfl, _, ⟨_, _, rfl, _, ⟨_, _, rfl, _, rfl⟩⟩⟩, _⟩ := h
    rfl
  obtain ⟨⟨_law_p, _law_lines, _law_vector⟩, G, d, ⟨_, _, rfl, h0, ⟨_, _, rfl, ⟨a, us, rfl, ha, ta⟩, ⟨_, _, rfl, h2, rfl⟩⟩⟩, hp, q⟩ := hsp
  dsimp only at hp q
  refine (?_ : Nx ⟨[], G, H, G⟩ _ ⟨[eR rI _law_p, eR rA a, eR (rL rI) _law_vector, eAny, eAny, eAny, eAny, eAny, eAny], [oF a us (rPr rN (rL rI)) _law_lines]⟩) _ G H (en_startF d ⟨⟨_, rfl, Go.go h0⟩, ⟨_, rfl, rfl⟩, ⟨_, rfl, Go.go h2⟩, trivial, trivial, trivial, trivial, trivial, trivial, trivial⟩ rfl ha ta)
  obtain ⟨hp, l1, h1⟩ := hp
  have h0 := hp.pos
  refine nx_seq (nx_asg (fun e => (ev_list (lk e 2 rfl))) ?_)
  refine nx_seq (nx_fold (fun e => (ei_f e 1 0 rfl rfl)) (fun _ l => l.length = _law_vector.length) (fun l => ⟨[eR rI _law_p, eR rA a, eR (rL rI) _law_vector, eR (rL rI) l, eAny, eAny, eAny, eAny, eAny], [oF a us (rPr rN (rL rI)) _law_lines]⟩) (leftS _law_p) _law_vector (fun x => [(4, eR rN x.1), (5, eR (rL rI) x.2)]) ⟨.same (.same (.same (.same (.any (.any (.any (.any (.any .nil)))))))), List.Sublist.refl _⟩ rfl (fun x hx => (tg_u (tga_c (tga_c tga_n)) (by rfl))) ?_ ?_ ?_)
  · intro b hb
    have hb := List.mem_singleton.mp hb
    exact ⟨us, fun y => ⟨_, List.mem_singleton.mpr rfl, hb.symm, fun G h hh => hh.1⟩⟩
  · intro W' e1 e2 e3 k l w hw hl
    obtain ⟨w1, w2, w3⟩ := h1 _ (List.mem_of_getElem? hw)
    refine ⟨by unfold leftS; rw [List.length_map, List.length_zip]; omega, ?_⟩
    refine nx_seq (nx_asg (fun e => (ev_gLn (d := 0) (lk e 3 rfl) (lk e 4 rfl) ?_)) ?_)
    · omega
    refine nx_asg (x := leftS _law_p l w) (fun e => (en_lc1 e (ei_z (lk e 3 rfl) (lk e 5 rfl)) ?_ (fun x => [(7, eR rI x.1), (8, eR rI x.2)]) (fun x hx => (tg_u (tga_c (tga_c tga_n)) (by rfl))) (by simp) (fun x hx σ2 G2 H2 e2 => (ev_mod (ev_sub (lk e2 7 rfl) (ev_mul (lk e2 6 rfl) (lk e2 8 rfl) ?_)) (lk e2 0 rfl) ?_))).ev) (nx_end ⟨.same (.same (.same (.same (.any (.any (.any (.any (.any .nil)))))))), List.Sublist.refl _⟩)
    · rw [List.length_zip]; omega
    · exact mulOk hp (w3 _ (List.of_mem_zip hx).2)
    · exact h0
  · intro _
    exact nx_retP rfl (fun v G' H' f hv => q v G' H' f hv) (fun e => (lk e 3 rfl))

end
end Dg
end
section
set_option Elab.async false
set_option linter.all false
set_option maxRecDepth 100000
set_option maxHeartbeats 4000000
/-! The law's sum row. -/
namespace Dg
open PySem PySem.Spec PyProof.Rows L2

abbrev sp__law_sum_row : Sp := spF (ι := ((Int) × (List (Int)) × (List (List (List (Int)))) × (List (Int))) × (List (List (Int)))) (fun t => (aC (rQd rI (rT rI) (rT (rT (rT rI))) (rT rI)) t.1 (aC (rT (rT rI)) t.2 aN))) (fun t => (fun (_law_table : (Int) × (List (Int)) × (List (List (List (Int)))) × (List (Int))) (_law_powers : List (List (Int))) => Tb _law_table.1 _law_table.2.1 _law_table.2.2.1 _law_table.2.2.2 ∧ 0 < _law_powers.length ∧ _law_powers.length ≤ 6 ∧ _law_table.1.toNat ^ (_law_powers.length - 1) ≤ 32 ∧ Po _law_table.1 18000 _law_powers) (t.1) (t.2)) (rPr (rL (rT rI)) rI) (fun t => (fun (_law_table : (Int) × (List (Int)) × (List (List (List (Int)))) × (List (Int))) (_law_powers : List (List (Int))) => (sumRow _law_table.1 _law_table.2.1 _law_table.2.2.1 _law_table.2.2.2.length _law_powers, ((_law_table.1.toNat ^ (_law_powers.length - 1) : Nat) : Int))) (t.1) (t.2))
theorem ev__law_sum_row {σ : L2.St} {G H : Hp} {ta : TA} {E : XK} {_law_table : (Int) × (List (Int)) × (List (List (List (Int)))) × (List (Int))} {_law_powers : List (List (Int))} (ha : EvA ta σ G H (aC (rQd rI (rT rI) (rT (rT (rT rI))) (rT rI)) _law_table (aC (rT (rT rI)) _law_powers aN))) (hp : Tb _law_table.1 _law_table.2.1 _law_table.2.2.1 _law_table.2.2.2 ∧ 0 < _law_powers.length ∧ _law_powers.length ≤ 6 ∧ _law_table.1.toNat ^ (_law_powers.length - 1) ≤ 32 ∧ Po _law_table.1 18000 _law_powers) : EvR (tCall sp__law_sum_row [] E ta) σ G H (rPr (rL (rT rI)) rI) ((sumRow _law_table.1 _law_table.2.1 _law_table.2.2.1 _law_table.2.2.2.length _law_powers, ((_law_table.1.toNat ^ (_law_powers.length - 1) : Nat) : Int))) := ev_call (_law_table, _law_powers) ha hp
section
variable {P : Program} {w : World} {K : PySem.W.Frag} {mg : Str → Option Value} {base : Heap}


theorem sc__law_sum_row : FnScope ["_law_table", "_law_powers", "_law_p", "_law_begin", "_law_steps", "_law_firsts", "_law_found", "_law_last", "_law_turn", "_law_far", "_law_poly", "_law_row", "_law_step", "_law_number", "_law_wide", "_law_after", "_law_i", "_law_one", "_law_old", "_law_j", "_law_more", "_law_some"] ["_law_table", "_law_powers"] (defScope (top 44)) := ⟨rfl, rfl, rfl, by decide +kernel, rfl, by decide +kernel, by decide +kernel⟩
theorem b__law_sum_row (h : Hd K mg) : Binds K h.fd__law_sum_row ["_law_table", "_law_powers"] [] := h.F__law_sum_row.bindsN fun _ _ _ _ _ _ us hl => match us, hl with | [_, _], _ => rfl
theorem ok__law_sum_row (h : Hd K mg) : FnOk P w K mg base CX0 3 h.f__law_sum_row h.fd__law_sum_row ["_law_table", "_law_powers"] sp__law_sum_row := by
  have nd := sc__law_sum_row.nd
  refine h.F__law_sum_row.ok sc__law_sum_row (len_spF fun _ _ _ _ h => (ArgsE.sl h).1) (fun cdv A outer s H vs Q E hr hsp => ⟨_, PSs.nox
    (pss_cons (ps_asg (pv 0) (k_tup (K := K) (n := 4) rfl rfl (pgs_cons (pg_name (i := 2) nd rfl (by first | exact .inl rfl | exact .inr rfl)) (pgs_cons (pg_name (i := 3) nd rfl (by first | exact .inl rfl | exact .inr rfl)) (pgs_cons (pg_name (i := 4) nd rfl (by first | exact .inl rfl | exact .inr rfl)) (pgs_cons (pg_name (i := 5) nd rfl (by first | exact .inl rfl | exact .inr rfl)) pgs_nil))))))
    (pss_cons (ps_setLc (i := 6) rfl nd rfl rfl (sw_true rfl rfl rfl (by decide +kernel)) (k_piT (K := K) rfl (pv 3)) (blkOk_by (own := [("_law_number", 13)]) (by kernel_rfl)) (fun _ _ _ _ _ => (by exact (pg_name (i := 13) nd rfl (by first | exact .inl rfl | exact .inr rfl)))) (fun _ _ _ _ _ => pts_nil) (fun _ _ _ _ _ => (pe_tup pa_nil)))
    (pss_cons (ps_set (i := 7) nd rfl (by first | exact .inl rfl | exact .inr rfl) pe_int)
    (pss_cons (ps_for PassesOwn.never rfl (pi_range1 rfl h.b_range (pa_cons (pe_op op_sub (pe_callB (k_len (K := K) rfl) rfl h.b_len (by decide +kernel) (pa_cons (pv 1) pa_nil)) pe_int) pa_nil)) (pg_name (i := 8) nd rfl (by first | exact .inl rfl | exact .inr rfl)) (pss_one (ps_set (i := 7) nd rfl (by first | exact .inl rfl | exact .inr rfl) (pe_op op_mul (pv 7) (pv 2)))))
    (pss_cons (ps_set (i := 9) nd rfl (by first | exact .inl rfl | exact .inr rfl) pe_int)
    (pss_cons (ps_for PassesOwn.never rfl (k_piT (K := K) rfl (pv 1)) (pg_name (i := 10) nd rfl (by first | exact .inl rfl | exact .inr rfl)) (pss_cons (ps_setLc (i := 11) rfl nd rfl rfl (sw_true rfl rfl rfl (by decide +kernel)) (k_piT (K := K) rfl (pv 3)) (blkOk_by (own := [("_law_number", 13)]) (by kernel_rfl)) (fun _ _ _ _ _ => (by exact (pg_name (i := 13) nd rfl (by first | exact .inl rfl | exact .inr rfl)))) (fun _ _ _ _ _ => pts_nil) (fun _ _ _ _ _ => (pe_call (ok__law_trimmed h) (hr.mono (by decide)) rfl h.g__law_trimmed h.F__law_trimmed.kp (b__law_trimmed h) .nil pass0 (pa_cons (pe_lst (pa_cons (pv 13) pa_nil)) pa_nil))))
    (pss_cons (ps_set (i := 12) nd rfl (by first | exact .inl rfl | exact .inr rfl) (pv 9))
    (pss_cons (ps_while PassesOwn.never (pt_cmpR op_lt (pv 12) (pv 7) (nomark _)) (pss_cons (ps_setLc (i := 14) rfl nd rfl rfl (sw_true rfl rfl rfl (by decide +kernel)) (pi_range1 rfl h.b_range (pa_cons (pe_callB (k_len (K := K) rfl) rfl h.b_len (by decide +kernel) (pa_cons (pv 3) pa_nil)) pa_nil)) (blkOk_by (own := [("_law_i", 16)]) (by kernel_rfl)) (fun _ _ _ _ _ => (by exact (pg_name (i := 16) nd rfl (by first | exact .inl rfl | exact .inr rfl)))) (fun _ _ _ _ _ => pts_nil) (fun _ _ _ _ _ => (pe_lc rfl nd (pi_range1 rfl h.b_range (pa_cons (pe_callB (k_len (K := K) rfl) rfl h.b_len (by decide +kernel) (pa_cons (pv 3) pa_nil)) pa_nil)) (blkOk_by (own := [("_law_j", 19)]) (by kernel_rfl)) (fun _ _ _ _ _ => (by exact (pg_name (i := 19) nd rfl (by first | exact .inl rfl | exact .inr rfl)))) (fun _ _ _ _ _ => pts_nil) (fun _ _ _ _ _ => (pe_call (ok__law_spread h) (hr.mono (by decide)) rfl h.g__law_spread h.F__law_spread.kp (b__law_spread h) .nil pass0 (pa_cons (pv 2) (pa_cons (pe_call (ok__law_trimmed h) (hr.mono (by decide)) rfl h.g__law_trimmed h.F__law_trimmed.kp (b__law_trimmed h) .nil pass0 (pa_cons (pe_lc rfl nd (k_piT (K := K) rfl (pv 4)) (blkOk_by (own := [("_law_some", 21)]) (by kernel_rfl)) (fun _ _ _ _ _ => (by exact (pg_name (i := 21) nd rfl (by first | exact .inl rfl | exact .inr rfl)))) (fun _ _ _ _ _ => pts_nil) (fun _ _ _ _ _ => (pe_ix (k_ixT (K := K) rfl) (pe_ix (k_ixT (K := K) rfl) (pv 21) (pv 16) (fun _ _ => rfl)) (pv 19) (fun _ _ => rfl)))) pa_nil)) (pa_cons (pv 12) pa_nil))))))))
    (pss_cons (ps_setLc (i := 15) rfl nd rfl rfl (sw_true rfl rfl rfl (by decide +kernel)) (k_piT (K := K) rfl (pv 3)) (blkOk_by (own := [("_law_number", 13)]) (by kernel_rfl)) (fun _ _ _ _ _ => (by exact (pg_name (i := 13) nd rfl (by first | exact .inl rfl | exact .inr rfl)))) (fun _ _ _ _ _ => pts_nil) (fun _ _ _ _ _ => (pe_tup pa_nil)))
    (pss_cons (ps_for PassesOwn.never rfl (k_piE (K := K) rfl rfl h.b_enumerate (pa_cons (pv 11) pa_nil)) (k_tup (K := K) (n := 2) rfl rfl (pgs_cons (pg_name (i := 16) nd rfl (by first | exact .inl rfl | exact .inr rfl)) (pgs_cons (pg_name (i := 17) nd rfl (by first | exact .inl rfl | exact .inr rfl)) pgs_nil))) (pss_one (ps_setLc (i := 15) rfl nd rfl rfl (sw_true rfl rfl rfl (by decide +kernel)) (k_piZ (K := K) rfl true true rfl h.b_zip (pa_cons (pv 15) (pa_cons (pe_ix (k_ixL (K := K) rfl) (pv 14) (pv 16) (fun _ _ => rfl)) pa_nil))) (blkOk_by (own := [("_law_old", 18), ("_law_more", 20)]) (by kernel_rfl)) (fun _ _ _ _ _ => (by exact (k_tup (K := K) (n := 2) rfl rfl (pgs_cons (pg_name (i := 18) nd rfl (by first | exact .inl rfl | exact .inr rfl)) (pgs_cons (pg_name (i := 20) nd rfl (by first | exact .inl rfl | exact .inr rfl)) pgs_nil))))) (fun _ _ _ _ _ => pts_nil) (fun _ _ _ _ _ => (pe_call (ok__law_plus h) (hr.mono (by decide)) rfl h.g__law_plus h.F__law_plus.kp (b__law_plus h) .nil pass0 (pa_cons (pv 2) (pa_cons (pv 18) (pa_cons (pe_call (ok__law_times h) (hr.mono (by decide)) rfl h.g__law_times h.F__law_times.kp (b__law_times h) .nil pass0 (pa_cons (pv 2) (pa_cons (pv 17) (pa_cons (pv 20) pa_nil)))) pa_nil))))))))
    (pss_cons (ps_set (i := 11) nd rfl (by first | exact .inl rfl | exact .inr rfl) (pv 15))
    (pss_one (ps_set (i := 12) nd rfl (by first | exact .inl rfl | exact .inr rfl) (pe_op op_mul (pv 12) (pv 2)))))))))
    (pss_cons (ps_setLc (i := 6) rfl nd rfl rfl (sw_true rfl rfl rfl (by decide +kernel)) (k_piZ (K := K) rfl true true rfl h.b_zip (pa_cons (pv 6) (pa_cons (pv 11) pa_nil))) (blkOk_by (own := [("_law_old", 18), ("_law_one", 17)]) (by kernel_rfl)) (fun _ _ _ _ _ => (by exact (k_tup (K := K) (n := 2) rfl rfl (pgs_cons (pg_name (i := 18) nd rfl (by first | exact .inl rfl | exact .inr rfl)) (pgs_cons (pg_name (i := 17) nd rfl (by first | exact .inl rfl | exact .inr rfl)) pgs_nil))))) (fun _ _ _ _ _ => pts_nil) (fun _ _ _ _ _ => (pe_call (ok__law_plus h) (hr.mono (by decide)) rfl h.g__law_plus h.F__law_plus.kp (b__law_plus h) .nil pass0 (pa_cons (pv 2) (pa_cons (pv 18) (pa_cons (pe_call (ok__law_times h) (hr.mono (by decide)) rfl h.g__law_times h.F__law_times.kp (b__law_times h) .nil pass0 (pa_cons (pv 2) (pa_cons (pv 10) (pa_cons (pv 17) pa_nil)))) pa_nil))))))
    (pss_one (ps_set (i := 9) nd rfl (by first | exact .inl rfl | exact .inr rfl) (pe_op op_mul (pv 9) (pv 2)))))))))
    (pss_one (ps_ret (pe_tup (pa_cons (pv 6) (pa_cons (pv 7) pa_nil))))))))))), pure_run hsp fun t W D hp hS q => ?_⟩)
  obtain ⟨_law_table, _law_powers⟩ := t
  dsimp only at hp q
  show Nx W _ ⟨[eR (rQd rI (rT rI) (rT (rT (rT rI))) (rT rI)) _law_table, eR (rT (rT rI)) _law_powers, eAny, eAny, eAny, eAny, eAny, eAny, eAny, eAny, eAny, eAny, eAny, eAny, eAny, eAny, eAny, eAny, eAny, eAny, eAny, eAny], []⟩

  obtain ⟨hp, hl0, hl, hq, hpo⟩ := hp
  obtain ⟨p, begin, steps, firsts⟩ := _law_table
  dsimp only at hp hq hpo q
  have h0 := hp.pm.pos
  have h2 := hp.pm.two
  have h5 := hp.pm.le
  have nm := hp.nm
  have nb := hp.nb
  have pt : (p.toNat : Int) = p := by omega
  have mulN : ∀ k : Nat, ((p.toNat ^ k : Nat) : Int) * p = ((p.toNat ^ (k + 1) : Nat) : Int) := fun k => by rw [Nat.pow_succ, Int.natCast_mul, pt]
  have small : ∀ k : Nat, k ≤ _law_powers.length - 1 → p.toNat ^ k ≤ 32 := fun k hk => Nat.le_trans (Nat.pow_le_pow_right (by omega) hk) hq
  refine (s_tup (fun e => (lk e 0 rfl)) (tg_u (tga_c (tga_c (tga_c (tga_c tga_n)))) (by rfl)) ?_)
  refine (s_asg (fun e => (en_lc1 e (ei_t (lk e 3 rfl)) ?_ (fun x => [(13, eR rI x)]) (fun x hx => (tg_n 13)) (by simp) (fun x hx σ2 G2 H2 e2 => (ev_nilT (r := rI)))).ev) ?_)
  · show begin.length ≤ 200000; omega
  refine (s_asg (r := rN) (x := p.toNat ^ 0) (fun e => ev_nI' (i := 1) ev_i (by rw [Nat.pow_zero]; rfl)) ?_)
  refine (s_fold (fun e => EvI.is (ei_r1 (ev_sub (ev_nI (ev_lenN (lk e 1 rfl))) ev_i) ?_ ?_) (show _ = List.range (_law_powers.length - 1) by rw [show (((_law_powers.length : Nat) : Int) - 1).toNat = _law_powers.length - 1 by omega])) (fun k s => s = p.toNat ^ k) (fun s => ⟨[eR (rQd rI (rT rI) (rT (rT (rT rI))) (rT rI)) (p, begin, steps, firsts), eR (rT (rT rI)) _law_powers, eR rI p, eR (rT rI) begin, eR (rT (rT (rT rI))) steps, eR (rT rI) firsts, eR (rL (rT rI)) (begin.map fun _ => []), eR rN s, eAny, eAny, eAny, eAny, eAny, eAny, eAny, eAny, eAny, eAny, eAny, eAny, eAny, eAny], []⟩) (fun s _ => s * p.toNat) _ (fun x => [(8, eR rN x)]) ⟨by repeat' (first | exact SubE.nil | apply SubE.any | apply SubE.same), List.Sublist.refl _⟩ rfl (fun x hx => (tg_n 8)) (by simp) ?_ ?_)
  · omega
  · omega
  · intro W' e1 e2 e3 k s x hx hs
    subst hs
    refine ⟨by rw [Nat.pow_succ], nx_asg (r := rN) (x := p.toNat ^ k * p.toNat) (fun e => ev_nI' (ev_mul (ev_nI (lk e 7 rfl)) (lk e 2 rfl) ?_) (by rw [mulN, Nat.pow_succ])) (nx_end ⟨by repeat' (first | exact SubE.nil | apply SubE.any | apply SubE.same), List.Sublist.refl _⟩)⟩
    exact Or.inr ⟨by omega, by omega⟩
  · intro hs
    rw [hs, List.length_range, map_nils, nb]
    refine (s_asg (r := rN) (x := p.toNat ^ 0) (fun e => ev_nI' (i := 1) ev_i (by rw [Nat.pow_zero]; rfl)) ?_)
    refine (s_fold (fun e => (ei_t (lk e 1 rfl))) (fun k s => s.1 = ((enumL _law_powers).take k).foldl (fun found q => plusRow p q.2 found (rowAt p begin steps firsts.length q.1 (_law_powers.length - 1 - q.1))) (List.replicate firsts.length []) ∧ s.2 = k ∧ s.1.length = firsts.length ∧ Po p 20000 s.1)
      (fun s => ⟨[eR (rQd rI (rT rI) (rT (rT (rT rI))) (rT rI)) (p, begin, steps, firsts), eR (rT (rT rI)) _law_powers, eR rI p, eR (rT rI) begin, eR (rT (rT (rT rI))) steps, eR (rT rI) firsts, eR (rL (rT rI)) s.1, eR rN (p.toNat ^ (_law_powers.length - 1)), eAny, eR rN (p.toNat ^ s.2), eAny, eAny, eAny, eAny, eAny, eAny, eAny, eAny, eAny, eAny, eAny, eAny], []⟩) (fun s poly => (plusRow p poly s.1 (rowAt p begin steps firsts.length s.2 (_law_powers.length - 1 - s.2)), s.2 + 1)) (List.replicate firsts.length [], 0) (fun x => [(10, eR (rT rI) x)]) ⟨by repeat' (first | exact SubE.nil | apply SubE.any | apply SubE.same), List.Sublist.refl _⟩ ?_ (fun x hx => (tg_n 10)) (by simp) ?_ ?_)
    · refine ⟨rfl, rfl, List.length_replicate, fun g hg => ?_⟩
      rw [List.eq_of_mem_replicate hg]
      exact ⟨Nat.zero_le _, .nil⟩
    · intro W' e1 e2 e3 t s poly hpoly ⟨s1, s2, s3, s4⟩
      have ht : t < _law_powers.length := (List.getElem?_eq_some_iff.mp hpoly).1
      have hpp := hpo poly (List.mem_of_getElem? hpoly)
      obtain ⟨found, t'⟩ := s
      dsimp only at s1 s2 s3 s4
      subst s2
      obtain ⟨r1, r2⟩ := rowAt_ok hp (t := t') (k := _law_powers.length - 1 - t') (small _ (by omega))
      have r3 : Po p 2000 (rowAt p begin steps firsts.length t' (_law_powers.length - 1 - t')) := r2.mono (by
        have : (_law_powers.length - 1 - t') * 160 ≤ 6 * 160 := Nat.mul_le_mul_right _ (by omega)
        omega)
      have en : (enumL _law_powers)[t']? = some (t', poly) := by
        unfold enumL
        rw [List.getElem?_zip_eq_some]
        exact ⟨List.getElem?_range ht, hpoly⟩
      refine ⟨⟨?_, rfl, by rw [plusRow_len (by rw [r1, s3])]; exact s3, plusRow_po h0 (A := 18000) (B := 2000) s4 hpp.1 r3⟩, ?_⟩
      · show plusRow p poly found _ = _
        rw [foldl_take_succ _ _ _ en, ← s1]
      refine (s_asg (x := ones begin) (fun e => (en_lc1 e (ei_t (lk e 3 rfl)) ?_ (fun x => [(13, eR rI x)]) (fun x hx => (tg_n 13)) (by simp) (fun x hx σ2 G2 H2 e2 => (ev__law_trimmedL (ea_c (ev_rr (ev_lst (el_c (lk e2 13 rfl) el_n) (by simp))) ea_n) ?_))).ev) ?_)
      · omega
      · show 1 ≤ 100000; omega
      refine (s_asg (fun e => (lk e 9 rfl)) ?_)
      refine (s_while (ι := Nat) (fun k => ⟨[eR (rQd rI (rT rI) (rT (rT (rT rI))) (rT rI)) (p, begin, steps, firsts), eR (rT (rT rI)) _law_powers, eR rI p, eR (rT rI) begin, eR (rT (rT (rT rI))) steps, eR (rT rI) firsts, eR (rL (rT rI)) found, eR rN (p.toNat ^ (_law_powers.length - 1)), eAny, eR rN (p.toNat ^ t'), eR (rT rI) poly, eR (rL (rT rI)) (rowAt p begin steps firsts.length t' k), eR rN (p.toNat ^ (t' + k)), eAny, eAny, eAny, eAny, eAny, eAny, eAny, eAny, eAny], []⟩) (fun k => k ≤ _law_powers.length - 1 - t') (fun k => _law_powers.length - 1 - t' - k) (fun k => decide (p.toNat ^ (t' + k) < p.toNat ^ (_law_powers.length - 1))) 0 ⟨by repeat' (first | exact SubE.nil | apply SubE.any | apply SubE.same), List.Sublist.refl _⟩ (Nat.zero_le _) (fun k hk {σ G H} e => (et_t (ev_ltN (lk e 12 rfl) (lk e 7 rfl)))) ?_ ?_)
      · intro W2 e1 e2 e3 k hk hb
        have hb : t' + k < _law_powers.length - 1 := by
          have := of_decide_eq_true hb
          exact (Nat.pow_lt_pow_iff_right (by omega)).mp this
        have hs := small (t' + k) (by omega)
        obtain ⟨k1, k2⟩ := rowAt_ok hp (t := t') (k := k) hs
        have k3 : Po p 2000 (rowAt p begin steps firsts.length t' k) := k2.mono (by
          have : k * 160 ≤ 6 * 160 := Nat.mul_le_mul_right _ (by omega)
          omega)
        refine (s_asg (x := wideOf steps firsts.length (p.toNat ^ (t' + k))) (fun e => EvR.is (en_lc1 e (ei_r1 (ev_nI (ev_lenN (lk e 3 rfl))) ?_ ?_) ?_ (fun x => [(16, eR rN x)]) (fun x hx => (tg_n 16)) (by simp) (fun x hx σ2 G2 H2 e2 => (en_lc1 e2 (ei_r1 (ev_nI (ev_lenN (lk e2 3 rfl))) ?_ ?_) ?_ (fun x => [(19, eR rN x)]) (fun x hx => (tg_n 19)) (by simp) (fun x hx σ2 G2 H2 e2 => (ev__law_spread (ea_c (lk e2 2 rfl) (ea_c (ev__law_trimmedL (ea_c (ev_rr (en_lc1 e2 (ei_t (lk e2 4 rfl)) ?_ (fun x => [(21, eR (rT (rT rI)) x)]) (fun x hx => (tg_n 21)) (by simp) (fun x hx σ2 G2 H2 e2 => (ev_gTn (d := 0) (ev_gTn (d := []) (lk e2 21 rfl) (lk e2 16 rfl) ?_) (lk e2 19 rfl) ?_))).ev) ea_n) ?_) (ea_c (lk e2 12 rfl) ea_n))) ?_))).ev)).ev (by rw [Int.toNat_natCast, nb]; rfl)) ?_)
        · omega
        · omega
        · rw [List.length_range]; omega
        · omega
        · omega
        · rw [List.length_range]; omega
        · have := hp.np; omega
        · rename_i i hi _ _ _ _ j hj _ _ _ _
          rw [List.mem_range] at hi hj
          have := hp.st x hx
          show i < x.length
          omega
        · rename_i i hi _ _ _ _ j hj _ _ _ _
          rw [List.mem_range] at hi hj
          have q1 := hp.st x hx
          have q2 := (hp.rw x hx (x.getD i []) (getD_mem (by omega))).1
          show j < (x.getD i []).length
          omega
        · rw [List.length_map]
          have := hp.np
          omega
        · rename_i i hi _ _ _ _
          have q1 := lineOf_len hp i x
          have q2 : p.toNat ^ (t' + k) * (lineOf steps i x).length ≤ 32 * 5 := Nat.mul_le_mul hs (by omega)
          refine ⟨Nat.le_trans q2 (by decide), by omega, Nat.pow_pos (by omega)⟩
        refine (s_asg (x := List.replicate firsts.length []) (fun e => EvR.is (en_lc1 e (ei_t (lk e 3 rfl)) ?_ (fun x => [(13, eR rI x)]) (fun x hx => (tg_n 13)) (by simp) (fun x hx σ2 G2 H2 e2 => (ev_nilT (r := rI)))).ev (by rw [map_nils, nb])) ?_)
        · omega
        refine (s_fold (fun e => (ei_el (lk e 11 rfl))) (fun _ acc => acc.length = firsts.length ∧ Po p 2160 acc) (fun acc => ⟨[eR (rQd rI (rT rI) (rT (rT (rT rI))) (rT rI)) (p, begin, steps, firsts), eR (rT (rT rI)) _law_powers, eR rI p, eR (rT rI) begin, eR (rT (rT (rT rI))) steps, eR (rT rI) firsts, eR (rL (rT rI)) found, eR rN (p.toNat ^ (_law_powers.length - 1)), eAny, eR rN (p.toNat ^ t'), eR (rT rI) poly, eAny, eR rN (p.toNat ^ (t' + k)), eAny, eR (rL (rL (rT rI))) (wideOf steps firsts.length (p.toNat ^ (t' + k))), eR (rL (rT rI)) acc, eAny, eAny, eAny, eAny, eAny, eAny], []⟩) (fun after q => plusRow p q.2 after ((wideOf steps firsts.length (p.toNat ^ (t' + k))).getD q.1 [])) _ (fun x => [(16, eR rN x.1), (17, eR (rT rI) x.2)]) ⟨by repeat' (first | exact SubE.nil | apply SubE.any | apply SubE.same), List.Sublist.refl _⟩ ?_ (fun x hx => (tg_u (tga_c (tga_c tga_n)) (by rfl))) (by simp) ?_ ?_)
        · refine ⟨List.length_replicate, fun g hg => ?_⟩
          rw [List.eq_of_mem_replicate hg]
          exact ⟨Nat.zero_le _, .nil⟩
        · intro W3 e1 e2 e3 m acc w hw ⟨a1, a2⟩
          obtain ⟨w1, w2, w3⟩ := enumL_mem (List.mem_of_getElem? hw)
          obtain ⟨y1, y2⟩ := wideOf_po hp hs (show w.1 < firsts.length by omega)
          have w4 := (k3 _ w3).1
          refine ⟨⟨by rw [plusRow_len (by rw [y1, a1])]; exact a1, plusRow_po h0 (A := 2000) (B := 160) a2 w4 y2⟩, ?_⟩
          refine nx_asg (x := plusRow p w.2 acc ((wideOf steps firsts.length (p.toNat ^ (t' + k))).getD w.1 [])) (fun e => (en_lc1 e (ei_z (lk e 15 rfl) (ev_gLn (d := []) (lk e 14 rfl) (lk e 16 rfl) ?_)) ?_ (fun x => [(18, eR (rT rI) x.1), (20, eR (rT rI) x.2)]) (fun x hx => (tg_u (tga_c (tga_c tga_n)) (by rfl))) (by simp) (fun x hx σ2 G2 H2 e2 => (ev__law_plus (ea_c (lk e2 2 rfl) (ea_c (lk e2 18 rfl) (ea_c (ev__law_times (ea_c (lk e2 2 rfl) (ea_c (lk e2 17 rfl) (ea_c (lk e2 20 rfl) ea_n))) ?_) ea_n))) ?_))).ev) (nx_end ⟨by repeat' (first | exact SubE.nil | apply SubE.any | apply SubE.same), List.Sublist.refl _⟩)
          · rw [wideOf_len]; omega
          · rw [List.length_zip]; omega
          · obtain ⟨a, b⟩ := List.of_mem_zip hx
            have := (y2 _ b)
            exact ⟨hp.pm, by omega, by omega, this.2⟩
          · obtain ⟨a, b⟩ := List.of_mem_zip hx
            have q1 := (y2 _ b).1
            have q2 := (a2 _ a).1
            have q3 := mul_len p w.2 x.2
            exact ⟨hp.pm, by omega, by omega⟩
        · intro _
          refine (s_asg (x := rowAt p begin steps firsts.length t' (k + 1)) (fun e => EvR.is (lk e 15 rfl) (by rw [rowAt_succ]; rfl)) ?_)
          refine nx_asg (r := rN) (x := p.toNat ^ (t' + (k + 1))) (fun e => ev_nI' (ev_mul (ev_nI (lk e 12 rfl)) (lk e 2 rfl) ?_) (by rw [mulN]; rfl)) (nx_endW (k + 1) ⟨by repeat' (first | exact SubE.nil | apply SubE.any | apply SubE.same), List.Sublist.refl _⟩ (by omega) (by omega))
          exact Or.inr ⟨by omega, by omega⟩
      · intro k hk hb
        have hb : k = _law_powers.length - 1 - t' := by
          have := of_decide_eq_false hb
          rcases Nat.lt_or_ge (t' + k) (_law_powers.length - 1) with h | h
          · exact absurd (Nat.pow_lt_pow_right (by omega) h) this
          · omega
        subst hb
        refine (s_asg (x := plusRow p poly found (rowAt p begin steps firsts.length t' (_law_powers.length - 1 - t'))) (fun e => (en_lc1 e (ei_z (lk e 6 rfl) (lk e 11 rfl)) ?_ (fun x => [(18, eR (rT rI) x.1), (17, eR (rT rI) x.2)]) (fun x hx => (tg_u (tga_c (tga_c tga_n)) (by rfl))) (by simp) (fun x hx σ2 G2 H2 e2 => (ev__law_plus (ea_c (lk e2 2 rfl) (ea_c (lk e2 18 rfl) (ea_c (ev__law_times (ea_c (lk e2 2 rfl) (ea_c (lk e2 10 rfl) (ea_c (lk e2 17 rfl) ea_n))) ?_) ea_n))) ?_))).ev) ?_)
        · rw [List.length_zip]; omega
        · obtain ⟨a, b⟩ := List.of_mem_zip hx
          have := (r3 _ b)
          exact ⟨hp.pm, by omega, by omega, this.2⟩
        · obtain ⟨a, b⟩ := List.of_mem_zip hx
          have q1 := (r3 _ b).1
          have q2 := (s4 _ a).1
          have q3 := mul_len p poly x.2
          exact ⟨hp.pm, by omega, by omega⟩
        refine nx_asg (r := rN) (x := p.toNat ^ (t' + 1)) (fun e => ev_nI' (ev_mul (ev_nI (lk e 9 rfl)) (lk e 2 rfl) ?_) (by rw [mulN])) (nx_end ⟨by repeat' (first | exact SubE.nil | apply SubE.any | apply SubE.same), List.Sublist.refl _⟩)
        exact Or.inr ⟨by omega, by omega⟩
    · intro ⟨s1, s2, s3, s4⟩
      refine nx_retP hS q (fun e => EvR.is (ev_pr (lk e 6 rfl) (ev_nI (lk e 7 rfl))) ?_)
      congr 1
      rw [s1, show (enumL _law_powers).take _law_powers.length = enumL _law_powers from List.take_of_length_le (by rw [enumL_length]; exact Nat.le_refl _)]
      rfl

end
end Dg
end
section
set_option Elab.async false
set_option linter.all false
set_option maxRecDepth 100000
set_option maxHeartbeats 4000000
/-! Elimination. -/
namespace Dg
open PySem PySem.Spec PyProof.Rows L2

structure BdA where
  p : Int
  a : Addr
  rows : Rows
  place : Nat
  n : Nat
  w : Nat
  C : Nat
  E : Nat
structure BdPre (i : BdA) : Prop where
  pm : Pm i.p
  rw : Rw i.p i.n i.w i.rows
  hw : i.place < i.w
  ln : Ln i.n i.w i.place i.C i.E i.rows
  hC : i.C ≤ 4000
  hE : i.E ≤ 4000
  hn : i.n ≤ 100
  hww : i.w ≤ 100
abbrev sp_brought_down : Sp := spW (ι := BdA) (fun i => aC rI i.p (aC rA i.a (aC rN i.place aN)))
  (fun i G H => (∃ vs, H i.a = some (.lst vs) ∧ G i.a = none ∧ Al (rL (rT rI) G H) vs i.rows) ∧ BdPre i) (fun i => [i.a])
  (fun i H G' H' v => ∃ b vs rows', v = .ref b ∧ H b = none ∧ H' b = some (.lst vs) ∧ G' b = none ∧ Al (rL (rT rI) G' H') vs (lefts i.place rows') ∧ Red i.p i.rows rows' ∧ Rw i.p i.n i.w rows' ∧ (someL i.place rows').length ≤ 1 ∧
    ∀ k j, k < i.n → j < i.w → j ≠ i.place → (at2 rows' k j).length ≤ i.C)
section
variable {P : Program} {w : World} {K : PySem.W.Frag} {mg : Str → Option Value} {base : Heap}


theorem some_is {place : Nat} {rows : Rows} : ((List.range rows.length).filter fun x => !((rows.getD x []).getD place []).isEmpty).map (fun x => x) = someL place rows := by
  rw [List.map_id']
  rfl
theorem sc_brought_down : FnScope ["p", "rows", "place", "some", "least", "k", "often"] ["p", "rows", "place"] (defScope (top 28)) := ⟨rfl, rfl, rfl, by decide +kernel, rfl, by decide +kernel, by decide +kernel⟩
theorem b_brought_down (h : Hd K mg) : Binds K h.fd_brought_down ["p", "rows", "place"] [] := h.F_brought_down.bindsN fun _ _ _ _ _ _ us hl => match us, hl with | [_, _, _], _ => rfl
theorem ok_brought_down (h : Hd K mg) : FnOk P w K mg base CX0 4 h.f_brought_down h.fd_brought_down ["p", "rows", "place"] sp_brought_down := by
  have nd := sc_brought_down.nd
  refine h.F_brought_down.ok sc_brought_down (fun vs H Q E h => ?_) (fun cdv A outer s H vs Q E hr hsp => ⟨_, PSs.nox
    (pss_cons (ps_set (i := 3) nd rfl (by first | exact .inl rfl | exact .inr rfl) (pe_lc rfl nd (pi_range1 rfl h.b_range (pa_cons (pe_callB (k_len (K := K) rfl) rfl h.b_len (by decide +kernel) (pa_cons (pv 1) pa_nil)) pa_nil)) (blkOk_by (own := [("k", 5)]) (by kernel_rfl)) (fun _ _ _ _ _ => (by exact (pg_name (i := 5) nd rfl (by first | exact .inl rfl | exact .inr rfl)))) (fun _ _ _ _ _ => pts_one (pt_cmpR (k_neD (K := K) rfl (hu64 hr)) (pe_ix (k_ixL (K := K) rfl) (pe_ix (k_ixL (K := K) rfl) (pv 1) (pv 5) (fun _ _ => rfl)) (pv 2) (fun _ _ => rfl)) (pe_tup pa_nil) (nomark _))) (fun _ _ _ _ _ => (pv 5))))
    (pss_cons (ps_while PassesOwn.never (pt_cmpR op_gt (pe_callB (k_len (K := K) rfl) rfl h.b_len (by decide +kernel) (pa_cons (pv 3) pa_nil)) pe_int (nomark _)) (pss_cons (ps_set (i := 4) nd rfl (by first | exact .inl rfl | exact .inr rfl) (pe_ix (k_ixT (K := K) rfl) (pe_callB (k_minP (K := K) rfl rfl (hu64 hr)) rfl h.b_min (by decide +kernel) (pa_cons (pe_lc rfl nd (k_piL (K := K) rfl (pv 3)) (blkOk_by (own := [("k", 5)]) (by kernel_rfl)) (fun _ _ _ _ _ => (by exact (pg_name (i := 5) nd rfl (by first | exact .inl rfl | exact .inr rfl)))) (fun _ _ _ _ _ => pts_nil) (fun _ _ _ _ _ => (pe_tup (pa_cons (pe_callB (k_len (K := K) rfl) rfl h.b_len (by decide +kernel) (pa_cons (pe_ix (k_ixL (K := K) rfl) (pe_ix (k_ixL (K := K) rfl) (pv 1) (pv 5) (fun _ _ => rfl)) (pv 2) (fun _ _ => rfl)) pa_nil)) (pa_cons (pv 5) pa_nil))))) pa_nil)) pe_int (fun _ _ => rfl)))
    (pss_cons (ps_for PassesOwn.never rfl (k_piL (K := K) rfl (pv 3)) (pg_name (i := 5) nd rfl (by first | exact .inl rfl | exact .inr rfl)) (pss_one (ps_if (pt_cmpR op_ne (pv 5) (pv 4) (nomark _)) (pss_cons (ps_set (i := 6) nd rfl (by first | exact .inl rfl | exact .inr rfl) (pe_call (ok_how_often h) (hr.mono (by decide)) rfl h.g_how_often h.F_how_often.kp (b_how_often h) .nil pass0 (pa_cons (pv 0) (pa_cons (pe_ix (k_ixL (K := K) rfl) (pe_ix (k_ixL (K := K) rfl) (pv 1) (pv 5) (fun _ _ => rfl)) (pv 2) (fun _ _ => rfl)) (pa_cons (pe_ix (k_ixL (K := K) rfl) (pe_ix (k_ixL (K := K) rfl) (pv 1) (pv 4) (fun _ _ => rfl)) (pv 2) (fun _ _ => rfl)) pa_nil)))))
    (pss_one (ps_asg (pe_call (ok_less_often h) (hr.mono (by decide)) rfl h.g_less_often h.F_less_often.kp (b_less_often h) .nil pass0 (pa_cons (pv 0) (pa_cons (pe_ix (k_ixL (K := K) rfl) (pv 1) (pv 5) (fun _ _ => rfl)) (pa_cons (pv 6) (pa_cons (pe_ix (k_ixL (K := K) rfl) (pv 1) (pv 4) (fun _ _ => rfl)) pa_nil))))) (pg_sub (pv 1) (pv 5) set_list)))) pss_nil)))
    (pss_one (ps_set (i := 3) nd rfl (by first | exact .inl rfl | exact .inr rfl) (pe_lc rfl nd (pi_range1 rfl h.b_range (pa_cons (pe_callB (k_len (K := K) rfl) rfl h.b_len (by decide +kernel) (pa_cons (pv 1) pa_nil)) pa_nil)) (blkOk_by (own := [("k", 5)]) (by kernel_rfl)) (fun _ _ _ _ _ => (by exact (pg_name (i := 5) nd rfl (by first | exact .inl rfl | exact .inr rfl)))) (fun _ _ _ _ _ => pts_one (pt_cmpR (k_neD (K := K) rfl (hu64 hr)) (pe_ix (k_ixL (K := K) rfl) (pe_ix (k_ixL (K := K) rfl) (pv 1) (pv 5) (fun _ _ => rfl)) (pv 2) (fun _ _ => rfl)) (pe_tup pa_nil) (nomark _))) (fun _ _ _ _ _ => (pv 5))))))))
    (pss_one (ps_ret (pe_lc rfl nd (pi_range1 rfl h.b_range (pa_cons (pe_callB (k_len (K := K) rfl) rfl h.b_len (by decide +kernel) (pa_cons (pv 1) pa_nil)) pa_nil)) (blkOk_by (own := [("k", 5)]) (by kernel_rfl)) (fun _ _ _ _ _ => (by exact (pg_name (i := 5) nd rfl (by first | exact .inl rfl | exact .inr rfl)))) (fun _ _ _ _ _ => pts_one (pt_cmpR (k_notIn (K := K) rfl) (pv 5) (pv 3) rfl)) (fun _ _ _ _ _ => (pe_ix (k_ixL (K := K) rfl) (pv 1) (pv 5) (fun _ _ => rfl)))))))), ?_⟩)
  · obtain ⟨i, G, _, ⟨_, _, rfl, _, _, _, rfl, _, _, _, rfl, _, rfl⟩, _⟩ := h
    rfl
  obtain ⟨i, G, d, ⟨_, _, rfl, h0, _, _, rfl, h1, _, _, rfl, h2, rfl⟩, ⟨⟨us, ha, hg, ta⟩, hp⟩, q⟩ := hsp
  refine (?_ : Nx ⟨[i.a], G, H, G⟩ _ ⟨[eR rI i.p, eR rA i.a, eR rN i.place, eAny, eAny, eAny, eAny], [oL i.a (rL (rT rI)) i.rows .par]⟩) _ G H (en_startW d ⟨⟨_, rfl, Go.go h0⟩, ⟨_, rfl, h1⟩, ⟨_, rfl, Go.go h2⟩, trivial, trivial, trivial, trivial, trivial⟩ rfl ha hg ta)
  have p0 := hp.pm.pos
  have hw := hp.hw
  have inn : ∀ {rows : Rows}, Rw i.p i.n i.w rows → ∀ {k : Nat}, k < rows.length → i.place < (rows.getD k []).length := fun hr k hk => by rw [hr.w _ (getD_mem hk)]; exact hw
  refine s_asg (x := someL i.place i.rows) (fun e => EvR.is (en_lc e (ei_r1 (ev_nI (ev_lenN (lkO e 1 0 rfl rfl))) ?_ ?_) ?_ (fun x => [(5, eR rN x)]) (fun x hx => (tg_n 5)) (by simp) (fun x hx σ2 G2 H2 e2 => (et_t (ev_neU (ev_gLn (d := []) (ev_gLn (d := []) (lkO e2 1 0 rfl rfl) (lk e2 5 rfl) ?_) (lk e2 2 rfl) ?_)))) (fun x hx hk σ2 G2 H2 e2 => (lk e2 5 rfl))).ev (by rw [Int.toNat_natCast, some_is])) ?_
  · have := hp.hn; have := hp.rw.n; omega
  · have := hp.hn; have := hp.rw.n; omega
  · have := hp.hn; have := hp.rw.n; rw [List.length_range]; omega
  · rw [List.mem_range] at hx; omega
  · rw [List.mem_range] at hx; exact inn hp.rw (by omega)
  refine s_whileE (δ := Rows) (fun rows => ⟨[eR rI i.p, eR rA i.a, eR rN i.place, eR (rL rN) (someL i.place rows), eAny, eAny, eAny], [oL i.a (rL (rT rI)) rows .par]⟩) (fun rows => Red i.p i.rows rows ∧ Rw i.p i.n i.w rows ∧ ∃ E, E ≤ 4000 ∧ Ln i.n i.w i.place i.C E rows) (sumAt i.place) (fun rows => decide (1 < (someL i.place rows).length)) i.rows ⟨by repeat' (first | exact SubE.nil | apply SubE.any | apply SubE.same), List.Sublist.refl _⟩ ⟨.refl _, hp.rw, i.E, hp.hE, hp.ln⟩ (fun rows hi {σ G H} e => (et_t (ev_gtN (ev_lenN (lk e 3 rfl)) (ev_litN 1)))) ?_ ?_
  · intro W' e1 e2 e3 r0 ⟨red, rw0, EE, hEE, ln0⟩ hb
    have hb : 1 < (someL i.place r0).length := of_decide_eq_true hb
    obtain ⟨k0, ks, hs⟩ : ∃ k0 ks, someL i.place r0 = k0 :: ks := by
      cases h : someL i.place r0 with
      | nil => rw [h] at hb; simp at hb
      | cons a b => exact ⟨a, b, rfl⟩
    have mem := minP_mem (ks.map fun k => (((at2 r0 k i.place).length : Int), (k : Int))) (((at2 r0 k0 i.place).length : Int), (k0 : Int))
    have mle := minP_le (ks.map fun k => (((at2 r0 k i.place).length : Int), (k : Int))) (((at2 r0 k0 i.place).length : Int), (k0 : Int))
    rw [← List.map_cons (f := fun k => (((at2 r0 k i.place).length : Int), (k : Int))), ← hs] at mem mle
    obtain ⟨l, hl, el⟩ := List.mem_map.mp mem
    have hmin : ∀ k ∈ someL i.place r0, (at2 r0 l i.place).length ≤ (at2 r0 k i.place).length := fun k hk => by
      have := mle _ (List.mem_map.mpr ⟨k, hk, rfl⟩)
      rw [← el] at this
      exact Int.ofNat_le.mp this
    have e2l : (minP (((at2 r0 k0 i.place).length : Int), (k0 : Int)) (ks.map fun k => (((at2 r0 k i.place).length : Int), (k : Int)))).2 = (l : Int) := by rw [← el]
    have hln : l < r0.length := (someL_mem.mp hl).1
    have lne := (someL_mem.mp hl).2
    rw [hs]
    refine s_asg (r := rN) (x := l) (fun e => ev_nI' (EvR.is (ev_minP1 (en_lc1 e (ei_l (lk e 3 rfl)) ?_ (fun x => [(5, eR rN x)]) (fun x hx => (tg_n 5)) (by simp) (fun x hx σ2 G2 H2 e2 => (ev_pr (ev_nI (ev_lenN (ev_gLn (d := []) (ev_gLn (d := []) (lkO e2 1 0 rfl rfl) (lk e2 5 rfl) ?_) (lk e2 2 rfl) ?_))) (ev_nI (lk e2 5 rfl))))).ev) (by rfl)) e2l) ?_
    · have := hp.hn; have := rw0.n
      have := (List.filter_sublist (p := fun k => !(at2 r0 k i.place).isEmpty) (l := List.range r0.length)).length_le
      rw [List.length_range] at this
      have hs' : ((List.range r0.length).filter fun k => !(at2 r0 k i.place).isEmpty) = k0 :: ks := hs
      rw [hs'] at this
      omega
    · rw [← hs] at hx; exact (someL_mem.mp hx).1
    · rw [← hs] at hx; exact inn rw0 (someL_mem.mp hx).1
    rw [← hs]
    refine s_fold (fun e => (ei_l (lk e 3 rfl))) (fun j rows => Turn1 i.p i.n i.w i.place i.C EE l (someL i.place r0) r0 rows j) (fun rows => ⟨[eR rI i.p, eR rA i.a, eR rN i.place, eR (rL rN) (someL i.place r0), eR rN l, eAny, eAny], [oL i.a (rL (rT rI)) rows .par]⟩) (stp i.p i.place l) r0 (fun x => [(5, eR rN x)]) ⟨by repeat' (first | exact SubE.nil | apply SubE.any | apply SubE.same), List.Sublist.refl _⟩ ⟨rw0, .refl _, fun k hk => by simp at hk, fun k _ => rfl⟩ (fun x hx => (tg_n 5)) (by simp) ?_ ?_
    · intro W2 f1 f2 f3 j rows k hk ht
      refine ⟨turn_step hp.pm hw rw0 ln0 hl hmin ht hk, ?_⟩
      have kr : k < rows.length := by
        have := (someL_mem.mp (List.mem_of_getElem? hk)).1
        rw [ht.rw.n, ← rw0.n]
        exact this
      have lr : l < rows.length := by rw [ht.rw.n, ← rw0.n]; exact hln
      have kne := (someL_mem.mp (List.mem_of_getElem? hk)).2
      refine nx_if (fun e => (et_t (ev_neN (lk e 5 rfl) (lk e 4 rfl)))) (fun hb => ?_) (fun hb => ?_)
      · have hb : k ≠ l := by
          intro z
          rw [z] at hb
          simp at hb
        have nk : k ∉ (someL i.place r0).take j := fun hm => by
          have nd := someL_nodup i.place r0
          rw [← List.take_append_drop j (someL i.place r0)] at nd
          have dr : k ∈ (someL i.place r0).drop j := by
            have e : ((someL i.place r0).drop j)[0]? = some k := by rw [List.getElem?_drop]; exact hk
            exact List.mem_of_getElem? e
          exact (List.nodup_append.mp nd).2.2 k hm k dr rfl
        have ek : rows.getD k [] = r0.getD k [] := ht.old k fun z => nk z.1
        have ell : rows.getD l [] = r0.getD l [] := ht.old l fun z => z.2 rfl
        have ak : at2 rows k i.place = at2 r0 k i.place := by unfold at2; rw [ek]
        have al : at2 rows l i.place = at2 r0 l i.place := by unfold at2; rw [ell]
        have kr0 : k < i.n := by rw [← ht.rw.n]; exact kr
        have lr0 : l < i.n := by rw [← ht.rw.n]; exact lr
        have tK := rw0.at kr0 hw
        have tL := rw0.at lr0 hw
        have b1 := ln0.1 k kr0
        have b2 := ln0.1 l lr0
        have mn := hmin k (List.mem_of_getElem? hk)
        obtain ⟨q1, q2, q3⟩ := how_ok' hp.pm tK.1 tL lne (by omega)
        have po : ∀ m, m < i.n → Po i.p 10000 (r0.getD m []) := fun m hm poly hpoly => by
          refine ⟨?_, (rw0.tp _ (rw0.row hm) poly hpoly).1⟩
          obtain ⟨j, hj, rfl⟩ := List.mem_iff_getElem.mp hpoly
          have wj : j < i.w := by rw [← rw0.w _ (rw0.row hm)]; exact hj
          have ea : (r0.getD m [])[j] = at2 r0 m j := by
            unfold at2
            rw [List.getD_eq_getElem?_getD (i := j), List.getElem?_eq_getElem hj]
            rfl
          rw [ea]
          by_cases ej : j = i.place
          · have := ln0.1 m hm
            rw [ej]
            omega
          · have := ln0.2 m j hm wj ej
            have := hp.hC
            omega
        refine s_asg (x := howOften i.p (at2 rows k i.place) (at2 rows l i.place)) (fun e => EvR.is (ev_how_often (ea_c (lk e 0 rfl) (ea_c (ev_gLn (d := []) (ev_gLn (d := []) (lkO e 1 0 rfl rfl) (lk e 5 rfl) ?_) (lk e 2 rfl) ?_) (ea_c (ev_gLn (d := []) (ev_gLn (d := []) (lkO e 1 0 rfl rfl) (lk e 4 rfl) ?_) (lk e 2 rfl) ?_) ea_n))) ?_) (by unfold at2; rfl)) ?_
        · exact kr
        · exact inn ht.rw kr
        · exact lr
        · exact inn ht.rw lr
        · show Pm i.p ∧ (at2 rows k i.place).length ≤ 20000 ∧ (at2 rows l i.place).length ≤ 20000 ∧ Nm i.p (at2 rows l i.place) ∧ at2 rows l i.place ≠ [] ∧ (at2 rows l i.place).getD ((at2 rows l i.place).length - 1) 0 ≠ 0
          rw [ak, al]
          exact ⟨hp.pm, by omega, by omega, tL.1, lne, tL.2 lne⟩
        have es : stp i.p i.place l rows k = rows.set k (lessOften i.p (rows.getD k []) (howOften i.p (at2 rows k i.place) (at2 rows l i.place)) (rows.getD l [])) := by
          unfold stp
          rw [if_pos hb]
        rw [es]
        refine nx_put 0 k (fun e => (ev_less_often (ea_c (lk e 0 rfl) (ea_c (ev_gLn (d := []) (lkO e 1 0 rfl rfl) (lk e 5 rfl) ?_) (ea_c (lk e 6 rfl) (ea_c (ev_gLn (d := []) (lkO e 1 0 rfl rfl) (lk e 4 rfl) ?_) ea_n)))) ?_)) (fun e => lk e 1 rfl) (fun e => (ev_nI (lk e 5 rfl))) rfl rfl kr (fun z => nomatch z) (nx_end ⟨by repeat' (first | exact SubE.nil | apply SubE.any | apply SubE.same), List.Sublist.refl _⟩)
        · exact kr
        · exact lr
        · rw [ek, ell, ak, al]
          refine ⟨hp.pm, by rw [rw0.w _ (rw0.row kr0)]; exact hp.hww, po k kr0, by omega, po l lr0⟩
      · have hb : k = l := by
          by_cases z : k = l
          · exact z
          · simp [z] at hb
        have es : stp i.p i.place l rows k = rows := by unfold stp; rw [if_neg (fun z => z hb)]
        rw [es]
        exact nx_next (nx_end ⟨by repeat' (first | exact SubE.nil | apply SubE.any | apply SubE.same), List.Sublist.refl _⟩)
    · intro ht
      generalize (someL i.place r0).foldl (stp i.p i.place l) r0 = rows at ht ⊢
      obtain ⟨d1, d2⟩ := ht.done hp.pm hw rw0 ln0 hl hmin hb
      have b2 := ln0.1 l (by rw [← rw0.n]; exact hln)
      refine nx_asg (x := someL i.place rows) (fun e => EvR.is (en_lc e (ei_r1 (ev_nI (ev_lenN (lkO e 1 0 rfl rfl))) ?_ ?_) ?_ (fun x => [(5, eR rN x)]) (fun x hx => (tg_n 5)) (by simp) (fun x hx σ2 G2 H2 e2 => (et_t (ev_neU (ev_gLn (d := []) (ev_gLn (d := []) (lkO e2 1 0 rfl rfl) (lk e2 5 rfl) ?_) (lk e2 2 rfl) ?_)))) (fun x hx hk σ2 G2 H2 e2 => (lk e2 5 rfl))).ev (by rw [Int.toNat_natCast, some_is])) (nx_endW rows ⟨by repeat' (first | exact SubE.nil | apply SubE.any | apply SubE.same), List.Sublist.refl _⟩ ⟨red_trans red ht.red, ht.rw, _, Nat.le_trans b2 hEE, d1⟩ d2)
      · have := hp.hn; have := ht.rw.n; omega
      · have := hp.hn; have := ht.rw.n; omega
      · have := hp.hn; have := ht.rw.n; rw [List.length_range]; omega
      · rw [List.mem_range] at hx; omega
      · rw [List.mem_range] at hx; exact inn ht.rw (by omega)
  · intro rows ⟨red, rw1, EE, hEE, ln1⟩ hb
    have hb : (someL i.place rows).length ≤ 1 := by
      have := of_decide_eq_false hb
      omega
    refine nx_retN (xs := lefts i.place rows) (fun e => EvN.is (en_lc e (ei_r1 (ev_nI (ev_lenN (lkO e 1 0 rfl rfl))) ?_ ?_) ?_ (fun x => [(5, eR rN x)]) (fun x hx => (tg_n 5)) (by simp) (fun x hx σ2 G2 H2 e2 => (et_t (ev_notIn (ev_nI (lk e2 5 rfl)) (ev_LN (lk e2 3 rfl))))) (fun x hx hk σ2 G2 H2 e2 => (ev_gLn (d := []) (lkO e2 1 0 rfl rfl) (lk e2 5 rfl) ?_))) ?_) (fun σ a vs G' H' e hn h1 h2 t => ?_)
    · have := hp.hn; have := rw1.n; omega
    · have := hp.hn; have := rw1.n; omega
    · have := hp.hn; have := rw1.n; rw [List.length_range]; omega
    · rw [List.mem_range] at hx; omega
    · unfold lefts
      rw [Int.toNat_natCast]
      congr 1
      apply List.filter_congr
      intro x hx
      congr 1
      simp only [List.mem_map, decide_eq_decide]
      exact ⟨fun ⟨a, ha, e⟩ => by rw [← Int.ofNat_inj.mp e]; exact ha, fun h => ⟨x, h, rfl⟩⟩
    · exact q _ G' H' e.fz ⟨a, vs, rows, rfl, hn, h1, h2, t, red, rw1, hb, fun k j hk hj hne => by have := ln1.2 k j hk hj hne; omega⟩

abbrev sp_relation_of : Sp := spW (ι := Int × Rows × Nat) (fun t => aC rI t.1 (aC (rL (rL (rT rI))) t.2.1 aN))
  (fun t _ _ => Pm t.1 ∧ t.2.2 ≤ 5 ∧ Rw t.1 (t.2.2 + 1) t.2.2 t.2.1 ∧ Al2 64 t.2.1) (fun _ => [])
  (fun t _ G' H' v => ∃ fin, rL (rT rI) G' H' v ((fin.getD 0 []).drop t.2.2) ∧ Elim t.1 t.2.2 (startRows t.2.1) fin ∧ 0 < fin.length ∧ Rw t.1 fin.length (t.2.2 + (t.2.2 + 1)) fin ∧ Al2 2048 fin)

theorem sc_relation_of : FnScope ["p", "rows", "many", "left", "k", "row", "place", "j"] ["p", "rows"] (defScope (top 29)) := ⟨rfl, rfl, rfl, by decide +kernel, rfl, by decide +kernel, by decide +kernel⟩
theorem b_relation_of (h : Hd K mg) : Binds K h.fd_relation_of ["p", "rows"] [] := h.F_relation_of.bindsN fun _ _ _ _ _ _ us hl => match us, hl with | [_, _], _ => rfl
theorem pow2_le {k : Nat} (h : k ≤ 5) : 64 * 2 ^ k ≤ 2048 := by
  have : 2 ^ k ≤ 2 ^ 5 := Nat.pow_le_pow_right (by decide) h
  have e : (2 : Nat) ^ 5 = 32 := rfl
  omega
theorem ok_relation_of (h : Hd K mg) : FnOk P w K mg base CX0 5 h.f_relation_of h.fd_relation_of ["p", "rows"] sp_relation_of := by
  have nd := sc_relation_of.nd
  refine h.F_relation_of.ok sc_relation_of (fun vs H Q E h => ?_) (fun cdv A outer s H vs Q E hr hsp => ⟨_, PSs.nox
    (pss_cons (ps_set (i := 2) nd rfl (by first | exact .inl rfl | exact .inr rfl) (pe_callB (k_len (K := K) rfl) rfl h.b_len (by decide +kernel) (pa_cons (pe_ix (k_ixL (K := K) rfl) (pv 1) pe_int (fun _ _ => rfl)) pa_nil)))
    (pss_cons (ps_set (i := 3) nd rfl (by first | exact .inl rfl | exact .inr rfl) (pe_lst pa_nil))
    (pss_cons (ps_for PassesOwn.never rfl (k_piE (K := K) rfl rfl h.b_enumerate (pa_cons (pv 1) pa_nil)) (k_tup (K := K) (n := 2) rfl rfl (pgs_cons (pg_name (i := 4) nd rfl (by first | exact .inl rfl | exact .inr rfl)) (pgs_cons (pg_name (i := 5) nd rfl (by first | exact .inl rfl | exact .inr rfl)) pgs_nil))) (pss_one (ps_expr (pe_bm PySem.F.plainAttrs_list PySem.F.slot_list_append PySem.F.type_list_append mt_append (pv 3) (pa_cons (pe_op op_cat (pv 5) (pe_lc rfl nd (pi_range1 rfl h.b_range (pa_cons (pe_callB (k_len (K := K) rfl) rfl h.b_len (by decide +kernel) (pa_cons (pv 1) pa_nil)) pa_nil)) (blkOk_by (own := [("j", 7)]) (by kernel_rfl)) (fun _ _ _ _ _ => (by exact (pg_name (i := 7) nd rfl (by first | exact .inl rfl | exact .inr rfl)))) (fun _ _ _ _ _ => pts_nil) (fun _ _ _ _ _ => (pe_call (ok_trimmed h) (hr.mono (by decide)) rfl h.g_trimmed h.F_trimmed.kp (b_trimmed h) .nil pass0 (pa_cons (pe_lst (pa_cons (pe_callTy call_int1 rfl h.b_int (by decide +kernel) (pa_cons (pe_cmpR op_eq (pv 4) (pv 7) (nomark _)) pa_nil)) pa_nil)) pa_nil))))) pa_nil)))))
    (pss_cons (ps_for PassesOwn.never rfl (pi_range1 rfl h.b_range (pa_cons (pv 2) pa_nil)) (pg_name (i := 6) nd rfl (by first | exact .inl rfl | exact .inr rfl)) (pss_one (ps_set (i := 3) nd rfl (by first | exact .inl rfl | exact .inr rfl) (pe_call (ok_brought_down h) (hr.mono (by decide)) rfl h.g_brought_down h.F_brought_down.kp (b_brought_down h) .nil pass0 (pa_cons (pv 0) (pa_cons (pv 3) (pa_cons (pv 6) pa_nil)))))))
    (pss_one (ps_ret (pe_slice (k_slL (K := K) rfl) (pe_ix (k_ixL (K := K) rfl) (pv 3) pe_int (fun _ _ => rfl)) (po_some (pv 2)) po_none))))))), ?_⟩)
  · obtain ⟨i, G, _, ⟨_, _, rfl, _, _, _, rfl, _, rfl⟩, _⟩ := h
    rfl
  obtain ⟨⟨p, rows, many⟩, G, d, ⟨_, _, rfl, h0, _, _, rfl, h1, rfl⟩, ⟨hp, hm, rw0, al0⟩, q⟩ := hsp
  dsimp only at hp hm rw0 al0 q h0 h1
  refine (?_ : Nx ⟨[], G, H, G⟩ _ ⟨[eR rI p, eR (rL (rL (rT rI))) rows, eAny, eAny, eAny, eAny, eAny, eAny], []⟩) _ G H (en_start d ⟨⟨_, rfl, Go.go h0⟩, ⟨_, rfl, Go.go h1⟩, trivial, trivial, trivial, trivial, trivial, trivial, trivial⟩ rfl)
  have hn : rows.length = many + 1 := rw0.n
  have hw0 : (rows.getD 0 []).length = many := rw0.w _ (rw0.row (Nat.succ_pos _))
  refine s_asg (x := many) (fun e => EvR.is (ev_lenN (ev_gLn (d := []) (lk e 1 rfl) (ev_litN 0) ?_)) hw0) ?_
  · omega
  refine s_own (r := rL (rT rI)) (fun e => (en_lst el_n (by simp))) fun a => ?_
  refine s_fold (fun e => (ei_el (lk e 1 rfl))) (fun k acc => acc = ((enumL rows).take k).map fun q => q.2 ++ mark rows.length q.1) (fun acc => ⟨[eR rI p, eR (rL (rL (rT rI))) rows, eR rN many, eR rA a, eAny, eAny, eAny, eAny], [oL a (rL (rT rI)) acc]⟩) (fun acc q => acc ++ [q.2 ++ mark rows.length q.1]) [] (fun x => [(4, eR rN x.1), (5, eR (rL (rT rI)) x.2)]) ⟨by repeat' (first | exact SubE.nil | apply SubE.any | apply SubE.same), List.Sublist.refl _⟩ rfl (fun x hx => (tg_u (tga_c (tga_c tga_n)) (by rfl))) (by simp) ?_ ?_
  · intro W' e1 e2 e3 k acc x hx hacc
    obtain ⟨x1, x2, x3⟩ := enumL_mem (List.mem_of_getElem? hx)
    refine ⟨by rw [List.take_add_one, hx, List.map_append, hacc]; rfl, ?_⟩
    have la : acc.length ≤ rows.length := by
      rw [hacc, List.length_map, List.length_take, enumL_length]
      omega
    refine nx_app 0 (fun e => lk e 3 rfl) (fun e => EvR.is (ev_cat (lk e 5 rfl) (en_lc1 e (ei_r1 (ev_nI (ev_lenN (lk e 1 rfl))) ?_ ?_) ?_ (fun x => [(7, eR rN x)]) (fun x hx => (tg_n 7)) (by simp) (fun x hx σ2 G2 H2 e2 => (ev_trimmedL (ea_c (ev_rr (ev_lst (el_c (ev_intB (ev_eqN (lk e2 4 rfl) (lk e2 7 rfl))) el_n) (by simp))) ea_n) ?_))).ev ?_) ?_) rfl (by omega) (fun z => nomatch z) (nx_end ⟨by repeat' (first | exact SubE.nil | apply SubE.any | apply SubE.same), List.Sublist.refl _⟩)
    · omega
    · omega
    · rw [List.length_range]; omega
    · show 1 ≤ 100000; omega
    · rw [List.length_map, List.length_range, rw0.w _ x3]; omega
    · unfold mark
      rw [Int.toNat_natCast]
      congr 2
      funext j
      by_cases hj : x.1 = j <;> simp [hj]
  · intro hacc
    have e0 : (enumL rows).foldl (fun acc q => acc ++ [q.2 ++ mark rows.length q.1]) [] = startRows rows := by
      rw [hacc, List.take_length]
      rfl
    rw [e0]
    clear hacc e0
    refine s_forE (δ := Addr × Rows) (fun e => EvI.is (ei_r1 (ev_nI (lk e 2 rfl)) ?_ ?_) (by rw [Int.toNat_natCast])) (fun s => ⟨[eR rI p, eR (rL (rL (rT rI))) rows, eR rN many, eR rA s.1, eAny, eAny, eAny, eAny], [oL s.1 (rL (rT rI)) s.2]⟩) (fun k s => Elim p k (startRows rows) s.2 ∧ Rw p s.2.length (many + (many + 1)) s.2 ∧ Al2 (64 * 2 ^ k) s.2 ∧ many + 1 ≤ s.2.length + k ∧ s.2.length ≤ many + 1) (a, startRows rows) (fun x => [(6, eR rN x)]) ⟨by repeat' (first | exact SubE.nil | apply SubE.any | apply SubE.same), List.Sublist.refl _⟩ ?_ (fun x hx => (tg_n 6)) ?_ ?_
    · omega
    · omega
    · have r := startRows_rw hp rw0
      refine ⟨.zero _, by rw [r.n]; exact r, startRows_al al0 (by omega), by rw [r.n]; omega, by rw [r.n]; omega⟩
    · intro W2 f1 f2 f3 k s x hx ⟨el, rw1, al1, n1, n2⟩
      obtain ⟨b, rs⟩ := s
      dsimp only at el rw1 al1 n1 n2
      have hk : k < many := by
        have := (List.getElem?_eq_some_iff.mp hx).1
        rwa [List.length_range] at this
      have ex : x = k := by
        rw [List.getElem?_range hk] at hx
        exact (Option.some.inj hx).symm
      subst ex
      have p2 := pow2_le (k := x) (by omega)
      refine nx_callW (⟨p, b, rs, x, rs.length, many + (many + 1), 2 * (64 * 2 ^ x), 64 * 2 ^ x⟩ : BdA) (fun e => ea_c (lk e 0 rfl) (ea_c (lk e 3 rfl) (ea_c (lk e 6 rfl) ea_n))) (fun σ G H e => ?_) (fun σ v G H G' H' e f hq => ?_)
      · obtain ⟨h, h1, h2, vs, h3, h4⟩ := e.ow _ List.mem_cons_self
        rw [h3] at h1
        refine ⟨⟨vs, h1, h2 (fun z => nomatch z), h4.imp fun _ _ q => Go.go q⟩, hp, rw1, by show x < many + (many + 1); omega, ⟨fun k hk => al1.at rw1 hk (show x < many + (many + 1) by omega), fun k j hk hj _ => ?_⟩, by show 2 * (64 * 2 ^ x) ≤ 4000; have := pow2_le (k := x + 1) (by omega); rw [Nat.pow_succ] at this; omega, by show 64 * 2 ^ x ≤ 4000; omega, by show rs.length ≤ 100; omega, by show many + (many + 1) ≤ 100; omega⟩
        have := al1.at rw1 hk hj
        show (at2 rs k j).length + 64 * 2 ^ x ≤ 2 * (64 * 2 ^ x)
        omega
      · obtain ⟨b', vs, rows', rfl, hb, hb', hg', t, red, rw2, one, lens⟩ := hq
        have ln := lefts_len (place := x) one
        have r2n : rows'.length = rs.length := rw2.n
        refine ⟨(b', lefts x rows'), ⟨.succ el red, lefts_rw rw2, ?_, by show many + 1 ≤ (lefts x rows').length + (x + 1); omega, by show (lefts x rows').length ≤ many + 1; omega⟩, G', ?_⟩
        · have q := lefts_al (place := x) rw2 lens
          rw [show 64 * 2 ^ (x + 1) = 2 * (64 * 2 ^ x) by rw [Nat.pow_succ]; omega]
          exact q
        · obtain ⟨w1, w2⟩ := e.fresh hb
          have e2 := e.call (j := 0) rfl (fun z => nomatch z) f
          have e3 := e2.new (o := oL b' (rL (rT rI)) (lefts x rows')) rfl w1 hb' hg' ⟨vs, rfl, t.imp fun _ _ q => Go.go q⟩ (fun z => nomatch z)
          exact Le.en (Γ := ⟨[eR rI p, eR (rL (rL (rT rI))) rows, eR rN many, eR rA b', eAny, eAny, eR rN x, eAny], [oL b' (rL (rT rI)) (lefts x rows')]⟩) ⟨by repeat' (first | exact SubE.nil | apply SubE.any | apply SubE.same), List.Sublist.refl _⟩ (e3.slots (e3.sl.put 3 (eR rA b') ⟨_, rfl, rfl⟩))
    · intro s ⟨el, rw1, al1, n1, n2⟩
      rw [List.length_range] at el al1 n1
      obtain ⟨b, rs⟩ := s
      dsimp only at el rw1 al1 n1 n2
      have h0 : 0 < rs.length := by omega
      refine nx_keep 3 0 rfl rfl ?_
      refine nx_ret (r := rL (rT rI)) (x := (rs.getD 0 []).drop many) (fun e => ev_dropL _ (ev_gLn (d := []) (lk e 3 rfl) (ev_litN 0) h0) (ev_nI (lk e 2 rfl)) rfl) (fun σ v G H e hv => q v G H e.fz ⟨rs, hv, el, h0, rw1, fun row hrow poly hpoly => Nat.le_trans (al1 row hrow poly hpoly) (pow2_le hm)⟩)

end
end Dg
end
section
set_option Elab.async false
set_option linter.all false
set_option maxRecDepth 100000
set_option maxHeartbeats 4000000
/-! The bag; begun_by_some. -/
namespace Dg
open PySem PySem.Spec PyProof.Rows L2

structure Bg (ns : List Int) : Prop where
  n : ns.length = 4
  pos : 0 < ns.getD 2 0
  lt : ns.getD 2 0 < 4294967296
abbrev sp__law_bag (K : PySem.W.Frag) : Sp := spW (ι := List Int × Nat) (fun t => aC (rSc K) t.1 (aC rN t.2 aN)) (fun t _ _ => t.2 ≤ 1000) (fun _ => [])
  (fun t H G' H' v => ∃ b vs ns, v = .ref b ∧ H b = none ∧ H' b = some (.lst vs) ∧ G' b = none ∧ Al (rI G' H') vs ns ∧ Bg ns)
abbrev sp__law_take : Sp := spW (ι := Addr × List Int × Nat) (fun t => aC rA t.1 (aC rN t.2.2 aN)) (fun t G H => (∃ vs, H t.1 = some (.lst vs) ∧ G t.1 = none ∧ Al (rI G H) vs t.2.1) ∧ Bg t.2.1 ∧ 0 < t.2.2 ∧ t.2.2 < 1000) (fun t => [t.1])
  (fun t _ G' H' v => ∃ (d : Nat) (vs : List V) (ms : List Int), v = .int d ∧ d < t.2.2 ∧ H' t.1 = some (.lst vs) ∧ Al (rI G' H') vs ms ∧ Bg ms)
abbrev sp__law_numbers : Sp := spW (ι := Addr × List Int × Nat × Nat) (fun t => aC rA t.1 (aC rN t.2.2.1 (aC rN t.2.2.2 aN))) (fun t G H => (∃ vs, H t.1 = some (.lst vs) ∧ G t.1 = none ∧ Al (rI G H) vs t.2.1) ∧ Bg t.2.1 ∧ 0 < t.2.2.1 ∧ t.2.2.1 < 1000 ∧ t.2.2.2 < 1000) (fun t => [t.1])
  (fun t _ G' H' v => ∃ (xs : List Int) (vs : List V) (ms : List Int), rT rI G' H' v xs ∧ xs.length = t.2.2.2 ∧ Nm (t.2.2.1 : Int) xs ∧ H' t.1 = some (.lst vs) ∧ Al (rI G' H') vs ms ∧ Bg ms)
abbrev sp_begun_by_some : Sp := spW (ι := Int × List (List Int)) (fun t => aC rI t.1 (aC (rL (rT rI)) t.2 aN)) (fun t _ _ => Pm t.1 ∧ t.2.length ≤ 100 ∧ (∀ g ∈ t.2, Tp t.1 g ∧ g.length ≤ 10000) ∧ ∃ g ∈ t.2, g ≠ []) (fun _ => [])
  (fun t _ G' H' v => ∃ xs ys, rT (rT rI) G' H' v xs ∧ Beg t.1 t.2 ys ∧ xs ≠ [] ∧ xs.length ≤ t.2.length ∧ (∀ g ∈ xs, Tp t.1 g ∧ g.length ≤ 10000) ∧ xs = ys.take xs.length ∧ ∀ k, xs.length ≤ k → ys.getD k [] = [])
section
variable {P : Program} {w : World} {K : PySem.W.Frag} {mg : Str → Option Value} {base : Heap}

theorem max_ex : ∀ l : List Nat, (∃ x, x ∈ l) → ∃ m, m ∈ l ∧ ∀ k ∈ l, k ≤ m
  | [], ⟨x, h⟩ => nomatch h
  | [a], _ => ⟨a, List.mem_singleton.mpr rfl, fun k hk => by rw [List.mem_singleton.mp hk]; exact Nat.le_refl _⟩
  | a :: b :: l, _ => by
    obtain ⟨m, h1, h2⟩ := max_ex (b :: l) ⟨b, List.mem_cons_self⟩
    by_cases h : a ≤ m
    · exact ⟨m, List.mem_cons_of_mem _ h1, fun k hk => (List.mem_cons.mp hk).elim (fun e => by rw [e]; exact h) (h2 k)⟩
    · exact ⟨a, List.mem_cons_self, fun k hk => (List.mem_cons.mp hk).elim (fun e => by rw [e]; exact Nat.le_refl _) (fun q => by have := h2 k q; omega)⟩

theorem prime_ok {at_ : Nat} {l : List Int} (h : l = [2147483629, 2147483587, 2147483579, 2147483563, 2147483549, 2147483543, 2147483497, 2147483489]) : 0 ≤ (at_ : Int) % 8 ∧ ((at_ : Int) % 8).toNat < l.length ∧ 0 < l.getD ((at_ : Int) % 8).toNat 0 ∧ l.getD ((at_ : Int) % 8).toNat 0 < 4294967296 := by
  subst h
  have h1 : 0 ≤ (at_ : Int) % 8 := by omega
  have h2 : ((at_ : Int) % 8).toNat < 8 := by omega
  generalize ((at_ : Int) % 8).toNat = k at h2
  refine ⟨h1, h2, ?_⟩
  match k, h2 with
  | 0, _ => decide
  | 1, _ => decide
  | 2, _ => decide
  | 3, _ => decide
  | 4, _ => decide
  | 5, _ => decide
  | 6, _ => decide
  | 7, _ => decide


theorem sc__law_bag : FnScope ["_law_script", "_law_at", "_law_cell", "_law_prime"] ["_law_script", "_law_at"] (defScope (top 33)) := ⟨rfl, rfl, rfl, by decide +kernel, rfl, by decide +kernel, by decide +kernel⟩
theorem b__law_bag (h : Hd K mg) : Binds K h.fd__law_bag ["_law_script", "_law_at"] [] := h.F__law_bag.bindsN fun _ _ _ _ _ _ us hl => match us, hl with | [_, _], _ => rfl
theorem ok__law_bag (h : Hd K mg) : FnOk P w K mg base CX0 1 h.f__law_bag h.fd__law_bag ["_law_script", "_law_at"] (sp__law_bag K) := by
  have nd := sc__law_bag.nd
  refine h.F__law_bag.ok sc__law_bag (fun vs H Q E h => ?_) (fun cdv A outer s H vs Q E hr hsp => ⟨_, PSs.nox
    (pss_cons (ps_set (i := 2) nd rfl (by first | exact .inl rfl | exact .inr rfl) pe_int)
    (pss_cons (ps_if (pt_cmpR op_lt (pv 1) (pe_callB (k_len (K := K) rfl) rfl h.b_len (by decide +kernel) (pa_cons (pv 0) pa_nil)) (nomark _)) (pss_one (ps_set (i := 2) nd rfl (by first | exact .inl rfl | exact .inr rfl) (pe_callB call_abs rfl h.b_abs (by decide +kernel) (pa_cons (pe_ix (k_ixL (K := K) rfl) (pv 0) (pv 1) (fun _ _ => rfl)) pa_nil)))) pss_nil)
    (pss_cons (ps_set (i := 3) nd rfl (by first | exact .inl rfl | exact .inr rfl) (pe_ix (k_ixL (K := K) rfl) (pe_lst (pa_cons pe_int (pa_cons pe_int (pa_cons pe_int (pa_cons pe_int (pa_cons pe_int (pa_cons pe_int (pa_cons pe_int (pa_cons pe_int pa_nil))))))))) (pe_op op_mod (pv 1) pe_int) (fun _ _ => rfl)))
    (pss_one (ps_ret (pe_lst (pa_cons (pe_op op_mul (pv 2) (pe_callTy call_int1 rfl h.b_int (by decide +kernel) (pa_cons (pe_cmpR op_ge (pv 2) (pe_op op_pow pe_int pe_int) (nomark _)) pa_nil))) (pa_cons (pe_op op_mod (pe_op op_pow (pe_op op_add (pe_op op_add (pe_op op_mod (pv 2) pe_int) (pe_op op_mul pe_int (pv 1))) pe_int) pe_int) (pv 3)) (pa_cons (pv 3) (pa_cons pe_int pa_nil)))))))))), ?_⟩)
  · obtain ⟨i, G, _, ⟨_, _, rfl, _, ⟨_, _, rfl, _, rfl⟩⟩, _⟩ := h
    rfl
  obtain ⟨⟨ns, at_⟩, G, d, ⟨_, _, rfl, h0, _, _, rfl, h1, rfl⟩, hat, q⟩ := hsp
  dsimp only at hat q h0 h1
  refine (?_ : Nx ⟨[], G, H, G⟩ _ ⟨[eR (rSc K) ns, eR rN at_, eAny, eAny], []⟩) _ G H (en_start d ⟨⟨_, rfl, Go.go h0⟩, ⟨_, rfl, Go.go h1⟩, trivial, trivial, trivial⟩ rfl)
  refine s_asg (fun e => ev_i) ?_
  refine s_join (δ := Int) (fun cell => ⟨[eR (rSc K) ns, eR rN at_, eR rI cell, eAny], []⟩) (fun cell => True) (fun cell _ => ?_) (fun rest => ?_)
  · obtain ⟨m1, m2, m3, m4⟩ := prime_ok (at_ := at_) rfl
    refine s_asg (x := [2147483629, 2147483587, 2147483579, 2147483563, 2147483549, 2147483543, 2147483497, 2147483489].getD ((at_ : Int) % 8).toNat 0) (fun e => (ev_gL (d := 0) (ev_lst (el_c ev_i (el_c ev_i (el_c ev_i (el_c ev_i (el_c ev_i (el_c ev_i (el_c ev_i (el_c ev_i el_n)))))))) (by simp)) (ev_mod (ev_nI (lk e 1 rfl)) ev_i ?_) ?_ ?_)) ?_
    · decide
    · exact m1
    · exact m2
    generalize [2147483629, 2147483587, 2147483579, 2147483563, 2147483549, 2147483543, 2147483497, 2147483489].getD ((at_ : Int) % 8).toNat 0 = prime at m3 m4 ⊢
    refine nx_retN (fun e => (en_lst (el_c (ev_mul (lk e 2 rfl) (ev_intB (ev_ge (lk e 2 rfl) (ev_pow ev_i ev_i ?_))) ?_) (el_c (ev_mod (ev_pow (ev_add (ev_add (ev_mod (lk e 2 rfl) ev_i ?_) (ev_mul ev_i (ev_nI (lk e 1 rfl)) ?_)) ev_i) ev_i ?_) (lk e 3 rfl) ?_) (el_c (lk e 3 rfl) (el_c ev_i el_n)))) (by simp))) (fun σ a vs G' H' e hn h1 h2 t => q _ G' H' e.fz ⟨a, vs, _, rfl, hn, h1, h2, t, rfl, m3, m4⟩)
    · exact ⟨by decide, by decide, by decide⟩
    · exact Or.inr (by split <;> exact ⟨by omega, by omega⟩)
    · decide
    · exact Or.inl ⟨by omega, by omega⟩
    · refine ⟨by decide, by decide, ?_⟩
      have := md (show (0 : Int) < 2147483647 by decide) cell
      omega
    · exact m3
  refine s_if (fun e => (et_t (ev_ltN (lk e 1 rfl) (ev_lenS (lk e 0 rfl))))) (fun hb => ?_) (fun hb => ?_)
  · have hb := of_decide_eq_true hb
    refine nx_asg (fun e => (ev_abs (ev_gS (lk e 0 rfl) (lk e 1 rfl) ?_))) (rest _ trivial)
    exact hb
  · exact nx_next (rest _ trivial)


theorem sc_begun_by_some : FnScope ["p", "polys", "many", "r", "poly", "k"] ["p", "polys"] (defScope (top 30)) := ⟨rfl, rfl, rfl, by decide +kernel, rfl, by decide +kernel, by decide +kernel⟩
theorem b_begun_by_some (h : Hd K mg) : Binds K h.fd_begun_by_some ["p", "polys"] [] := h.F_begun_by_some.bindsN fun _ _ _ _ _ _ us hl => match us, hl with | [_, _], _ => rfl
theorem ok_begun_by_some (h : Hd K mg) : FnOk P w K mg base CX0 3 h.f_begun_by_some h.fd_begun_by_some ["p", "polys"] sp_begun_by_some := by
  have nd := sc_begun_by_some.nd
  refine h.F_begun_by_some.ok sc_begun_by_some (fun vs H Q E h => ?_) (fun cdv A outer s H vs Q E hr hsp => ⟨_, PSs.nox
    (pss_cons (ps_while PassesOwn.never (pt_cmpR (k_eqD (K := K) rfl (hu64 hr)) (pe_ix (k_ixL (K := K) rfl) (pv 1) pe_int (fun _ _ => rfl)) (pe_tup pa_nil) (nomark _)) (pss_cons (ps_set (i := 3) nd rfl (by first | exact .inl rfl | exact .inr rfl) (pe_ix (k_ixL (K := K) rfl) (pe_lc rfl nd (pi_range1 rfl h.b_range (pa_cons (pv 0) pa_nil)) (blkOk_by (own := [("r", 3)]) (by kernel_rfl)) (fun _ _ _ _ _ => (by exact (pg_name (i := 3) nd rfl (by first | exact .inl rfl | exact .inr rfl)))) (fun _ _ _ _ _ => pts_one (pt_val (pe_callB (k_any (K := K) rfl rfl) rfl h.b_any (by decide +kernel) (pa_cons (pe_lc rfl nd (k_piL (K := K) rfl (pv 1)) (blkOk_by (own := [("poly", 4)]) (by kernel_rfl)) (fun _ _ _ _ _ => (by exact (pg_name (i := 4) nd rfl (by first | exact .inl rfl | exact .inr rfl)))) (fun _ _ _ _ _ => pts_nil) (fun _ _ _ _ _ => (pe_cmpR (k_neD (K := K) rfl (hu64 hr)) (pe_call (ok_part_taken h) (hr.mono (by decide)) rfl h.g_part_taken h.F_part_taken.kp (b_part_taken h) .nil pass0 (pa_cons (pv 0) (pa_cons (pv 4) (pa_cons (pv 3) pa_nil)))) (pe_tup pa_nil) (nomark _)))) pa_nil)))) (fun _ _ _ _ _ => (pv 3))) pe_int (fun _ _ => rfl)))
    (pss_one (ps_set (i := 1) nd rfl (by first | exact .inl rfl | exact .inr rfl) (pe_lc rfl nd (k_piL (K := K) rfl (pe_slice (k_slL (K := K) rfl) (pv 1) (po_some pe_int) po_none)) (blkOk_by (own := [("poly", 4)]) (by kernel_rfl)) (fun _ _ _ _ _ => (by exact (pg_name (i := 4) nd rfl (by first | exact .inl rfl | exact .inr rfl)))) (fun _ _ _ _ _ => pts_nil) (fun _ _ _ _ _ => (pe_call (ok_part_taken h) (hr.mono (by decide)) rfl h.g_part_taken h.F_part_taken.kp (b_part_taken h) .nil pass0 (pa_cons (pv 0) (pa_cons (pv 4) (pa_cons (pv 3) pa_nil))))))))))
    (pss_cons (ps_set (i := 2) nd rfl (by first | exact .inl rfl | exact .inr rfl) (pe_callB (k_max (K := K) rfl rfl) rfl h.b_max (by decide +kernel) (pa_cons (pe_lc rfl nd (pi_range1 rfl h.b_range (pa_cons (pe_callB (k_len (K := K) rfl) rfl h.b_len (by decide +kernel) (pa_cons (pv 1) pa_nil)) pa_nil)) (blkOk_by (own := [("k", 5)]) (by kernel_rfl)) (fun _ _ _ _ _ => (by exact (pg_name (i := 5) nd rfl (by first | exact .inl rfl | exact .inr rfl)))) (fun _ _ _ _ _ => pts_one (pt_cmpR (k_neD (K := K) rfl (hu64 hr)) (pe_ix (k_ixL (K := K) rfl) (pv 1) (pv 5) (fun _ _ => rfl)) (pe_tup pa_nil) (nomark _))) (fun _ _ _ _ _ => (pe_op op_add (pv 5) pe_int))) pa_nil)))
    (pss_one (ps_ret (pe_callTy (k_tuple (K := K) rfl) rfl h.b_tuple (by decide +kernel) (pa_cons (pe_slice (k_slL (K := K) rfl) (pv 1) po_none (po_some (pv 2))) pa_nil)))))), ?_⟩)
  · obtain ⟨i, G, _, ⟨_, _, rfl, _, ⟨_, _, rfl, _, rfl⟩⟩, _⟩ := h
    rfl
  obtain ⟨⟨p, polys⟩, G, d, ⟨_, _, rfl, h0, _, _, rfl, h1, rfl⟩, ⟨hp, hl, hb, hne⟩, q⟩ := hsp
  dsimp only at hp hl hb hne q h0 h1
  have p0 := hp.pos
  have p5 := hp.le
  refine (?_ : Nx ⟨[], G, H, G⟩ _ ⟨[eR rI p, eR (rL (rT rI)) polys, eAny, eAny, eAny, eAny], []⟩) _ G H (en_start d ⟨⟨_, rfl, Go.go h0⟩, ⟨_, rfl, Go.go h1⟩, trivial, trivial, trivial, trivial, trivial⟩ rfl)
  refine s_whileE (δ := List (List Int)) (fun b => ⟨[eR rI p, eR (rL (rT rI)) b, eAny, eAny, eAny, eAny], []⟩) (fun b => Beg p polys b ∧ b.length ≤ polys.length ∧ (∀ g ∈ b, Tp p g ∧ g.length ≤ 10000) ∧ ∃ g ∈ b, g ≠ []) List.length (fun b => (b.getD 0 []).isEmpty) polys ⟨by repeat' (first | exact SubE.nil | apply SubE.any | apply SubE.same), List.Sublist.refl _⟩ ⟨.refl _, Nat.le_refl _, hb, hne⟩ (fun b hi {σ G H} e => (et_t (ev_eqU (ev_gLn (d := []) (lk e 1 rfl) (ev_litN 0) ?_)))) ?_ ?_
  · obtain ⟨_, _, _, g, hg, _⟩ := hi
    exact List.length_pos_of_mem hg
  · intro W' f1 f2 f3 b ⟨bg, bl, bt, g, hg, gne⟩ hz
    have hz : b.getD 0 [] = [] := List.isEmpty_iff.mp hz
    obtain ⟨r1, r1p, r1n⟩ := part_ne p0 (bt g hg).1 gne
    let ks := (List.range p.toNat).filter fun r => (b.map fun poly => !(part p poly r).isEmpty).any id
    have hk1 : r1 ∈ ks := List.mem_filter.mpr ⟨List.mem_range.mpr r1p, by
      rw [List.any_map, List.any_eq_true]
      exact ⟨g, hg, by simpa using r1n⟩⟩
    have hkl : 0 < ks.length := List.length_pos_of_mem hk1
    have hr : ks.getD 0 0 ∈ ks := getD_mem hkl
    refine s_asg (x := ks.getD 0 0) (fun e => EvR.is (ev_gLn (d := 0) (en_lc e (ei_r1 (lk e 0 rfl) ?_ ?_) ?_ (fun x => [(3, eR rN x)]) (fun x hx => (tg_n 3)) (by simp) (fun x hx σ2 G2 H2 e2 => (et_b (ev_anyB (en_lc1 e2 (ei_l (lk e2 1 rfl)) ?_ (fun x => [(4, eR (rT rI) x)]) (fun x hx => (tg_n 4)) (by simp) (fun x hx σ2 G2 H2 e2 => (ev_neU (ev_part_taken (ea_c (lk e2 0 rfl) (ea_c (lk e2 4 rfl) (ea_c (lk e2 3 rfl) ea_n))) ?_)))).ev))) (fun x hx hk σ2 G2 H2 e2 => (lk e2 3 rfl))).ev (ev_litN 0) ?_) (by rw [List.map_id'])) ?_
    · omega
    · omega
    · rw [List.length_range]; omega
    · omega
    · rename_i k hk _ _ _ _
      exact ⟨hp, by have := (bt x hx).2; omega⟩
    · rw [List.map_id']; exact hkl
    obtain ⟨k1, k2⟩ := List.mem_filter.mp hr
    rw [List.mem_range] at k1
    have k3 : ∃ g ∈ b, part p g (ks.getD 0 0) ≠ [] := by
      rw [List.any_map, List.any_eq_true] at k2
      obtain ⟨g, hg, hn⟩ := k2
      exact ⟨g, hg, by simpa using hn⟩
    obtain ⟨s1, s2, s3⟩ := beg_step p0 bt hz k3
    refine nx_asg (x := (b.drop 1).map fun g => part p g (ks.getD 0 0)) (fun e => (en_lc1 e (ei_l (ev_dropL 1 (lk e 1 rfl) ev_i rfl)) ?_ (fun x => [(4, eR (rT rI) x)]) (fun x hx => (tg_n 4)) (by simp) (fun x hx σ2 G2 H2 e2 => (ev_part_taken (ea_c (lk e2 0 rfl) (ea_c (lk e2 4 rfl) (ea_c (lk e2 3 rfl) ea_n))) ?_))).ev) (nx_endW _ ⟨by repeat' (first | exact SubE.nil | apply SubE.any | apply SubE.same), List.Sublist.refl _⟩ ⟨.step bg hz k1, by omega, s1, s3⟩ s2)
    · rw [List.length_drop]; omega
    · exact ⟨hp, by have := (bt x (List.mem_of_mem_drop hx)).2; omega⟩
  · intro b ⟨bg, bl, bt, g, hg, gne⟩ hz
    have hz : b.getD 0 [] ≠ [] := fun z => by rw [z] at hz; simp at hz
    have bpos : 0 < b.length := List.length_pos_of_mem hg
    let ks := (List.range b.length).filter fun k => !(b.getD k []).isEmpty
    have k0 : 0 ∈ ks := List.mem_filter.mpr ⟨List.mem_range.mpr bpos, by simpa using hz⟩
    have kin : ∀ k, k ∈ ks ↔ k < b.length ∧ b.getD k [] ≠ [] := fun k => by
      show k ∈ (List.range b.length).filter _ ↔ _
      rw [List.mem_filter, List.mem_range]
      simp
    obtain ⟨m, hm, hmax⟩ := max_ex ks ⟨0, k0⟩
    obtain ⟨mb, mne⟩ := (kin m).mp hm
    refine s_asg (x := ((m + 1 : Nat) : Int)) (fun e => (ev_max (ev_LN (en_lc e (ei_r1 (ev_nI (ev_lenN (lk e 1 rfl))) ?_ ?_) ?_ (fun x => [(5, eR rN x)]) (fun x hx => (tg_n 5)) (by simp) (fun x hx σ2 G2 H2 e2 => (et_t (ev_neU (ev_gLn (d := []) (lk e2 1 rfl) (lk e2 5 rfl) ?_)))) (fun x hx hk σ2 G2 H2 e2 => (ev_addN (lk e2 5 rfl) (ev_litN 1)))).ev) ?_ ?_)) ?_
    · omega
    · omega
    · rw [List.length_range]; omega
    · rw [List.mem_range] at hx; omega
    · rw [Int.toNat_natCast, List.map_map]
      exact List.mem_map.mpr ⟨m, hm, rfl⟩
    · intro n hn
      rw [Int.toNat_natCast, List.map_map] at hn
      obtain ⟨k, hk, rfl⟩ := List.mem_map.mp hn
      have := hmax k hk
      show ((k + 1 : Nat) : Int) ≤ _
      omega
    have tl : (b.take (m + 1)).length = m + 1 := by rw [List.length_take]; omega
    refine nx_ret (r := rT (rT rI)) (x := b.take (m + 1)) (fun e => (ev_tupleL (ev_takeL _ (lk e 1 rfl) (lk e 2 rfl) ?_))) (fun σ v G' H' e hv => q v G' H' e.fz ⟨_, b, hv, bg, fun z => ?_, by rw [tl]; omega, fun g hg => bt g (List.mem_of_mem_take hg), by rw [tl], fun k hk => ?_⟩)
    · rfl
    · rw [z] at tl
      simp at tl
    · rw [tl] at hk
      refine Classical.byContradiction fun z => ?_
      by_cases hkb : k < b.length
      · have := hmax k ((kin k).mpr ⟨hkb, z⟩)
        omega
      · rw [List.getD_eq_getElem?_getD, List.getElem?_eq_none (by omega)] at z
        exact z rfl


theorem sc__law_take : FnScope ["_law_bag_here", "_law_many", "_law_digit"] ["_law_bag_here", "_law_many"] (defScope (top 34)) := ⟨rfl, rfl, rfl, by decide +kernel, rfl, by decide +kernel, by decide +kernel⟩
theorem b__law_take (h : Hd K mg) : Binds K h.fd__law_take ["_law_bag_here", "_law_many"] [] := h.F__law_take.bindsN fun _ _ _ _ _ _ us hl => match us, hl with | [_, _], _ => rfl
theorem ok__law_take (h : Hd K mg) : FnOk P w K mg base CX0 1 h.f__law_take h.fd__law_take ["_law_bag_here", "_law_many"] sp__law_take := by
  have nd := sc__law_take.nd
  refine h.F__law_take.ok sc__law_take (fun vs H Q E h => ?_) (fun cdv A outer s H vs Q E hr hsp => ⟨_, PSs.nox
    (pss_cons (ps_if (pt_cmpR op_gt (pe_ix (k_ixL (K := K) rfl) (pv 0) pe_int (fun _ _ => rfl)) pe_int (nomark _)) (pss_cons (ps_set (i := 2) nd rfl (by first | exact .inl rfl | exact .inr rfl) (pe_op op_mod (pe_ix (k_ixL (K := K) rfl) (pv 0) pe_int (fun _ _ => rfl)) (pv 1)))
    (pss_cons (ps_asg (pe_op op_fdiv (pe_ix (k_ixL (K := K) rfl) (pv 0) pe_int (fun _ _ => rfl)) (pv 1)) (pg_sub (pv 0) pe_int set_list))
    (pss_one (ps_ret (pv 2))))) pss_nil)
    (pss_cons (ps_asg (pe_op op_add (pe_ix (k_ixL (K := K) rfl) (pv 0) pe_int (fun _ _ => rfl)) pe_int) (pg_sub (pv 0) pe_int set_list))
    (pss_cons (ps_asg (pe_op op_mod (pe_op op_add (pe_op op_add (pe_op op_mul (pe_ix (k_ixL (K := K) rfl) (pv 0) pe_int (fun _ _ => rfl)) pe_int) (pe_op op_mul pe_int (pe_ix (k_ixL (K := K) rfl) (pv 0) pe_int (fun _ _ => rfl)))) pe_int) (pe_ix (k_ixL (K := K) rfl) (pv 0) pe_int (fun _ _ => rfl))) (pg_sub (pv 0) pe_int set_list))
    (pss_one (ps_ret (pe_op op_mod (pe_op op_mod (pe_op op_pow (pe_op op_fdiv (pe_ix (k_ixL (K := K) rfl) (pv 0) pe_int (fun _ _ => rfl)) pe_int) pe_int) pe_int) (pv 1))))))), ?_⟩)
  · obtain ⟨i, G, _, ⟨_, _, rfl, _, ⟨_, _, rfl, _, rfl⟩⟩, _⟩ := h
    rfl
  obtain ⟨⟨a, ns, many⟩, G, d, ⟨_, _, rfl, h0, _, _, rfl, h1, rfl⟩, ⟨⟨us, ha, hg, ta⟩, hb, m0, m1⟩, q⟩ := hsp
  dsimp only at ha hg ta hb m0 m1 q h0 h1
  refine (?_ : Nx ⟨[a], G, H, G⟩ _ ⟨[eR rA a, eR rN many, eAny], [oL a rI ns .par]⟩) _ G H (en_startW d ⟨⟨_, rfl, h0⟩, ⟨_, rfl, Go.go h1⟩, trivial, trivial⟩ rfl ha hg ta)
  have hn := hb.n
  have fin : ∀ (ms : List Int) (dg : Nat), Bg ms → dg < many → ∀ σ v G' H' sl, En ⟨[a], G, H, G⟩ G' H' σ ⟨sl, [oL a rI ms .par]⟩ → rN G' H' v dg → Q v H' := fun ms dg bm dm σ v G' H' sl e hv => by
    obtain ⟨h, h1, _, vs, h3, h4⟩ := e.ow _ List.mem_cons_self
    rw [h3] at h1
    exact q v G' H' e.fz ⟨dg, vs, ms, hv, dm, h1, h4.imp fun _ _ q => q, bm⟩
  refine s_if (fun e => (et_t (ev_gt (ev_gLn (d := 0) (lkO e 0 0 rfl rfl) (ev_litN 0) ?_) ev_i))) (fun hc => ?_) (fun hc => ?_)
  · omega
  · have hc := of_decide_eq_true hc
    refine s_asg (r := rN) (x := (ns.getD 0 0 % (many : Int)).toNat) (fun e => ev_nI' (ev_mod (ev_gLn (d := 0) (lkO e 0 0 rfl rfl) (ev_litN 0) ?_) (ev_nI (lk e 1 rfl)) ?_) (by have := md (show (0 : Int) < many by omega) (ns.getD 0 0); omega)) ?_
    · omega
    · omega
    refine s_put 0 0 (fun e => (ev_div (ev_gLn (d := 0) (lkO e 0 0 rfl rfl) (ev_litN 0) ?_) (ev_nI (lk e 1 rfl)) ?_)) (fun e => lk e 0 rfl) (fun e => ev_i) rfl rfl (by omega) (fun z => nomatch z) ?_
    · omega
    · exact ⟨by omega, by omega⟩
    refine nx_ret (r := rN) (fun e => (lk e 2 rfl)) (fun σ v G' H' e hv => fin _ _ ⟨by rw [List.length_set]; exact hn, by rw [getD_set, if_neg (fun z => by simp at z)]; exact hb.pos, by rw [getD_set, if_neg (fun z => by simp at z)]; exact hb.lt⟩ ?_ σ v G' H' _ e hv)
    have := md (show (0 : Int) < many by omega) (ns.getD 0 0)
    omega
  · refine nx_next ?_
    refine s_put 0 3 (fun e => (ev_add (ev_gLn (d := 0) (lkO e 0 0 rfl rfl) (ev_litN 3) ?_) ev_i)) (fun e => lk e 0 rfl) (fun e => ev_i) rfl rfl (by omega) (fun z => nomatch z) ?_
    · omega
    generalize e1 : ns.set 3 (ns.getD 3 0 + 1) = n1
    have b1 : Bg n1 := by
      subst e1
      exact ⟨by rw [List.length_set]; exact hn, by rw [getD_set, if_neg (fun z => by simp at z)]; exact hb.pos, by rw [getD_set, if_neg (fun z => by simp at z)]; exact hb.lt⟩
    have l1 := b1.n
    refine s_put 0 1 (fun e => (ev_mod (ev_add (ev_add (ev_mul (ev_gLn (d := 0) (lkO e 0 0 rfl rfl) (ev_litN 1) ?_) ev_i ?_) (ev_mul ev_i (ev_gLn (d := 0) (lkO e 0 0 rfl rfl) (ev_litN 3) ?_) ?_)) ev_i) (ev_gLn (d := 0) (lkO e 0 0 rfl rfl) (ev_litN 2) ?_) ?_)) (fun e => lk e 0 rfl) (fun e => ev_i) rfl rfl (by omega) (fun z => nomatch z) ?_
    · omega
    · exact Or.inr ⟨by decide, by decide⟩
    · omega
    · exact Or.inl ⟨by decide, by decide⟩
    · omega
    · exact b1.pos
    generalize e2 : ((n1.getD 1 0 * 48271 + 7919 * n1.getD 3 0 + 11) % n1.getD 2 0) = c1
    have c1b := md b1.pos (n1.getD 1 0 * 48271 + 7919 * n1.getD 3 0 + 11)
    rw [e2] at c1b
    have b2 : Bg (n1.set 1 c1) := ⟨by rw [List.length_set]; exact l1, by rw [getD_set, if_neg (fun z => by simp at z)]; exact b1.pos, by rw [getD_set, if_neg (fun z => by simp at z)]; exact b1.lt⟩
    have g1 : (n1.set 1 c1).getD 1 0 = c1 := by rw [getD_set, if_pos ⟨rfl, by omega⟩]
    have l2 := b2.n
    have b1l := b1.lt
    refine nx_ret (r := rN) (x := (((n1.set 1 c1).getD 1 0 / 8) ^ (3 : Int).toNat % 2147483629 % (many : Int)).toNat) (fun e => ev_nI' (ev_mod (ev_mod (ev_pow (ev_div (ev_gLn (d := 0) (lkO e 0 0 rfl rfl) (ev_litN 1) ?_) ev_i ?_) ev_i ?_) ev_i ?_) (ev_nI (lk e 1 rfl)) ?_) ?_) (fun σ v G' H' e hv => fin _ _ b2 ?_ σ v G' H' _ e hv)
    · omega
    · exact ⟨by decide, by decide⟩
    · rw [g1]
      refine ⟨by decide, by decide, ?_⟩
      omega
    · decide
    · omega
    · have := md (show (0 : Int) < many by omega) (((n1.set 1 c1).getD 1 0 / 8) ^ (3 : Int).toNat % 2147483629)
      omega
    · have := md (show (0 : Int) < many by omega) (((n1.set 1 c1).getD 1 0 / 8) ^ (3 : Int).toNat % 2147483629)
      omega


theorem sc__law_numbers : FnScope ["_law_bag_here", "_law_p", "_law_many", "_law_k"] ["_law_bag_here", "_law_p", "_law_many"] (defScope (top 36)) := ⟨rfl, rfl, rfl, by decide +kernel, rfl, by decide +kernel, by decide +kernel⟩
theorem b__law_numbers (h : Hd K mg) : Binds K h.fd__law_numbers ["_law_bag_here", "_law_p", "_law_many"] [] := h.F__law_numbers.bindsN fun _ _ _ _ _ _ us hl => match us, hl with | [_, _, _], _ => rfl
theorem ok__law_numbers (h : Hd K mg) : FnOk P w K mg base CX0 2 h.f__law_numbers h.fd__law_numbers ["_law_bag_here", "_law_p", "_law_many"] sp__law_numbers := by
  have nd := sc__law_numbers.nd
  refine h.F__law_numbers.ok sc__law_numbers (fun vs H Q E h => ?_) (fun cdv A outer s H vs Q E hr hsp => ⟨_, PSs.nox
    (pss_one (ps_ret (pe_callTy (k_tuple (K := K) rfl) rfl h.b_tuple (by decide +kernel) (pa_cons (pe_lc rfl nd (pi_range1 rfl h.b_range (pa_cons (pv 2) pa_nil)) (blkOk_by (own := [("_law_k", 3)]) (by kernel_rfl)) (fun _ _ _ _ _ => (by exact (pg_name (i := 3) nd rfl (by first | exact .inl rfl | exact .inr rfl)))) (fun _ _ _ _ _ => pts_nil) (fun _ _ _ _ _ => (pe_call (ok__law_take h) (hr.mono (by decide)) rfl h.g__law_take h.F__law_take.kp (b__law_take h) .nil pass0 (pa_cons (pv 0) (pa_cons (pv 1) pa_nil))))) pa_nil)))), ?_⟩)
  · obtain ⟨i, G, _, ⟨_, _, rfl, _, ⟨_, _, rfl, _, ⟨_, _, rfl, _, rfl⟩⟩⟩, _⟩ := h
    rfl
  obtain ⟨⟨a, ns, p, many⟩, G, d, ⟨_, _, rfl, h0, _, _, rfl, h1, _, _, rfl, h2, rfl⟩, ⟨⟨us, ha, hg, ta⟩, hb, p0, p1, m1⟩, q⟩ := hsp
  dsimp only at ha hg ta hb p0 p1 m1 q h0 h1 h2
  refine (?_ : Nx ⟨[a], G, H, G⟩ _ ⟨[eR rA a, eR rN p, eR rN many, eAny], [oL a rI ns .par]⟩) _ G H (en_startW d ⟨⟨_, rfl, h0⟩, ⟨_, rfl, Go.go h1⟩, ⟨_, rfl, Go.go h2⟩, trivial, trivial⟩ rfl ha hg ta)
  intro σ G1 H1 e
  refine ret_of (cb1_of ?_)
  refine lc_write (r := rN) (r' := rI) (l := List.range ((many : Nat) : Int).toNat) (δ := List Int) (sl := [eR rA a, eR rN p, eR rN many, eAny]) (ow := fun s => [oL a rI s .par]) ns (fun k s ys => Bg s ∧ ys.length = k ∧ Nm (p : Int) ys) e ⟨hb, rfl, .nil⟩ (fun e => ei_r1 (ev_nI (lk e 2 rfl)) ?_ ?_) ?_ (fun k s ys h => Nat.le_of_eq h.2.1) (fun x => [(3, eR rN x)]) (fun x hx => tg_n 3) (by simp) ?_ _ ?_
  · omega
  · omega
  · rw [List.length_range]; omega
  · intro W' f1 f2 f3 o0 k s ys x hx ⟨bs, ly, ny⟩ σ2 G2 H2 e2 Q2 hQ2
    refine callW_run e2 ((a, s, p) : Addr × List Int × Nat) (ea_c (lk e2.toEo 0 rfl) (ea_c (lk e2.toEo 1 rfl) ea_n)) (fun G H e => ⟨e.lst (j := 1) rfl (fun z => nomatch z), bs, p0, p1⟩) (fun v G3 H3 G4 H4 e3 f post => ?_)
    obtain ⟨dg, vs, ms, ev, dlt, h4, t4, b4⟩ := post
    have e4 := e3.callK (j := 1) (o' := oL a rI ms .par) rfl (fun z => nomatch z) f rfl rfl h4 ⟨vs, rfl, t4.imp fun _ _ q => q⟩
    refine hQ2 v G4 H4 ms (dg : Int) e4 ev ⟨b4, by rw [List.length_append, ly]; rfl, fun y hy => ?_⟩
    rcases List.mem_append.mp hy with hy | hy
    · exact ny y hy
    · rw [List.mem_singleton.mp hy]
      exact ⟨by omega, by have : dg < p := dlt; omega⟩
  · intro D2 s ys G' H' e2 ⟨bs, ly, ny⟩
    obtain ⟨vs, hD, hgD, tD⟩ := e2.lst (j := 0) rfl (fun z => nomatch z)
    refine ⟨D2, vs, rfl, .inl ⟨sqL_of hD, fun l hl => ?_⟩⟩
    have n := new_tup e2.gd hl tD
    have e3 := e2.step n.1
    obtain ⟨ws, ha2, hg2, ta2⟩ := e3.lst (j := 1) rfl (fun z => nomatch z)
    rw [List.length_range, Int.toNat_natCast] at ly
    exact q _ _ _ e3.fz ⟨ys, ws, s, n.2, ly, ny, ha2, ta2, bs⟩

end
end Dg
end
section
set_option Elab.async false
set_option linter.all false
set_option maxRecDepth 100000
set_option maxHeartbeats 4000000
/-! The law's checker. -/
namespace Dg
open PySem PySem.Spec PyProof.Rows L2

abbrev sp__law_is_nought : Sp := spF (ι := (Int) × (List (List (List (Int)))) × (List (List (List (Int)))) × (List (Int))) (fun t => (aC rI t.1 (aC (rL (rL (rT rI))) t.2.1 (aC (rT (rT (rT rI))) t.2.2.1 (aC (rT rI) t.2.2.2 aN))))) (fun t => (fun (_law_p : Int) (_law_rows : List (List (List (Int)))) (_law_steps : List (List (List (Int)))) (_law_firsts : List (Int)) => Nought _law_p _law_rows _law_steps _law_firsts) (t.1) (t.2.1) (t.2.2.1) (t.2.2.2)) rB (fun t => (fun (_law_p : Int) (_law_rows : List (List (List (Int)))) (_law_steps : List (List (List (Int)))) (_law_firsts : List (Int)) => true) (t.1) (t.2.1) (t.2.2.1) (t.2.2.2))
theorem ev__law_is_nought {σ : L2.St} {G H : Hp} {ta : TA} {E : XK} {_law_p : Int} {_law_rows : List (List (List (Int)))} {_law_steps : List (List (List (Int)))} {_law_firsts : List (Int)} (ha : EvA ta σ G H (aC rI _law_p (aC (rL (rL (rT rI))) _law_rows (aC (rT (rT (rT rI))) _law_steps (aC (rT rI) _law_firsts aN))))) (hp : Nought _law_p _law_rows _law_steps _law_firsts) : EvR (tCall sp__law_is_nought [] E ta) σ G H rB (true) := ev_call (_law_p, _law_rows, _law_steps, _law_firsts) ha hp
section
variable {P : Program} {w : World} {K : PySem.W.Frag} {mg : Str → Option Value} {base : Heap}

/-- the state of the checker's loop: waiting, at, lines -/
structure NtI {R : Type} [Lean.Grind.CommRing R] {p : Int} (h : Hom R p) (F : Nat → Ser R) (m W : Nat) (s : Rows × Nat × List (Nat × List Int)) : Prop where
  le : s.2.1 ≤ s.1.length
  row : ∀ row ∈ s.1, row.length = m ∧ Po p W row ∧ Nt h F m row
  lines : Lines p (m * W) s.2.2
  few : s.1.length ≤ 32 + 5 * s.2.2.length


theorem sc__law_is_nought : FnScope ["_law_p", "_law_rows", "_law_steps", "_law_firsts", "_law_wide", "_law_row", "_law_lines", "_law_waiting", "_law_at", "_law_vector", "_law_poly", "_law_left_here", "_law_leads", "_law_back_here", "_law_after", "_law_k", "_law_r", "_law_number", "_law_first"] ["_law_p", "_law_rows", "_law_steps", "_law_firsts"] (defScope (top 46)) := ⟨rfl, rfl, rfl, by decide +kernel, rfl, by decide +kernel, by decide +kernel⟩
theorem b__law_is_nought (h : Hd K mg) : Binds K h.fd__law_is_nought ["_law_p", "_law_rows", "_law_steps", "_law_firsts"] [] := h.F__law_is_nought.bindsN fun _ _ _ _ _ _ us hl => match us, hl with | [_, _, _, _], _ => rfl
theorem ok__law_is_nought (h : Hd K mg) : FnOk P w K mg base CX0 4 h.f__law_is_nought h.fd__law_is_nought ["_law_p", "_law_rows", "_law_steps", "_law_firsts"] sp__law_is_nought := by
  have nd := sc__law_is_nought.nd
  refine h.F__law_is_nought.ok sc__law_is_nought (len_spF fun _ _ _ _ h => (ArgsE.sl h).1) (fun cdv A outer s H vs Q E hr hsp => ⟨_, PSs.nox
    (pss_cons (ps_set (i := 4) nd rfl (by first | exact .inl rfl | exact .inr rfl) pe_int)
    (pss_cons (ps_for PassesOwn.never rfl (k_piL (K := K) rfl (pv 1)) (pg_name (i := 5) nd rfl (by first | exact .inl rfl | exact .inr rfl)) (pss_one (ps_set (i := 4) nd rfl (by first | exact .inl rfl | exact .inr rfl) (pe_callB (k_max (K := K) rfl rfl) rfl h.b_max (by decide +kernel) (pa_cons (pe_op op_cat (pe_lst (pa_cons (pv 4) pa_nil)) (pe_lc rfl nd (k_piL (K := K) rfl (pv 5)) (blkOk_by (own := [("_law_poly", 10)]) (by kernel_rfl)) (fun _ _ _ _ _ => (by exact (pg_name (i := 10) nd rfl (by first | exact .inl rfl | exact .inr rfl)))) (fun _ _ _ _ _ => pts_nil) (fun _ _ _ _ _ => (pe_callB (k_len (K := K) rfl) rfl h.b_len (by decide +kernel) (pa_cons (pv 10) pa_nil))))) pa_nil)))))
    (pss_cons (ps_set (i := 6) nd rfl (by first | exact .inl rfl | exact .inr rfl) (pe_lst pa_nil))
    (pss_cons (ps_setLc (i := 7) rfl nd rfl rfl (sw_true rfl rfl rfl (by decide +kernel)) (k_piL (K := K) rfl (pv 1)) (blkOk_by (own := [("_law_row", 5)]) (by kernel_rfl)) (fun _ _ _ _ _ => (by exact (pg_name (i := 5) nd rfl (by first | exact .inl rfl | exact .inr rfl)))) (fun _ _ _ _ _ => pts_nil) (fun _ _ _ _ _ => (pe_callTy (k_list (K := K) rfl) rfl h.b_list (by decide +kernel) (pa_cons (pv 5) pa_nil))))
    (pss_cons (ps_set (i := 8) nd rfl (by first | exact .inl rfl | exact .inr rfl) pe_int)
    (pss_cons (ps_while PassesOwn.never (pt_cmpR op_lt (pv 8) (pe_callB (k_len (K := K) rfl) rfl h.b_len (by decide +kernel) (pa_cons (pv 7) pa_nil)) (nomark _)) (pss_cons (ps_set (i := 5) nd rfl (by first | exact .inl rfl | exact .inr rfl) (pe_ix (k_ixL (K := K) rfl) (pv 7) (pv 8) (fun _ _ => rfl)))
    (pss_cons (ps_set (i := 8) nd rfl (by first | exact .inl rfl | exact .inr rfl) (pe_op op_add (pv 8) pe_int))
    (pss_cons (ps_set (i := 9) nd rfl (by first | exact .inl rfl | exact .inr rfl) (pe_lst pa_nil))
    (pss_cons (ps_for PassesOwn.never rfl (k_piL (K := K) rfl (pv 5)) (pg_name (i := 10) nd rfl (by first | exact .inl rfl | exact .inr rfl)) (pss_one (ps_expr (pe_bm PySem.F.plainAttrs_list PySem.F.slot_list_extend PySem.F.type_list_extend mt_extend (pv 9) (pa_cons (pe_op op_cat (pe_callTy (k_list (K := K) rfl) rfl h.b_list (by decide +kernel) (pa_cons (pv 10) pa_nil)) (pe_op op_rep (pe_lst (pa_cons pe_int pa_nil)) (pe_op op_sub (pv 4) (pe_callB (k_len (K := K) rfl) rfl h.b_len (by decide +kernel) (pa_cons (pv 10) pa_nil))))) pa_nil)))))
    (pss_cons (ps_set (i := 11) nd rfl (by first | exact .inl rfl | exact .inr rfl) (pe_call (ok__law_left h) (hr.mono (by decide)) rfl h.g__law_left h.F__law_left.kp (b__law_left h) .nil pass0 (pa_cons (pv 0) (pa_cons (pv 6) (pa_cons (pv 9) pa_nil)))))
    (pss_cons (ps_setLc (i := 12) rfl nd rfl rfl (sw_true rfl rfl rfl (by decide +kernel)) (pi_range1 rfl h.b_range (pa_cons (pe_callB (k_len (K := K) rfl) rfl h.b_len (by decide +kernel) (pa_cons (pv 11) pa_nil)) pa_nil)) (blkOk_by (own := [("_law_k", 15)]) (by kernel_rfl)) (fun _ _ _ _ _ => (by exact (pg_name (i := 15) nd rfl (by first | exact .inl rfl | exact .inr rfl)))) (fun _ _ _ _ _ => pts_one (pt_cmpR op_ne (pe_ix (k_ixL (K := K) rfl) (pv 11) (pv 15) (fun _ _ => rfl)) pe_int (nomark _))) (fun _ _ _ _ _ => (pv 15)))
    (pss_one (ps_if (pt_cmpR (k_neD (K := K) rfl (hu64 hr)) (pv 12) (pe_lst pa_nil) (nomark _)) (pss_cons (ps_set (i := 13) nd rfl (by first | exact .inl rfl | exact .inr rfl) (pe_call (ok__law_back h) (hr.mono (by decide)) rfl h.g__law_back h.F__law_back.kp (b__law_back h) .nil pass0 (pa_cons (pv 0) (pa_cons (pe_ix (k_ixL (K := K) rfl) (pv 11) (pe_ix (k_ixL (K := K) rfl) (pv 12) pe_int (fun _ _ => rfl)) (fun _ _ => rfl)) pa_nil))))
    (pss_cons (ps_expr (pe_bm PySem.F.plainAttrs_list PySem.F.slot_list_append PySem.F.type_list_append mt_append (pv 6) (pa_cons (pe_tup (pa_cons (pe_ix (k_ixL (K := K) rfl) (pv 12) pe_int (fun _ _ => rfl)) (pa_cons (pe_lc rfl nd (k_piL (K := K) rfl (pv 11)) (blkOk_by (own := [("_law_number", 17)]) (by kernel_rfl)) (fun _ _ _ _ _ => (by exact (pg_name (i := 17) nd rfl (by first | exact .inl rfl | exact .inr rfl)))) (fun _ _ _ _ _ => pts_nil) (fun _ _ _ _ _ => (pe_op op_mod (pe_op op_mul (pv 17) (pv 13)) (pv 0)))) pa_nil))) pa_nil)))
    (pss_cons (ps_if (pt_cmpR op_ne (pe_op op_mod (pe_callB (k_sum (K := K) rfl rfl) rfl h.b_sum (by decide +kernel) (pa_cons (pe_lc rfl nd (k_piZ (K := K) rfl true false rfl h.b_zip (pa_cons (pv 5) (pa_cons (pv 3) pa_nil))) (blkOk_by (own := [("_law_poly", 10), ("_law_first", 18)]) (by kernel_rfl)) (fun _ _ _ _ _ => (by exact (k_tup (K := K) (n := 2) rfl rfl (pgs_cons (pg_name (i := 10) nd rfl (by first | exact .inl rfl | exact .inr rfl)) (pgs_cons (pg_name (i := 18) nd rfl (by first | exact .inl rfl | exact .inr rfl)) pgs_nil))))) (fun _ _ _ _ _ => pts_one (pt_cmpR (k_neD (K := K) rfl (hu64 hr)) (pv 10) (pe_tup pa_nil) (nomark _))) (fun _ _ _ _ _ => (pe_op op_mul (pe_ix (k_ixT (K := K) rfl) (pv 10) pe_int (fun _ _ => rfl)) (pv 18)))) pa_nil)) (pv 0)) pe_int (nomark _)) (pss_one (ps_ret pe_bl)) pss_nil)
    (pss_cons (ps_set (i := 14) nd rfl (by first | exact .inl rfl | exact .inr rfl) (pe_call (ok__law_woven h) (hr.mono (by decide)) rfl h.g__law_woven h.F__law_woven.kp (b__law_woven h) .nil pass0 (pa_cons (pv 0) (pa_cons (pv 5) (pa_cons (pv 2) pa_nil)))))
    (pss_one (ps_expr (pe_bm PySem.F.plainAttrs_list PySem.F.slot_list_extend PySem.F.type_list_extend mt_extend (pv 7) (pa_cons (pe_lc rfl nd (pi_range1 rfl h.b_range (pa_cons (pv 0) pa_nil)) (blkOk_by (own := [("_law_r", 16)]) (by kernel_rfl)) (fun _ _ _ _ _ => (by exact (pg_name (i := 16) nd rfl (by first | exact .inl rfl | exact .inr rfl)))) (fun _ _ _ _ _ => pts_nil) (fun _ _ _ _ _ => (pe_call (ok__law_part h) (hr.mono (by decide)) rfl h.g__law_part h.F__law_part.kp (b__law_part h) .nil pass0 (pa_cons (pv 0) (pa_cons (pv 14) (pa_cons (pv 16) pa_nil)))))) pa_nil)))))))) pss_nil)))))))))
    (pss_one (ps_ret pe_bl)))))))), pure_run hsp fun t W D hp hS q => ?_⟩)
  obtain ⟨p, rows, steps, firsts⟩ := t
  dsimp only at hp q
  show Nx W _ ⟨[eR rI p, eR (rL (rL (rT rI))) rows, eR (rT (rT (rT rI))) steps, eR (rT rI) firsts, eAny, eAny, eAny, eAny, eAny, eAny, eAny, eAny, eAny, eAny, eAny, eAny, eAny, eAny, eAny], []⟩

  have hpm := hp.pm
  have p0 := hpm.pos
  have p5 := hpm.le
  have hnr := hp.nr
  have m5 := hp.m5
  obtain ⟨R, inst, h, F, hSys, hNt⟩ := hp.sys
  have hsp' : steps.length ≤ p.toNat := hp.sp
  refine s_asg (r := rN) (x := 2) (fun e => ev_nI' (i := 2) ev_i rfl) ?_
  refine s_fold (fun e => (ei_l (lk e 1 rfl))) (fun k W => 2 ≤ W ∧ W ≤ 5000 ∧ ∀ i, i < k → ∀ row, rows[i]? = some row → ∀ g ∈ row, g.length ≤ W) (fun W => ⟨[eR rI p, eR (rL (rL (rT rI))) rows, eR (rT (rT (rT rI))) steps, eR (rT rI) firsts, eR rN W, eAny, eAny, eAny, eAny, eAny, eAny, eAny, eAny, eAny, eAny, eAny, eAny, eAny, eAny], []⟩) (fun W row => mx W row) 2 (fun x => [(5, eR (rL (rT rI)) x)]) ⟨by repeat' (first | exact SubE.nil | apply SubE.any | apply SubE.same), List.Sublist.refl _⟩ ⟨by omega, by omega, fun i hi => absurd hi (Nat.not_lt_zero _)⟩ (fun x hx => (tg_n 5)) (by simp) ?_ ?_
  · intro W' f1 f2 f3 k Wd row hrow ⟨w1, w2, w3⟩
    have hm := List.mem_of_getElem? hrow
    obtain ⟨hl, hr⟩ := hp.row row hm
    obtain ⟨x1, x2, x3⟩ := mx_ok row Wd
    have x4 : mx Wd row ≤ 5000 := by
      rcases x1 with x1 | ⟨g, hg, x1⟩
      · omega
      · have := (hr g hg).1
        omega
    refine ⟨⟨by omega, x4, fun i hi row' hr' g hg => ?_⟩, ?_⟩
    · by_cases e : i = k
      · subst e
        rw [hrow] at hr'
        rw [← Option.some.inj hr'] at hg
        exact x3 g hg
      · have := w3 i (by omega) row' hr' g hg
        omega
    refine nx_asg (r := rN) (x := mx Wd row) (fun e => ev_nI' (ev_max (ev_cat (ev_lst (el_c (ev_nI (lk e 4 rfl)) el_n) (by simp)) (ev_LN (en_lc1 e (ei_l (lk e 5 rfl)) ?_ (fun x => [(10, eR (rT rI) x)]) (fun x hx => (tg_n 10)) (by simp) (fun x hx σ2 G2 H2 e2 => (ev_lenN (lk e2 10 rfl)))).ev) ?_) ?_ ?_) rfl) (nx_end ⟨by repeat' (first | exact SubE.nil | apply SubE.any | apply SubE.same), List.Sublist.refl _⟩)
    · omega
    · simp only [List.length_map, List.length_singleton]; omega
    · rw [List.map_map]
      rcases x1 with x1 | ⟨g, hg, x1⟩
      · rw [x1]; exact List.mem_append_left _ (List.mem_singleton.mpr rfl)
      · rw [← x1]; exact List.mem_append_right _ (List.mem_map.mpr ⟨g, hg, rfl⟩)
    · intro n hn
      rw [List.map_map] at hn
      rcases List.mem_append.mp hn with hn | hn
      · rw [List.mem_singleton.mp hn]; omega
      · obtain ⟨g, hg, rfl⟩ := List.mem_map.mp hn
        have := x3 g hg
        show ((g.length : Nat) : Int) ≤ _
        omega
  · intro ⟨w1, w2, w3⟩
    generalize rows.foldl (fun W row => mx W row) 2 = Wd at w1 w2 w3 ⊢
    have wide : ∀ row ∈ rows, ∀ g ∈ row, g.length ≤ Wd := fun row hr g hg => by
      obtain ⟨i, hi⟩ := List.mem_iff_getElem?.mp hr
      exact w3 i (List.getElem?_eq_some_iff.mp hi).1 row hi g hg
    have V1 : firsts.length * Wd ≤ 5 * 5000 := Nat.mul_le_mul m5 w2
    refine s_own (r := rPr rN (rL rI)) (fun e => (en_lst el_n (by simp))) fun a => ?_
    refine s_own (xs := rows) (fun e => EvN.is (en_lc1 e (ei_l (lk e 1 rfl)) ?_ (fun x => [(5, eR (rL (rT rI)) x)]) (fun x hx => (tg_n 5)) (by simp) (fun x hx σ2 G2 H2 e2 => (ev_list (lk e2 5 rfl)))) (by rw [List.map_id'])) fun b => ?_
    · omega
    refine s_asg (r := rN) (x := 0) (fun e => ev_nI' (i := 0) ev_i rfl) ?_
    refine s_whileE (δ := Rows × Nat × List (Nat × List Int)) (fun s => ⟨[eR rI p, eR (rL (rL (rT rI))) rows, eR (rT (rT (rT rI))) steps, eR (rT rI) firsts, eR rN Wd, eAny, eR rA a, eR rA b, eR rN s.2.1, eAny, eAny, eAny, eAny, eAny, eAny, eAny, eAny, eAny, eAny], [oL b (rL (rT rI)) s.1, oL a (rPr rN (rL rI)) s.2.2]⟩) (NtI h F firsts.length Wd) (fun s => (firsts.length * Wd - s.2.2.length) * 6 + (s.1.length - s.2.1)) (fun s => decide (s.2.1 < s.1.length)) (rows, 0, []) ⟨by repeat' (first | exact SubE.nil | apply SubE.any | apply SubE.same), List.Sublist.refl _⟩ ⟨Nat.zero_le _, fun row hr => ⟨(hp.row row hr).1, fun g hg => ⟨wide row hr g hg, ((hp.row row hr).2 g hg).2⟩, hNt row hr⟩, .nil, by show rows.length ≤ 32 + 5 * 0; omega⟩ (fun s hi {σ G H} e => (et_t (ev_ltN (lk e 8 rfl) (ev_lenN (lkO e 7 0 rfl rfl))))) ?_ ?_
    · intro W' f1 f2 f3 s hi hb
      obtain ⟨wt, at_, lines⟩ := s
      have hb : at_ < wt.length := of_decide_eq_true hb
      have few : wt.length ≤ 32 + 5 * lines.length := hi.few
      have lln := hi.lines.len
      have hll : lines.length ≤ firsts.length * Wd := lln
      obtain ⟨r1, r2, r3⟩ := hi.row (wt.getD at_ []) (getD_mem hb)
      refine s_asg (x := wt.getD at_ []) (fun e => (ev_gLn (d := []) (lkO e 7 0 rfl rfl) (lk e 8 rfl) ?_)) ?_
      · exact hb
      generalize wt.getD at_ [] = row at r1 r2 r3 ⊢
      refine s_asg (r := rN) (x := at_ + 1) (fun e => (ev_addN (lk e 8 rfl) (ev_litN 1))) ?_
      refine s_own (r := rI) (fun e => (en_lst el_n (by simp))) fun c => ?_
      refine s_fold (fun e => (ei_l (lk e 5 rfl))) (fun k v => v = flat Wd (row.take k)) (fun v => ⟨[eR rI p, eR (rL (rL (rT rI))) rows, eR (rT (rT (rT rI))) steps, eR (rT rI) firsts, eR rN Wd, eR (rL (rT rI)) row, eR rA a, eR rA b, eR rN (at_ + 1), eR rA c, eAny, eAny, eAny, eAny, eAny, eAny, eAny, eAny, eAny], [oL c rI v, oL b (rL (rT rI)) wt, oL a (rPr rN (rL rI)) lines]⟩) (fun v poly => v ++ (poly ++ List.replicate (Wd - poly.length) 0)) [] (fun x => [(10, eR (rT rI) x)]) ⟨by repeat' (first | exact SubE.nil | apply SubE.any | apply SubE.same), List.Sublist.refl _⟩ rfl (fun x hx => (tg_n 10)) (by simp) ?_ ?_
      · intro W2 g1 g2 g3 k v poly hpoly hv
        have hg := r2 poly (List.mem_of_getElem? hpoly)
        refine ⟨by rw [List.take_add_one, hpoly, hv]; unfold flat; rw [List.flatMap_append]; simp, ?_⟩
        have lv : v.length ≤ 25000 := by
          rw [hv, flat_len fun g hg => (r2 g (List.mem_of_mem_take hg)).1]
          refine Nat.le_trans (Nat.mul_le_mul ?_ w2) (show 5 * 5000 ≤ 25000 by decide)
          rw [List.length_take]
          omega
        refine nx_ext 0 (fun e => lk e 9 rfl) (fun e => EvR.is (ev_cat (ev_list (lk e 10 rfl)) (en_rep (ev_lst (el_c ev_i el_n) (by simp)) (ev_sub (ev_nI (lk e 4 rfl)) (ev_nI (ev_lenN (lk e 10 rfl)))) ?_ ?_).ev ?_) (by rw [show (((Wd : Nat) : Int) - ((poly.length : Nat) : Int)).toNat = Wd - poly.length by omega])) rfl ?_ (fun z => nomatch z) (nx_end ⟨by repeat' (first | exact SubE.nil | apply SubE.any | apply SubE.same), List.Sublist.refl _⟩)
        · omega
        · omega
        · rw [List.length_replicate]; omega
        · rw [List.length_append, List.length_replicate]; omega
      · intro hv
        rw [hv, List.take_length]
        have fl : (flat Wd row).length = firsts.length * Wd := by rw [flat_len fun g hg => (r2 g hg).1, r1]
        have fn : Nm p (flat Wd row) := flat_nm p0 fun g hg => (r2 g hg).2
        generalize flat Wd row = v at fl fn ⊢
        refine nx_keep 9 0 rfl rfl ?_
        refine s_asg (x := leftL p lines v) (fun e => (ev__law_left (ea_c (lk e 0 rfl) (ea_c (lkO e 6 1 rfl rfl) (ea_c (lk e 9 rfl) ea_n))) ?_)) ?_
        · exact ⟨hpm, by omega, fun q hq => by have := hi.lines.wf q hq; rw [fl]; exact this⟩
        obtain ⟨l1, l2, l3⟩ := leftL_ok p0 hi.lines fl fn
        generalize leftL p lines v = l at l1 l2 l3 ⊢
        refine s_asg (x := (List.range l.length).filter fun k => !decide (l.getD k 0 = 0)) (fun e => EvR.is (en_lc e (ei_r1 (ev_nI (ev_lenN (lk e 11 rfl))) ?_ ?_) ?_ (fun x => [(15, eR rN x)]) (fun x hx => (tg_n 15)) (by simp) (fun x hx σ2 G2 H2 e2 => (et_t (ev_neI (ev_gLn (d := 0) (lk e2 11 rfl) (lk e2 15 rfl) ?_) ev_i))) (fun x hx hk σ2 G2 H2 e2 => (lk e2 15 rfl))).ev (by rw [List.map_id', Int.toNat_natCast])) ?_
        · omega
        · omega
        · rw [List.length_range]; omega
        · rw [List.mem_range] at hx; omega
        generalize hld : (List.range l.length).filter (fun k => !decide (l.getD k 0 = 0)) = leads
        have lin : ∀ k ∈ leads, k < l.length ∧ l.getD k 0 ≠ 0 := fun k hk => by
          rw [← hld, List.mem_filter, List.mem_range] at hk
          simpa using hk
        refine nx_if (fun e => (et_t (ev_neUL (ev_LN (lk e 12 rfl))))) (fun hc => ?_) (fun hc => ?_)
        · have hpos : 0 < leads.length := by
            cases leads with
            | nil => simp at hc
            | cons a b => simp
          obtain ⟨t1, t2⟩ := lin _ (getD_mem (d := 0) hpos)
          have lb := l2.getD p0 (leads.getD 0 0)
          refine s_asg (x := back p (l.getD (leads.getD 0 0) 0)) (fun e => (ev__law_back (ea_c (lk e 0 rfl) (ea_c (ev_gLn (d := 0) (lk e 11 rfl) (ev_gLn (d := 0) (lk e 12 rfl) (ev_litN 0) ?_) ?_) ea_n)) ?_)) ?_
          · exact hpos
          · exact t1
          · exact ⟨hpm, lb.1, lb.2, t2⟩
          have nl := hi.lines.snoc hpm l1 l2 l3 (by omega) t2
          have nll := nl.len
          rw [List.length_append, List.length_singleton] at nll
          refine s_app 1 (x := (leads.getD 0 0, l.map fun n => n * (back p (l.getD (leads.getD 0 0) 0) : Int) % p)) (fun e => lk e 6 rfl) (fun e => (ev_pr (ev_gLn (d := 0) (lk e 12 rfl) (ev_litN 0) ?_) (en_lc1 e (ei_l (lk e 11 rfl)) ?_ (fun x => [(17, eR rI x)]) (fun x hx => (tg_n 17)) (by simp) (fun x hx σ2 G2 H2 e2 => (ev_mod (ev_mul (lk e2 17 rfl) (ev_nI (lk e2 13 rfl)) ?_) (lk e2 0 rfl) ?_))).ev)) rfl ?_ (fun z => nomatch z) ?_
          · exact hpos
          · omega
          · exact mulOkL hpm (l2 x hx)
          · exact p0
          · show lines.length < 200000; omega
          have sum0 := nought_sum h p0 hSys r1 r3
          refine s_if (fun e => (et_t (ev_neI (ev_mod (ev_sum (en_lc e (ei_z (lk e 5 rfl) (lk e 3 rfl)) ?_ (fun x => [(10, eR (rT rI) x.1), (18, eR rI x.2)]) (fun x hx => (tg_u (tga_c (tga_c tga_n)) (by rfl))) (by simp) (fun x hx σ2 G2 H2 e2 => (et_t (ev_neU (lk e2 10 rfl)))) (fun x hx hk σ2 G2 H2 e2 => (ev_mul (ev_gTn (d := 0) (lk e2 10 rfl) (ev_litN 0) ?_) (lk e2 18 rfl) ?_))).ev) (lk e 0 rfl) ?_) ev_i))) (fun hb2 => ?_) (fun hb2 => ?_)
          · rw [List.length_zip]; omega
          · cases h1 : x.1 with
            | nil => rw [h1] at hk; simp at hk
            | cons a b => simp
          · exact mulOkL hpm ((r2 _ (List.of_mem_zip hx).1).2.getD p0 0)
          · exact p0
          · exfalso
            rw [sum0] at hb2
            simp at hb2
          refine nx_next ?_
          have hst := hp.st
          have hns := hp.ns
          refine s_asg (x := woven p row steps) (fun e => (ev__law_woven (ea_c (lk e 0 rfl) (ea_c (lk e 5 rfl) (ea_c (lk e 2 rfl) ea_n))) ?_)) ?_
          · exact ⟨hpm, by omega, hns, fun s hs => by rw [r1]; exact hst s hs, fun g hg => by have := (r2 g hg).1; omega⟩
          have wl := (woven_ser h (steps := steps) (row := row)).1
          have p2n : p.toNat ≤ 5 := by omega
          have wlens := woven_lens hpm (steps := steps) hsp' r2
          refine nx_ext 0 (ys := (List.range p.toNat).map fun r => partRow p (woven p row steps) r) (fun e => lk e 7 rfl) (fun e => (en_lc1 e (ei_r1 (lk e 0 rfl) ?_ ?_) ?_ (fun x => [(16, eR rN x)]) (fun x hx => (tg_n 16)) (by simp) (fun x hx σ2 G2 H2 e2 => (ev__law_part (ea_c (lk e2 0 rfl) (ea_c (lk e2 14 rfl) (ea_c (lk e2 16 rfl) ea_n))) ?_))).ev) rfl ?_ (fun z => nomatch z) (nx_endW (wt ++ (List.range p.toNat).map (fun r => partRow p (woven p row steps) r), at_ + 1, lines ++ [(leads.getD 0 0, l.map fun n => n * (back p (l.getD (leads.getD 0 0) 0) : Int) % p)]) ⟨by repeat' (first | exact SubE.nil | apply SubE.any | apply SubE.same), List.Sublist.refl _⟩ ⟨?_, ?_, nl, ?_⟩ ?_)
          · omega
          · omega
          · rw [List.length_range]; omega
          · exact ⟨hpm, by omega, fun g hg => by have := (wlens g hg).1; omega⟩
          · rw [List.length_map, List.length_range]; omega
          · show at_ + 1 ≤ (wt ++ _).length
            rw [List.length_append]; omega
          · intro row' hr'
            rcases List.mem_append.mp hr' with hr' | hr'
            · exact hi.row row' hr'
            · obtain ⟨r, hr, rfl⟩ := List.mem_map.mp hr'
              rw [List.mem_range] at hr
              refine ⟨by unfold partRow; rw [List.length_map]; omega, fun g hg => ?_, nt_parts h p0 hSys r1 r3 hr⟩
              obtain ⟨u, hu, rfl⟩ := List.mem_map.mp hg
              have := wlens u hu
              exact ⟨part_short hpm w1 this.1 r, part_nm this.2 r⟩
          · show (wt ++ _).length ≤ 32 + 5 * (lines ++ _).length
            rw [List.length_append, List.length_append, List.length_map, List.length_range, List.length_singleton]
            omega
          · have key : ∀ V L Wl A P : Nat, L + 1 ≤ V → A < Wl → P ≤ 5 → (V - (L + 1)) * 6 + (Wl + P - (A + 1)) < (V - L) * 6 + (Wl - A) := by intros; omega
            have q := key (firsts.length * Wd) lines.length wt.length at_ p.toNat nll hb p2n
            have g1 : (lines ++ [(leads.getD 0 0, l.map fun n => n * (back p (l.getD (leads.getD 0 0) 0) : Int) % p)]).length = lines.length + 1 := by rw [List.length_append, List.length_singleton]
            have g2 : (wt ++ (List.range p.toNat).map (fun r => partRow p (woven p row steps) r)).length = wt.length + p.toNat := by rw [List.length_append, List.length_map, List.length_range]
            rw [← g1, ← g2] at q
            exact q
        · refine nx_next ?_
          refine nx_endW (wt, at_ + 1, lines) ⟨by repeat' (first | exact SubE.nil | apply SubE.any | apply SubE.same), List.Sublist.refl _⟩ ⟨hb, hi.row, hi.lines, hi.few⟩ ?_
          show (firsts.length * Wd - lines.length) * 6 + (wt.length - (at_ + 1)) < (firsts.length * Wd - lines.length) * 6 + (wt.length - at_)
          omega
    · intro s hi hb
      exact nx_retP hS q (fun e => ev_b)

end
end Dg
end
section
set_option Elab.async false
set_option linter.all false
set_option maxRecDepth 100000
set_option maxHeartbeats 4000000
/-! The law's last check. -/
namespace Dg
open PySem PySem.Spec PyProof.Rows L2

abbrev sp__law_fulfils : Sp := spF (ι := ((Int) × (List (Int)) × (List (List (List (Int)))) × (List (Int))) × (List (List (Int)))) (fun t => (aC (rQd rI (rT rI) (rT (rT (rT rI))) (rT rI)) t.1 (aC (rT (rT rI)) t.2 aN))) (fun t => (fun (_law_table : (Int) × (List (Int)) × (List (List (List (Int)))) × (List (Int))) (_law_powers : List (List (Int))) => Fulf _law_table.1 _law_table.2.1 _law_table.2.2.1 _law_table.2.2.2 _law_powers) (t.1) (t.2)) rB (fun t => (fun (_law_table : (Int) × (List (Int)) × (List (List (List (Int)))) × (List (Int))) (_law_powers : List (List (Int))) => true) (t.1) (t.2))
theorem ev__law_fulfils {σ : L2.St} {G H : Hp} {ta : TA} {E : XK} {_law_table : (Int) × (List (Int)) × (List (List (List (Int)))) × (List (Int))} {_law_powers : List (List (Int))} (ha : EvA ta σ G H (aC (rQd rI (rT rI) (rT (rT (rT rI))) (rT rI)) _law_table (aC (rT (rT rI)) _law_powers aN))) (hp : Fulf _law_table.1 _law_table.2.1 _law_table.2.2.1 _law_table.2.2.2 _law_powers) : EvR (tCall sp__law_fulfils [] E ta) σ G H rB (true) := ev_call (_law_table, _law_powers) ha hp
section
variable {P : Program} {w : World} {K : PySem.W.Frag} {mg : Str → Option Value} {base : Heap}


theorem sc__law_fulfils : FnScope ["_law_table", "_law_powers", "_law_p", "_law_begin", "_law_steps", "_law_firsts", "_law_row", "_law_last", "_law_rows", "_law_parts", "_law_one", "_law_r"] ["_law_table", "_law_powers"] (defScope (top 47)) := ⟨rfl, rfl, rfl, by decide +kernel, rfl, by decide +kernel, by decide +kernel⟩
theorem b__law_fulfils (h : Hd K mg) : Binds K h.fd__law_fulfils ["_law_table", "_law_powers"] [] := h.F__law_fulfils.bindsN fun _ _ _ _ _ _ us hl => match us, hl with | [_, _], _ => rfl
theorem ok__law_fulfils (h : Hd K mg) : FnOk P w K mg base CX0 5 h.f__law_fulfils h.fd__law_fulfils ["_law_table", "_law_powers"] sp__law_fulfils := by
  have nd := sc__law_fulfils.nd
  refine h.F__law_fulfils.ok sc__law_fulfils (len_spF fun _ _ _ _ h => (ArgsE.sl h).1) (fun cdv A outer s H vs Q E hr hsp => ⟨_, PSs.nox
    (pss_cons (ps_asg (pv 0) (k_tup (K := K) (n := 4) rfl rfl (pgs_cons (pg_name (i := 2) nd rfl (by first | exact .inl rfl | exact .inr rfl)) (pgs_cons (pg_name (i := 3) nd rfl (by first | exact .inl rfl | exact .inr rfl)) (pgs_cons (pg_name (i := 4) nd rfl (by first | exact .inl rfl | exact .inr rfl)) (pgs_cons (pg_name (i := 5) nd rfl (by first | exact .inl rfl | exact .inr rfl)) pgs_nil))))))
    (pss_cons (ps_asg (pe_call (ok__law_sum_row h) (hr.mono (by decide)) rfl h.g__law_sum_row h.F__law_sum_row.kp (b__law_sum_row h) .nil pass0 (pa_cons (pv 0) (pa_cons (pv 1) pa_nil))) (k_tup (K := K) (n := 2) rfl rfl (pgs_cons (pg_name (i := 6) nd rfl (by first | exact .inl rfl | exact .inr rfl)) (pgs_cons (pg_name (i := 7) nd rfl (by first | exact .inl rfl | exact .inr rfl)) pgs_nil))))
    (pss_cons (ps_set (i := 8) nd rfl (by first | exact .inl rfl | exact .inr rfl) (pe_lst (pa_cons (pv 6) pa_nil)))
    (pss_cons (ps_while PassesOwn.never (pt_cmpR op_gt (pv 7) pe_int (nomark _)) (pss_cons (ps_set (i := 9) nd rfl (by first | exact .inl rfl | exact .inr rfl) (pe_lst pa_nil))
    (pss_cons (ps_for PassesOwn.never rfl (k_piL (K := K) rfl (pv 8)) (pg_name (i := 10) nd rfl (by first | exact .inl rfl | exact .inr rfl)) (pss_one (ps_expr (pe_bm PySem.F.plainAttrs_list PySem.F.slot_list_extend PySem.F.type_list_extend mt_extend (pv 9) (pa_cons (pe_lc rfl nd (pi_range1 rfl h.b_range (pa_cons (pv 2) pa_nil)) (blkOk_by (own := [("_law_r", 11)]) (by kernel_rfl)) (fun _ _ _ _ _ => (by exact (pg_name (i := 11) nd rfl (by first | exact .inl rfl | exact .inr rfl)))) (fun _ _ _ _ _ => pts_nil) (fun _ _ _ _ _ => (pe_call (ok__law_part h) (hr.mono (by decide)) rfl h.g__law_part h.F__law_part.kp (b__law_part h) .nil pass0 (pa_cons (pv 2) (pa_cons (pv 10) (pa_cons (pv 11) pa_nil)))))) pa_nil)))))
    (pss_cons (ps_set (i := 8) nd rfl (by first | exact .inl rfl | exact .inr rfl) (pv 9))
    (pss_one (ps_set (i := 7) nd rfl (by first | exact .inl rfl | exact .inr rfl) (pe_op op_fdiv (pv 7) (pv 2))))))))
    (pss_one (ps_ret (pe_call (ok__law_is_nought h) (hr.mono (by decide)) rfl h.g__law_is_nought h.F__law_is_nought.kp (b__law_is_nought h) .nil pass0 (pa_cons (pv 2) (pa_cons (pv 8) (pa_cons (pv 4) (pa_cons (pv 5) pa_nil))))))))))), pure_run hsp fun t W D hp hS q => ?_⟩)
  obtain ⟨table, powers⟩ := t
  dsimp only at hp q
  show Nx W _ ⟨[eR (rQd rI (rT rI) (rT (rT (rT rI))) (rT rI)) table, eR (rT (rT rI)) powers, eAny, eAny, eAny, eAny, eAny, eAny, eAny, eAny, eAny, eAny], []⟩

  obtain ⟨p, begin, steps, firsts⟩ := table
  dsimp only at hp q
  have T := hp.tb
  have hpm := T.pm
  have p0 := hpm.pos
  have p2 := hpm.two
  have p5 := hpm.le
  have m5 := hp.m5
  have pw := hp.pw
  have pt : (p.toNat : Int) = p := by omega
  obtain ⟨R, inst, h, F, hSys, hz⟩ := hp.sys
  obtain ⟨sl, se⟩ := sumRow_ser h T hSys hp.l0
  have spo := sumRow_po T hp.l6 pw hp.po
  have snt : Nt h (fun j => sprN p.toNat (powers.length - 1) (F j)) firsts.length (sumRow p begin steps firsts.length powers) := se.trans hz
  refine s_tup (fun e => (lk e 0 rfl)) (tg_u (tga_c (tga_c (tga_c (tga_c tga_n)))) (by rfl)) ?_
  refine s_tup (fun e => (ev__law_sum_row (ea_c (lk e 0 rfl) (ea_c (lk e 1 rfl) ea_n)) ?_)) (tg_u (tga_c (tga_c tga_n)) (by rfl)) ?_
  · exact ⟨T, hp.l0, hp.l6, pw, hp.po.mono (by omega)⟩
  dsimp only
  generalize sumRow p begin steps firsts.length powers = row at sl spo snt ⊢
  refine s_asg (x := [row]) (fun e => (ev_lst (el_c (lk e 6 rfl) el_n) (by simp))) ?_
  refine s_whileE (δ := Rows × Nat) (fun s => ⟨[eR (rQd rI (rT rI) (rT (rT (rT rI))) (rT rI)) (p, begin, steps, firsts), eR (rT (rT rI)) powers, eR rI p, eR (rT rI) begin, eR (rT (rT (rT rI))) steps, eR (rT rI) firsts, eAny, eR rI ((p.toNat ^ s.2 : Nat) : Int), eR (rL (rL (rT rI))) s.1, eAny, eAny, eAny], []⟩) (fun s => s.2 ≤ powers.length - 1 ∧ s.1.length * p.toNat ^ s.2 ≤ 32 ∧ ∀ row ∈ s.1, row.length = firsts.length ∧ Po p 5000 row ∧ Nt h (fun j => sprN p.toNat s.2 (F j)) firsts.length row) (fun s => s.2) (fun s => decide (1 < ((p.toNat ^ s.2 : Nat) : Int))) ([row], powers.length - 1) ⟨by repeat' (first | exact SubE.nil | apply SubE.any | apply SubE.same), List.Sublist.refl _⟩ ⟨Nat.le_refl _, by show 1 * p.toNat ^ (powers.length - 1) ≤ 32; omega, fun r hr => by rw [List.mem_singleton.mp hr]; exact ⟨sl, spo, snt⟩⟩ (fun s hi {σ G H} e => (et_t (ev_gt (lk e 7 rfl) ev_i))) ?_ ?_
  · intro W' f1 f2 f3 s ⟨k1, k2, k3⟩ hb
    obtain ⟨rows, k⟩ := s
    dsimp only at k1 k2 k3
    have hb : 1 < ((p.toNat ^ k : Nat) : Int) := of_decide_eq_true hb
    obtain ⟨k', rfl⟩ : ∃ k', k = k' + 1 := ⟨k - 1, by
      rcases Nat.eq_zero_or_pos k with z | z
      · subst z
        simp at hb
      · omega⟩
    have e32 : rows.length * p.toNat * p.toNat ^ k' ≤ 32 := by
      rw [Nat.pow_succ, Nat.mul_comm (p.toNat ^ k') p.toNat, ← Nat.mul_assoc] at k2
      exact k2
    have pos : 1 ≤ p.toNat ^ k' := Nat.pow_pos (by omega)
    have l32 : rows.length * p.toNat ≤ 32 := Nat.le_trans (Nat.le_mul_of_pos_right _ pos) e32
    have rl : rows.length ≤ 32 := Nat.le_trans (Nat.le_mul_of_pos_right _ (by omega)) l32
    have plen : ∀ n, ((rows.take n).flatMap fun one => (List.range p.toNat).map fun r => partRow p one r).length ≤ 32 := fun n => by
      have q : ∀ l : Rows, (l.flatMap fun one => (List.range p.toNat).map fun r => partRow p one r).length = l.length * p.toNat := by
        intro l
        induction l with
        | nil => simp
        | cons a l ih => rw [List.flatMap_cons, List.length_append, ih, List.length_map, List.length_range, List.length_cons, Nat.succ_mul]; omega
      rw [q]
      refine Nat.le_trans (Nat.mul_le_mul_right _ ?_) l32
      rw [List.length_take]
      omega
    refine s_own (r := rL (rT rI)) (fun e => (en_lst el_n (by simp))) fun a => ?_
    refine s_fold (fun e => (ei_l (lk e 8 rfl))) (fun n acc => acc = (rows.take n).flatMap fun one => (List.range p.toNat).map fun r => partRow p one r) (fun acc => ⟨[eR (rQd rI (rT rI) (rT (rT (rT rI))) (rT rI)) (p, begin, steps, firsts), eR (rT (rT rI)) powers, eR rI p, eR (rT rI) begin, eR (rT (rT (rT rI))) steps, eR (rT rI) firsts, eAny, eR rI ((p.toNat ^ (k' + 1) : Nat) : Int), eR (rL (rL (rT rI))) rows, eR rA a, eAny, eAny], [oL a (rL (rT rI)) acc]⟩) (fun acc one => acc ++ (List.range p.toNat).map fun r => partRow p one r) [] (fun x => [(10, eR (rL (rT rI)) x)]) ⟨by repeat' (first | exact SubE.nil | apply SubE.any | apply SubE.same), List.Sublist.refl _⟩ rfl (fun x hx => (tg_n 10)) (by simp) ?_ ?_
    · intro W2 g1 g2 g3 n acc one hone hacc
      obtain ⟨o1, o2, _⟩ := k3 one (List.mem_of_getElem? hone)
      refine ⟨by rw [List.take_add_one, hone, List.flatMap_append, hacc]; simp, ?_⟩
      have := plen n
      rw [← hacc] at this
      refine nx_ext 0 (fun e => lk e 9 rfl) (fun e => (en_lc1 e (ei_r1 (lk e 2 rfl) ?_ ?_) ?_ (fun x => [(11, eR rN x)]) (fun x hx => (tg_n 11)) (by simp) (fun x hx σ2 G2 H2 e2 => (ev__law_part (ea_c (lk e2 2 rfl) (ea_c (lk e2 10 rfl) (ea_c (lk e2 11 rfl) ea_n))) ?_))).ev) rfl ?_ (fun z => nomatch z) (nx_end ⟨by repeat' (first | exact SubE.nil | apply SubE.any | apply SubE.same), List.Sublist.refl _⟩)
      · omega
      · omega
      · rw [List.length_range]; omega
      · exact ⟨hpm, by omega, fun g hg => by have := (o2 g hg).1; omega⟩
      · rw [List.length_map, List.length_range]; omega
    · intro hacc
      rw [hacc, List.take_length]
      have pl := plen rows.length
      rw [List.take_length] at pl
      have pl2 : (rows.flatMap fun one => (List.range p.toNat).map fun r => partRow p one r).length = rows.length * p.toNat := by
        clear k3 k2 plen hacc
        induction rows with
        | nil => simp
        | cons a l ih =>
          have l1 : l.length * p.toNat ≤ (a :: l).length * p.toNat := Nat.mul_le_mul_right _ (by simp)
          rw [List.flatMap_cons, List.length_append, List.length_map, List.length_range, List.length_cons, Nat.succ_mul]
          have q : ∀ l : Rows, (l.flatMap fun one => (List.range p.toNat).map fun r => partRow p one r).length = l.length * p.toNat := by
            intro l
            induction l with
            | nil => simp
            | cons a l ih => rw [List.flatMap_cons, List.length_append, ih, List.length_map, List.length_range, List.length_cons, Nat.succ_mul]; omega
          rw [q]
          omega
      have np : ∀ r ∈ rows.flatMap (fun one => (List.range p.toNat).map fun r => partRow p one r), r.length = firsts.length ∧ Po p 5000 r ∧ Nt h (fun j => sprN p.toNat k' (F j)) firsts.length r := fun r hr => by
        obtain ⟨one, hone, hr⟩ := List.mem_flatMap.mp hr
        obtain ⟨i, hi, rfl⟩ := List.mem_map.mp hr
        rw [List.mem_range] at hi
        obtain ⟨o1, o2, o3⟩ := k3 one hone
        refine ⟨by unfold partRow; rw [List.length_map]; exact o1, fun g hg => ?_, nt_part h p0 o1 o3 hi⟩
        obtain ⟨u, hu, rfl⟩ := List.mem_map.mp hg
        exact ⟨Nat.le_trans (part_len _ _ _) (o2 u hu).1, part_nm (o2 u hu).2 i⟩
      generalize rows.flatMap (fun one => (List.range p.toNat).map fun r => partRow p one r) = parts at pl pl2 np ⊢
      refine nx_keep 9 0 rfl rfl ?_
      refine s_asg (x := parts) (fun e => lk e 9 rfl) ?_
      refine nx_asg (x := ((p.toNat ^ k' : Nat) : Int)) (fun e => EvR.is (ev_div (lk e 7 rfl) (lk e 2 rfl) ?_) ?_) (nx_endW (parts, k') ⟨by repeat' (first | exact SubE.nil | apply SubE.any | apply SubE.same), List.Sublist.refl _⟩ ⟨by omega, by show parts.length * _ ≤ 32; rw [pl2]; exact e32, np⟩ (show k' < k' + 1 by omega))
      · exact ⟨p0, by omega⟩
      · rw [Nat.pow_succ, Int.natCast_mul, pt]
        exact Int.mul_ediv_cancel _ (by omega)
  · intro s ⟨k1, k2, k3⟩ hb
    obtain ⟨rows, k⟩ := s
    dsimp only at k1 k2 k3
    have hb : ¬ 1 < ((p.toNat ^ k : Nat) : Int) := of_decide_eq_false hb
    have k0 : k = 0 := by
      rcases Nat.eq_zero_or_pos k with z | z
      · exact z
      · have : 1 < p.toNat ^ k := Nat.one_lt_pow (by omega) (by omega)
        omega
    subst k0
    rw [Nat.pow_zero, Nat.mul_one] at k2
    refine nx_retP hS q (fun e => (ev__law_is_nought (ea_c (lk e 2 rfl) (ea_c (lk e 8 rfl) (ea_c (lk e 4 rfl) (ea_c (lk e 5 rfl) ea_n)))) ?_))
    exact ⟨hpm, m5, k2, by rw [T.np]; omega, by rw [T.np]; exact Nat.le_refl _, fun s hs => ⟨T.st s hs, T.rw s hs⟩, fun row hr => ⟨(k3 row hr).1, (k3 row hr).2.1⟩, R, inst, h, F, hSys, fun row hr => (k3 row hr).2.2⟩

end
end Dg
end
section
set_option Elab.async false
set_option linter.all false
set_option maxRecDepth 100000
set_option maxHeartbeats 4000000
/-! An object of one's own: its fields. -/
namespace Dg
open PySem PySem.Spec PyProof.Rows L2
/-- an instance of the class at C with the fields fs -/
def oI (s C : Addr) (fs : List (Str × V)) (k : Kd := .new) : Own := ⟨s, k, fun _ o => ∃ dx, o = .ins C dx fs, fun h _ => h⟩
abbrev fsOf (p : Int) (n : Nat) (b : Addr) : List (Str × V) := [("prime", .int p), ("many", .int (n : Int)), ("lines", .ref b)]
section
variable {K : PySem.W.Frag} {G H G' H' G1 H1 : Hp} {σ : L2.St} {Γ Γ' : Ct} {α β δ ι : Type} {r r0 : Rl α} {r' : Rl β} {x : α} {y : β} {xs ys : List α} {te ta tb to : TE} {tA : TA} {W : Wd} {N : L2.St → Hp → Prop} {D : Ends} {U : TS} {s C b : Addr} {f : Str} {fs : List (Str × V)} {kd : Kd}
theorem Eo.ins (e : Eo G H σ Γ) {j : Nat} (hj : Γ.ow[j]? = some (oI s C fs kd)) : ∃ dx, H s = some (.ins C dx fs) := by
  obtain ⟨h, h1, _, dx, h3⟩ := e.ow _ (List.mem_of_getElem? hj)
  rw [h3] at h1
  exact ⟨dx, h1⟩
/-- o.f -/
theorem ev_fld (e : Eo G H σ Γ) (j : Nat) {v : V} (ho : EvR to σ G H rA s) (hj : Γ.ow[j]? = some (oI s C fs kd)) (c : Cls K C) (na : NoAttr K C f) (hl : fs.lookup f = some v) (hr : ∀ G H, r G H v x) : EvR (tFld K to f) σ G H r x := fun G1 H1 z Q q =>
  ho G1 H1 z _ fun u G2 H2 z2 eu => by
    obtain ⟨dx, hd⟩ := ((e.mono z).mono z2).ins hj
    exact ⟨s, C, dx, fs, v, eu, hd, c, na, hl, q v G2 H2 z2 (hr _ _)⟩
/-- a list of one's own, found by its address -/
theorem ev_at [Go r] (e : Eo G H σ Γ) (j : Nat) (ho : EvR to σ G H rA b) (hj : Γ.ow[j]? = some (oL b r xs kd)) : EvR to σ G H (rR r) xs := fun G1 H1 z Q q =>
  ho G1 H1 z _ fun u G2 H2 z2 eu => by
    obtain ⟨h, h1, _, vs, h3, h4⟩ := ((e.mono z).mono z2).ow _ (List.mem_of_getElem? hj)
    rw [h3] at h1
    exact q u G2 H2 z2 ⟨b, vs, eu, h1, h4.imp fun _ _ w => Go.go w⟩
theorem ev_gO {c : Addr} {ns : List Int} (e : Eo G H σ Γ) (j : Nat) {k : Nat} (ho : EvR to σ G H rA c) (hi : EvR tb σ G H rN k) (hj : Γ.ow[j]? = some (oL c rI ns kd)) (h1 : k < ns.length) : EvR (tOp (rIxL K) to tb) σ G H rI (ns.getD k 0) := ev_gLn (ev_at e j ho hj) hi h1
/-- to walk over a list of one's own, found by its address (its items pinned) -/
theorem ei_at [Go r] (e : Eo G H σ Γ) (j : Nat) {ws : List V} (ho : EvR to σ G H rA b) (hj : Γ.ow[j]? = some (oF b ws r xs)) : EvI (iList K to) σ G H [b] r xs := fun G1 H1 f R q =>
  ho G1 H1 f _ fun u G2 H2 f2 eu => by
    have e1 := (e.mono f).mono f2
    obtain ⟨h, hu, _, eu2, t⟩ := e1.ow _ (List.mem_of_getElem? hj)
    have hu : H2 b = some h := hu
    rw [eu2] at hu
    refine ⟨b, eu, ⟨ws, sqL_of hu⟩, q _ G2 H2 (fun H => SqL K H b ws) (YAt ws) f2 (t.length ▸ L2.walk_list) (fun G3 H3 z => sqL_of (z.2.2 b (by simp) _ hu)) fun i x hx G3 H3 v H4 z y => ?_⟩
    obtain ⟨rfl, hv⟩ := y
    obtain ⟨w, hw, rw_⟩ := t.get hx
    rw [hv] at hw
    cases hw
    exact ⟨G3, Fz.refl z.2.1, Go.to rw_ z.1⟩
/-- o.f = e, a plain value -/
theorem s_fld (j : Nat) {w : V} {tv : TE} (hv : ∀ {σ G H}, Eo G H σ Γ → EvR tv σ G H r x) (ho : ∀ {σ G H}, Eo G H σ Γ → EvR to σ G H rA s) (hj : Γ.ow[j]? = some (oI s C fs kd)) (hk : kd ≠ .ro) (c : Cls K C) (na : NoAttr K C f) (hw : ∀ G H v, r G H v x → v = w) (hf : fs.length < 1000)
    (n : Nx W (U D) (Γ.putO j (oI s C (putF f w fs) kd))) : Nx W (tSeq (sFld K to tv f) U D) Γ := fun σ G H e =>
  hv e.toEo G H (Fz.refl e.gd) _ fun v G1 H1 z ev => ho (e.step z).toEo G1 H1 (Fz.refl z.gd) _ fun u G2 H2 z2 eu => by
    have e2 := (e.step z).step z2
    obtain ⟨dx, hd⟩ := e2.toEo.ins hj
    refine ⟨s, C, dx, fs, eu, hd, c, na, hf, ?_⟩
    rw [hw _ _ _ ev]
    exact n _ G2 _ (e2.write hj rfl rfl hk ⟨dx, rfl⟩)
theorem nx_fld (j : Nat) {w : V} {tv : TE} (hv : ∀ {σ G H}, Eo G H σ Γ → EvR tv σ G H r x) (ho : ∀ {σ G H}, Eo G H σ Γ → EvR to σ G H rA s) (hj : Γ.ow[j]? = some (oI s C fs kd)) (hk : kd ≠ .ro) (c : Cls K C) (na : NoAttr K C f) (hw : ∀ G H v, r G H v x → v = w) (hf : fs.length < 1000)
    (n : Nx W D.nx (Γ.putO j (oI s C (putF f w fs) kd))) : Nx W (sFld K to tv f D) Γ := s_fld (U := fun D => D.nx) j hv ho hj hk c na hw hf n
/-- o.f = a new list -/
theorem nx_fldN [Go r] (j : Nat) {tv : TE} (hv : ∀ {σ G H}, Eo G H σ Γ → EvN tv σ G H r xs) (ho : ∀ {σ G H}, Eo G H σ Γ → EvR to σ G H rA s) (hj : Γ.ow[j]? = some (oI s C fs kd)) (hk : kd ≠ .ro) (c : Cls K C) (na : NoAttr K C f) (hf : fs.length < 1000)
    (n : ∀ b, Nx W D.nx ((Γ.putO j (oI s C (putF f (.ref b) fs) kd)).own (oL b r xs))) : Nx W (sFld K to tv f D) Γ := fun σ G H e =>
  hv e.toEo G H (Fz.refl e.gd) _ fun b vs G1 H1 z hn h1 h2 t => by
    have e1 := e.cons z (o := oL b r xs) rfl hn h1 h2 ⟨vs, rfl, t.imp fun _ _ q => Go.go q⟩ rfl
    have hj1 : (Γ.own (oL b r xs)).ow[j + 1]? = some (oI s C fs kd) := hj
    refine ho (e.step z).toEo G1 H1 (Fz.refl z.gd) _ fun u G2 H2 z2 eu => ?_
    have e2 := e1.step z2
    obtain ⟨dx, hd⟩ := e2.toEo.ins hj1
    exact ⟨s, C, dx, fs, eu, hd, c, na, hf, n b _ G2 _ (e2.write hj1 rfl rfl hk ⟨dx, rfl⟩)⟩
theorem k_fld {X : Cx} {e : Expr} {pos : Pos} (h : X.K = K) (he : PE X e ta) (hb : attributeBase e f X.env (eval e X.env) = eval e X.env := by rfl) : PE X (.Attribute e f pos) (tFld K ta f) := h ▸ pe_fld he hb
/-- x = o.m(..), .. = o.m(..) where m writes nothing -/
theorem s_meth {PA : AP} {P : ι → AP} {pre : ι → Hp → Hp → Prop} {S : ι → List Addr} {post : ι → Hp → Hp → Hp → V → Prop} {E : XK} {m : Str} {g : TG} {ps : List (Nat × Ent)} (j : Nat) (i : ι) (ho : ∀ {σ G H}, Eo G H σ Γ → EvR to σ G H rA s) (hj : Γ.ow[j]? = some (oI s C fs kd)) (hl : fs.lookup m = none)
    (ha : ∀ {σ G H}, Eo G H σ Γ → EvA tA σ G H PA) (hP : ∀ G H vs, PA G H vs → P i G H (.ref s :: vs)) (hp : ∀ σ G H, En W G H σ Γ → pre i G H) (hS : S i = []) (hpost : ∀ H0 G' H' v, post i H0 G' H' v → r G' H' v x) (t : Tg g r x ps) (n : Nx W (U D) (Γ.puts ps)) :
    Nx W (tSeq (tAsg (tMeth C m (spW P pre S post) [] E to tA) g) U D) Γ := fun σ G H e =>
  ho e.toEo G H (Fz.refl e.gd) _ fun u G1 H1 f1 eu => by
    have e1 := e.step f1
    obtain ⟨dx, hd⟩ := e1.toEo.ins hj
    refine ⟨s, dx, fs, eu, hd, hl, ha e1.toEo G1 H1 (Fz.refl f1.gd) _ fun vs G2 H2 f2 p => ?_⟩
    have e2 := e1.step f2
    refine ⟨i, G2, f2.gd, ?_, hp σ G2 H2 e2, fun v G' H' f q => ?_⟩
    · rw [List.append_nil, show u = .ref s from eu]
      exact hP _ _ _ p
    · rw [hS] at f
      have e3 := e2.step f.to
      obtain ⟨ws, hw, q2⟩ := t v G' H' e3.gd (hpost _ _ _ _ q)
      exact q2 _ _ (n _ G' H' (e3.slots (hw.sl e3.sl)))
theorem rT_ne {v : V} {xs : List α} (h : rT r G H v xs) : v ≠ .non := by
  obtain ⟨a, vs, rfl, _⟩ := h
  exact fun z => nomatch z
theorem ev_some {xs : List α} (h : EvR te σ G H (rT r) xs) : EvR te σ G H (rO (rT r)) (some xs) := fun G1 H1 f Q q => h G1 H1 f _ fun v G2 H2 f2 hv => q v G2 H2 f2 (show v ≠ .non ∧ rT r G2 H2 v xs from ⟨rT_ne hv, hv⟩)
theorem s_if1 {c : TT} {t : TS} {bb : Bool} (h : ∀ {σ G H}, Eo G H σ Γ → EvT c σ G H bb) (ht : bb = true → Nx W (t { D with nx := U D }) Γ) (hf : bb = false → Nx W (U D) Γ) : Nx W (tSeq (tIfS c t tNext) U D) Γ := s_if h ht hf
end
end Dg
end
section
set_option Elab.async false
set_option linter.all false
set_option maxRecDepth 100000
set_option maxHeartbeats 4000000
/-! Two draws, unpacked at once. -/
namespace Dg
open PySem PySem.Spec PyProof.Rows L2
section
variable {K : PySem.W.Frag} {sl : List Ent} {W : Wd} {D : Ends} {U : TS} {tA : TA} {E : XK} {a : Addr} {ns : List Int} {p many i k : Nat}
theorem s_numbers2 (hb : Bg ns) (p0 : 0 < p) (p1 : p < 1000) (m1 : many < 1000) (ha : ∀ {σ G H} {ow : List Own}, Eo G H σ ⟨sl, ow⟩ → EvA tA σ G H (aC rA a (aC rN p (aC rN many aN))))
    (n : ∀ xs ys ms, xs.length = many → Nm (p : Int) xs → ys.length = many → Nm (p : Int) ys → Bg ms → Nx W (U D) ⟨put (put sl i (eR (rT rI) xs)) k (eR (rT rI) ys), [oL a rI ms .par]⟩) :
    Nx W (tSeq (tAsg (tTup (tCons (tCall sp__law_numbers [] E tA) (tCons (tCall sp__law_numbers [] E tA) tNil))) (gTup K 2 (gCons (gName i) (gCons (gName k) gNil)))) U D) ⟨sl, [oL a rI ns .par]⟩ := fun σ G H e => by
  refine callW_run (Q := fun x H2 => tCall sp__law_numbers [] E tA σ H2 fun y H3 => ([x, y] : List V).length ≤ sizeLine ∧ ∀ q, H3 q = none → gTup K 2 (gCons (gName i) (gCons (gName k) gNil)) (.ref q) σ (upd H3 q (.tup [x, y])) (U D)) e ((a, ns, p, many) : Addr × List Int × Nat × Nat) (ha e.toEo) (fun G H e => ⟨e.lst (j := 0) rfl (fun z => nomatch z), hb, p0, p1, m1⟩) fun x G2 H2 G3 H3 e2 f post => ?_
  obtain ⟨xs, vs, ms, hx, lx, nx, h3, t3, b3⟩ := post
  have e3 := e2.callK (j := 0) (o' := oL a rI ms .par) rfl (fun z => nomatch z) f rfl rfl h3 ⟨vs, rfl, t3.imp fun _ _ q => q⟩
  refine callW_run e3.lo' ((a, ms, p, many) : Addr × List Int × Nat × Nat) (ha e3.toEo) (fun G H e => ⟨e.lst (j := 0) rfl (fun z => nomatch z), b3, p0, p1, m1⟩) fun y G4 H4 G5 H5 e4 f4 post4 => ?_
  obtain ⟨ys, vs5, ms5, hy, ly, ny, h5, t5, b5⟩ := post4
  have e5 := e4.callK (j := 0) (o' := oL a rI ms5 .par) rfl (fun z => nomatch z) f4 rfl rfl h5 ⟨vs5, rfl, t5.imp fun _ _ q => q⟩
  refine ⟨by show 2 ≤ sizeLine; decide, fun q hq => ?_⟩
  have z := Fz.new (o := .tup [x, y]) e5.gd hq (fun _ w => nomatch w)
  have e6 := e5.step z
  have up : In G3 (upd G5 q (.tup [x, y])) := e6.lo
  have e7 : En W (upd G5 q (.tup [x, y])) (upd H5 q (.tup [x, y])) σ ⟨sl, [oL a rI ms5 .par]⟩ := ⟨e6.toEo, e6.fz, fun b o hb => up b o (e3.lo b o hb), e6.ok, e6.nd⟩
  refine ⟨q, [x, y], rfl, sqT_of upd_same, rfl, x, [y], rfl, y, [], rfl, rfl, ?_⟩
  exact n xs ys ms5 lx nx ly ny b5 _ _ _ (e7.slots ((e7.sl.put i (eR (rT rI) xs) ⟨x, rfl, Go.to hx up⟩).put k (eR (rT rI) ys) ⟨y, rfl, Go.to hy z.gg⟩))
end
end Dg
end
section
set_option linter.all false
/-! Relations of rows, kept by elimination. -/
namespace Dg
open Lean.Grind
section
variable {R : Type} [CommRing R] {p : Int} (h : Hom R p)
/-- the row's sum against Z -/
def Rel (w : Nat) (Z : Nat → Ser R) (row : List (List Int)) : Prop := sumTo w (fun j => ser h (row.getD j []) * Z j) = 0
theorem neg_one_con : Ser.con (h.f (-1)) = -1 := Ser.ext_at fun n => by
  rw [Ser.neg_at]
  cases n with
  | zero =>
    show h.f (-1) = - (1 : R)
    rw [h.neg, h.one]
  | succ n => show (0 : R) = - 0; grind
theorem less_ser {q : List Int} {a b : List (List Int)} {j : Nat} (ha : j < a.length) (hb : j < b.length) : ser h ((lessOften p a q b).getD j []) = ser h (a.getD j []) - ser h q * ser h (b.getD j []) := by
  rw [less_at ha hb, ser_add, ser_mul, neg_one_con]
  grind
theorem rel_step {n w : Nat} {Z : Nat → Ser R} {rows : Rows} {k l : Nat} {q : List Int} (r : Rw p n w rows) (hk : k < n) (hl : l < n) (hr : ∀ i, i < n → Rel h w Z (rows.getD i [])) : ∀ i, i < n → Rel h w Z ((rows.set k (lessOften p (rows.getD k []) q (rows.getD l []))).getD i []) := fun i hi => by
  have hkr : k < rows.length := by rw [r.n]; exact hk
  rw [set_at [] rows hkr]
  by_cases e : k = i
  · rw [if_pos e]
    have wk := r.w _ (r.row hk)
    have wl := r.w _ (r.row hl)
    have a := hr k hk
    have b := hr l hl
    unfold Rel at a b ⊢
    have c : sumTo w (fun j => ser h ((lessOften p (rows.getD k []) q (rows.getD l [])).getD j []) * Z j) = sumTo w (fun j => ser h ((rows.getD k []).getD j []) * Z j - ser h q * (ser h ((rows.getD l []).getD j []) * Z j)) := sumTo_congr fun j hj => by
      rw [less_ser h (by omega) (by omega)]
      grind
    rw [c, sumTo_sub, sumTo_mul, a, b]
    grind
  · rw [if_neg e]
    exact hr i hi
/-- the rows' columns from w0 on have no relation -/
def Ind (n w0 w : Nat) (rows : Rows) : Prop := ∀ a : Nat → Ser R, (∀ t, w0 ≤ t → t < w → sumTo n (fun k => a k * ser h (at2 rows k t)) = 0) → ∀ k, k < n → a k = 0
theorem ind_step {n w0 w : Nat} {rows : Rows} {k l : Nat} {q : List Int} (r : Rw p n w rows) (hk : k < n) (hl : l < n) (hkl : k ≠ l) (hi : Ind h n w0 w rows) : Ind h n w0 w (rows.set k (lessOften p (rows.getD k []) q (rows.getD l []))) := fun a ha => by
  have hkr : k < rows.length := by rw [r.n]; exact hk
  have wk := r.w _ (r.row hk)
  have wl := r.w _ (r.row hl)
  have b : ∀ m, m < n → (fun m => if m = l then a l - a k * ser h q else a m) m = 0 := by
    refine hi _ fun t t0 tw => ?_
    rw [← ha t t0 tw]
    have at_ : ∀ m, at2 (rows.set k (lessOften p (rows.getD k []) q (rows.getD l []))) m t = if k = m then (lessOften p (rows.getD k []) q (rows.getD l [])).getD t [] else at2 rows m t := fun m => by
      unfold at2
      rw [set_at [] rows hkr]
      by_cases e : k = m
      · rw [if_pos e, if_pos e]
      · rw [if_neg e, if_neg e]
    have e1 : sumTo n (fun m => a m * ser h (at2 (rows.set k (lessOften p (rows.getD k []) q (rows.getD l []))) m t)) = sumTo n (fun m => a m * ser h (at2 rows m t)) + sumTo n (fun m => if m = k then - (a k * ser h q * ser h (at2 rows l t)) else 0) := by
      rw [← sumTo_add]
      refine sumTo_congr fun m _ => ?_
      rw [at_]
      by_cases e : k = m
      · rw [if_pos e, if_pos e.symm, less_ser h (by omega) (by omega), ← e]
        unfold at2
        grind
      · rw [if_neg e, if_neg (fun z => e z.symm)]
        grind
    have e2 : sumTo n (fun m => (if m = l then a l - a k * ser h q else a m) * ser h (at2 rows m t)) = sumTo n (fun m => a m * ser h (at2 rows m t)) + sumTo n (fun m => if m = l then - (a k * ser h q * ser h (at2 rows l t)) else 0) := by
      rw [← sumTo_add]
      refine sumTo_congr fun m _ => ?_
      by_cases e : m = l
      · rw [if_pos e, if_pos e, e]
        grind
      · rw [if_neg e, if_neg e]
        grind
    rw [e1]
    show sumTo n (fun m => (if m = l then a l - a k * ser h q else a m) * ser h (at2 rows m t)) = _
    rw [e2, sumTo_one (k := l) hl (fun i _ hne => if_neg hne), if_pos rfl, sumTo_one (k := k) hk (fun i _ hne => if_neg hne), if_pos rfl]
  intro m hm
  have bk := b k hk
  have bk : (if k = l then a l - a k * ser h q else a k) = 0 := bk
  rw [if_neg hkl] at bk
  have bm := b m hm
  have bm : (if m = l then a l - a k * ser h q else a m) = 0 := bm
  by_cases e : m = l
  · rw [if_pos e, bk] at bm
    rw [e]
    grind
  · rw [if_neg e] at bm
    exact bm
theorem ind_pick {n w0 w : Nat} {rows : Rows} (idx : List Nat) (nd : idx.Nodup) (hb : ∀ i ∈ idx, i < n) (hi : Ind h n w0 w rows) : Ind h idx.length w0 w (idx.map fun k => rows.getD k []) := fun a ha => by
  have hat : ∀ k, k < idx.length → ∀ t, at2 (idx.map fun k => rows.getD k []) k t = at2 rows (idx.getD k 0) t := fun k hk t => by
    unfold at2
    rw [List.getD_eq_getElem?_getD (i := k), List.getElem?_map, List.getElem?_eq_getElem hk, List.getD_eq_getElem?_getD (l := idx), List.getElem?_eq_getElem hk]
    rfl
  have b : ∀ m, m < n → sumTo idx.length (fun k => if idx.getD k 0 = m then a k else 0) = 0 := by
    refine hi _ fun t t0 tw => ?_
    refine Eq.trans ?_ (ha t t0 tw)
    have e : sumTo n (fun m => sumTo idx.length (fun k => if idx.getD k 0 = m then a k else 0) * ser h (at2 rows m t)) = sumTo n (fun m => sumTo idx.length (fun k => (if idx.getD k 0 = m then a k else 0) * ser h (at2 rows m t))) := sumTo_congr fun m _ => by rw [sumTo_mulr]
    rw [e, sumTo_swap]
    refine sumTo_congr fun k hk => ?_
    rw [sumTo_one (k := idx.getD k 0) (hb _ (getD_mem hk)) (fun i _ hne => by rw [if_neg (fun z => hne z.symm)]; grind), if_pos rfl, hat k hk t]
  intro k hk
  have q := b (idx.getD k 0) (hb _ (getD_mem hk))
  rw [sumTo_one (k := k) hk (fun i hi2 hne => ?_), if_pos rfl] at q
  · exact q
  · rw [if_neg]
    intro z
    rw [List.getD_eq_getElem?_getD, List.getD_eq_getElem?_getD, List.getElem?_eq_getElem hi2, List.getElem?_eq_getElem hk] at z
    have z : idx[i] = idx[k] := z
    exact hne ((List.getElem_inj nd).mp z)
theorem red_rw (hp : Pm p) {n w : Nat} {a b : Rows} (H : Red p a b) (r : Rw p n w a) : Rw p n w b := by
  induction H with
  | refl => exact r
  | step _ hne hk hl hq ih => exact ih.step hp (by rw [← ih.n]; exact hk) (by rw [← ih.n]; exact hl)
theorem red_rel (hp : Pm p) {n w : Nat} {Z : Nat → Ser R} {a b : Rows} (H : Red p a b) (r : Rw p n w a) (hr : ∀ i, i < n → Rel h w Z (a.getD i [])) : ∀ i, i < n → Rel h w Z (b.getD i []) := by
  induction H with
  | refl => exact hr
  | step q hne hk hl hq ih =>
    have rb := red_rw hp q r
    exact rel_step h rb (by rw [← rb.n]; exact hk) (by rw [← rb.n]; exact hl) ih
theorem red_ind (hp : Pm p) {n w0 w : Nat} {a b : Rows} (H : Red p a b) (r : Rw p n w a) (hr : Ind h n w0 w a) : Ind h n w0 w b := by
  induction H with
  | refl => exact hr
  | step q hne hk hl hq ih =>
    have rb := red_rw hp q r
    exact ind_step h rb (by rw [← rb.n]; exact hk) (by rw [← rb.n]; exact hl) hne ih
theorem lefts_rel {n w pl : Nat} {Z : Nat → Ser R} {a : Rows} (r : Rw p n w a) (hr : ∀ i, i < n → Rel h w Z (a.getD i [])) : ∀ i, i < (lefts pl a).length → Rel h w Z ((lefts pl a).getD i []) := fun i hi => by
  obtain ⟨m, hm, _, e⟩ := lefts_at hi
  rw [e]
  exact hr m (by rw [← r.n]; exact hm)
theorem lefts_ind {n w0 w pl : Nat} {a : Rows} (r : Rw p n w a) (hr : Ind h n w0 w a) : Ind h (lefts pl a).length w0 w (lefts pl a) := by
  have q := ind_pick h ((List.range a.length).filter fun k => !decide (k ∈ someL pl a)) (List.filter_sublist.nodup List.nodup_range) (fun i hi => by
    have := (List.mem_filter.mp hi).1
    rw [List.mem_range, r.n] at this
    exact this) hr
  have e : (lefts pl a).length = ((List.range a.length).filter fun k => !decide (k ∈ someL pl a)).length := by
    unfold lefts
    rw [List.length_map]
  rw [e]
  exact q
theorem elim_rw (hp : Pm p) {pl w : Nat} {a b : Rows} (H : Elim p pl a b) (r : Rw p a.length w a) : Rw p b.length w b := by
  induction H with
  | zero => exact r
  | succ q red ih => exact lefts_rw (red_rw hp red (ih r))
theorem elim_rel (hp : Pm p) {pl w : Nat} {Z : Nat → Ser R} {a b : Rows} (H : Elim p pl a b) (r : Rw p a.length w a) (hr : ∀ i, i < a.length → Rel h w Z (a.getD i [])) : ∀ i, i < b.length → Rel h w Z (b.getD i []) := by
  induction H with
  | zero => exact hr
  | succ q red ih =>
    have rb := elim_rw hp q r
    exact lefts_rel h (red_rw hp red rb) (red_rel h hp red rb (ih r hr))
theorem elim_ind (hp : Pm p) {pl w0 w : Nat} {a b : Rows} (H : Elim p pl a b) (r : Rw p a.length w a) (hr : Ind h a.length w0 w a) : Ind h b.length w0 w b := by
  induction H with
  | zero => exact hr
  | succ q red ih =>
    have rb := elim_rw hp q r
    exact lefts_ind h (red_rw hp red rb) (red_ind h hp red rb (ih r hr))
theorem rel_delta {w j : Nat} (hj : j < w) (row : List (List Int)) : Rel h w (fun i => if i = j then 1 else 0) row ↔ ser h (row.getD j []) = 0 := by
  unfold Rel
  rw [sumTo_one (k := j) hj (fun i _ hne => by dsimp only; rw [if_neg hne]; grind)]
  dsimp only
  rw [if_pos rfl]
  constructor
  · intro e
    grind
  · intro e
    rw [e]
    grind
theorem elim_zero (hp : Pm p) {pl w : Nat} {a b : Rows} (H : Elim p pl a b) (r : Rw p a.length w a) (hw : pl ≤ w) : ∀ j, j < pl → ∀ i, i < b.length → ser h (at2 b i j) = 0 := by
  induction H with
  | zero => intro j hj; exact absurd hj (Nat.not_lt_zero _)
  | @succ pl a b c q red ih =>
    intro j hj i hi
    have rb := elim_rw hp q r
    have rc := red_rw hp red rb
    by_cases e : j = pl
    · obtain ⟨m, hm, hz, em⟩ := lefts_at hi
      unfold at2
      rw [em, e]
      show ser h (at2 c m pl) = 0
      rw [hz, ser_nil]
    · have hb := ih r (by omega) j (by omega)
      have d := red_rel h hp red rb (Z := fun i => if i = j then 1 else 0) fun m hm => (rel_delta h (by omega) _).mpr (hb m hm)
      exact (rel_delta h (by omega) _).mp (lefts_rel h rc d i hi)
/-- the marks have no relation -/
theorem start_ind {n w : Nat} {rows : Rows} (r : Rw p n w rows) : Ind h n w (w + n) (startRows rows) := fun a ha k hk => by
  have q := ha (w + k) (by omega) (by omega)
  have at_ : ∀ m, m < n → at2 (startRows rows) m (w + k) = trim [if m = k then 1 else 0] := fun m hm => by
    have hm2 : m < rows.length := by rw [r.n]; exact hm
    have e : (startRows rows).getD m [] = rows.getD m [] ++ mark rows.length m := by
      unfold startRows
      have hz : (enumL rows)[m]? = some (m, rows.getD m []) := by
        unfold enumL
        rw [List.getElem?_zip_eq_some]
        refine ⟨List.getElem?_range hm2, ?_⟩
        rw [List.getD_eq_getElem?_getD, List.getElem?_eq_getElem hm2]
        rfl
      rw [List.getD_eq_getElem?_getD, List.getElem?_map, hz]
      rfl
    unfold at2
    have wl := r.w _ (r.row hm)
    rw [e, List.getD_eq_getElem?_getD, List.getElem?_append_right (by omega), wl, Nat.add_sub_cancel_left]
    unfold mark
    rw [List.getElem?_map, List.getElem?_range (by rw [r.n]; exact hk)]
    rfl
  rw [sumTo_one (k := k) hk (fun m hm hne => by rw [at_ m hm, if_neg hne, ser_single, h.zero, Ser.con_zero]; grind), at_ k hk, if_pos rfl, ser_single, h.one, con_one] at q
  grind
end
end Dg
end
section
set_option linter.all false
/-! Rows by powers, as series. -/
namespace Dg
open Lean.Grind
theorem getDm {α β : Type} {xs : List α} {g : α → β} {d : α} {d' : β} {k : Nat} (hk : k < xs.length) : (xs.map g).getD k d' = g (xs.getD k d) := by
  rw [List.getD_eq_getElem?_getD, List.getElem?_map, List.getElem?_eq_getElem hk, List.getD_eq_getElem?_getD, List.getElem?_eq_getElem hk]
  rfl
theorem foldl_take1 {α β : Type} (l : List α) (f : β → α → β) (b : β) {i : Nat} {x : α} (h : l[i]? = some x) : (l.take (i + 1)).foldl f b = f ((l.take i).foldl f b) x := by
  rw [List.take_add_one, h, Option.toList_some, List.foldl_append]
  rfl
section
variable {R : Type} [CommRing R] {p : Int} (h : Hom R p)
theorem stepPolys_at {steps : List (List (List Int))} {m i j : Nat} (hi : i < m) (hj : j < m) : at2 (stepPolys steps m) i j = lineOf steps i j := by
  unfold at2 stepPolys
  rw [getDm (d := 0) (by rw [List.length_range]; exact hi), getDm (d := 0) (by rw [List.length_range]; exact hj)]
  rw [List.getD_eq_getElem?_getD, List.getElem?_range hi, List.getD_eq_getElem?_getD, List.getElem?_range hj]
  rfl
theorem sprIt_ser {begin firsts : List Int} {steps : List (List (List Int))} (T : Tb p begin steps firsts) : ∀ (k : Nat) {i j : Nat}, i < firsts.length → j < firsts.length → ser h (at2 (sprIt p k (stepPolys steps firsts.length)) i j) = sprN p.toNat k (ser h (lineOf steps i j))
  | 0, i, j, hi, hj => by
    show ser h (at2 (stepPolys steps firsts.length) i j) = _
    rw [stepPolys_at hi hj]
    rfl
  | k + 1, i, j, hi, hj => by
    have pp : 0 < p.toNat := by have := T.pm.pos; omega
    obtain ⟨l1, l2⟩ := sprIt_po T k
    have hi' : i < (sprIt p k (stepPolys steps firsts.length)).length := by omega
    have rl := (l2 _ (getD_mem (d := []) hi')).1
    have e : at2 (sprIt p (k + 1) (stepPolys steps firsts.length)) i j = spread p.toNat (at2 (sprIt p k (stepPolys steps firsts.length)) i j) := by
      unfold at2
      show ((spreadPolys p (sprIt p k (stepPolys steps firsts.length))).getD i []).getD j [] = _
      unfold spreadPolys
      rw [getDm (d := []) hi', getDm (d := []) (by omega)]
    rw [e, ser_spread h pp, sprIt_ser T k hi hj, sprN_succ]
theorem rbs_ser {m : Nat} {acc : List (List Int)} {q : List Int × List (List Int)} (h1 : acc.length = m) (h2 : q.2.length = m) {j : Nat} (hj : j < m) : ser h ((rbs p acc q).getD j []) = ser h (acc.getD j []) + ser h q.1 * ser h (q.2.getD j []) := by
  unfold rbs
  by_cases hc : q.1 ≠ []
  · rw [if_pos hc]
    have e := plusRow_at (p := p) (poly := q.1) (acc := acc) (line := q.2) (j := j) (by omega) (by omega)
    unfold plusRow at e
    rw [e, ser_add1, ser_mul]
  · rw [if_neg hc]
    have hc : q.1 = [] := Classical.not_not.mp hc
    rw [hc, ser_nil]
    grind
theorem zip_go {m : Nat} : ∀ (ys : List (List Int)) (L : List (List (List Int))) (acc : List (List Int)), ys.length = L.length → acc.length = m → (∀ r ∈ L, r.length = m) →
    ((ys.zip L).foldl (rbs p) acc).length = m ∧ ∀ j, j < m → ser h (((ys.zip L).foldl (rbs p) acc).getD j []) = ser h (acc.getD j []) + sumTo ys.length (fun i => ser h (ys.getD i []) * ser h (at2 L i j))
  | [], [], acc, _, ha, _ => ⟨ha, fun j _ => by
    show ser h (acc.getD j []) = _
    rw [List.length_nil, sumTo_zero]
    grind⟩
  | y :: ys, r :: L, acc, hl, ha, hL => by
    have rl := hL r List.mem_cons_self
    have a1 : (rbs p acc (y, r)).length = m := by rw [rbs_len (by show r.length = _; omega)]; exact ha
    obtain ⟨l2, e2⟩ := zip_go ys L (rbs p acc (y, r)) (by simpa using hl) a1 fun r hr => hL r (List.mem_cons_of_mem _ hr)
    rw [List.zip_cons_cons, List.foldl_cons]
    refine ⟨l2, fun j hj => ?_⟩
    rw [e2 j hj, rbs_ser h ha (by show r.length = m; exact rl) hj, List.length_cons, sumTo_head]
    show _ = _ + (ser h y * ser h (r.getD j []) + sumTo ys.length (fun i => ser h (ys.getD i []) * ser h (at2 L i j)))
    grind
/-- one row of rows_by_powers -/
theorem pow_row {begin firsts : List Int} {steps : List (List (List Int))} {F : Nat → Ser R} (T : Tb p begin steps firsts) (S : Sys h steps firsts F) {often first : Nat} (hf : first ≤ often) : ∀ k, k ≤ often - first →
    ((((sqs p (stepPolys steps firsts.length) often).drop first).take k).foldl (rowBySq p) (ones begin)).length = firsts.length ∧
    sumTo firsts.length (fun j => ser h (((((sqs p (stepPolys steps firsts.length) often).drop first).take k).foldl (rowBySq p) (ones begin)).getD j []) * sprN p.toNat (first + k) (F j)) = sprN p.toNat first (tot h begin firsts.length F)
  | 0, _ => by
    obtain ⟨a, b⟩ := rowAt_ser h T S first 0
    exact ⟨a, b⟩
  | k + 1, hk => by
    have pp : 0 < p.toNat := by have := T.pm.pos; omega
    obtain ⟨l, e⟩ := pow_row T S hf k (by omega)
    have hx : ((sqs p (stepPolys steps firsts.length) often).drop first)[k]? = some (sprIt p (first + k) (stepPolys steps firsts.length)) := by
      unfold sqs
      rw [List.getElem?_drop, List.getElem?_map, List.getElem?_range (by omega)]
      rfl
    rw [foldl_take1 _ _ _ hx]
    generalize (((sqs p (stepPolys steps firsts.length) often).drop first).take k).foldl (rowBySq p) (ones begin) = row at l e ⊢
    obtain ⟨s1, s2⟩ := sprIt_po T (first + k)
    unfold rowBySq
    obtain ⟨l2, e2⟩ := zip_go h (m := firsts.length) row (sprIt p (first + k) (stepPolys steps firsts.length)) (row.map fun _ => []) (by omega) (by rw [List.length_map]; exact l) fun r hr => (s2 r hr).1
    refine ⟨l2, ?_⟩
    rw [← e]
    have a : sumTo firsts.length (fun j => ser h (((row.zip (sprIt p (first + k) (stepPolys steps firsts.length))).foldl (rbs p) (row.map fun _ => [])).getD j []) * sprN p.toNat (first + (k + 1)) (F j)) = sumTo firsts.length (fun j => sumTo firsts.length (fun i => ser h (row.getD i []) * sprN p.toNat (first + k) (ser h (lineOf steps i j)) * sprN p.toNat (first + k) (spr p.toNat (F j)))) := sumTo_congr fun j hj => by
      have z : (row.map fun _ => ([] : List Int)).getD j [] = [] := by
        rw [List.getD_eq_getElem?_getD, List.getElem?_map]
        cases row[j]? <;> rfl
      rw [e2 j hj, z, ser_nil, l]
      have z2 : (0 : Ser R) + sumTo firsts.length (fun i => ser h (row.getD i []) * ser h (at2 (sprIt p (first + k) (stepPolys steps firsts.length)) i j)) = sumTo firsts.length (fun i => ser h (row.getD i []) * ser h (at2 (sprIt p (first + k) (stepPolys steps firsts.length)) i j)) := by grind
      rw [z2, ← sumTo_mulr]
      refine sumTo_congr fun i hi => ?_
      rw [sprIt_ser h T _ hi hj, show first + (k + 1) = (first + k) + 1 by omega, sprN_in]
    rw [a, sumTo_swap]
    refine sumTo_congr fun i hi => ?_
    rw [S.rec_ i hi, sprN_sum, ← sumTo_mul]
    refine sumTo_congr fun j hj => ?_
    rw [sprN_mul pp]
    grind
/-- what is sought: the powers' series summed -/
def Kill (f : Ser R) (c : List (List Int)) : Prop := sumTo c.length (fun t => ser h (c.getD t []) * sprN p.toNat t f) = 0
theorem rowsByPowers_at {begin firsts : List Int} {steps : List (List (List Int))} {F : Nat → Ser R} (T : Tb p begin steps firsts) (S : Sys h steps firsts F) {often i : Nat} (hi : i < often + 1) :
    ((rowsByPowers p begin steps firsts.length often).getD i []).length = firsts.length ∧ sumTo firsts.length (fun j => ser h (at2 (rowsByPowers p begin steps firsts.length often) i j) * sprN p.toNat often (F j)) = sprN p.toNat i (tot h begin firsts.length F) := by
  have e : (rowsByPowers p begin steps firsts.length often).getD i [] = ((sqs p (stepPolys steps firsts.length) often).drop i).foldl (rowBySq p) (ones begin) := by
    unfold rowsByPowers
    rw [getDm (d := 0) (by rw [List.length_range]; exact hi), List.getD_eq_getElem?_getD, List.getElem?_range hi]
    rfl
  obtain ⟨a, b⟩ := pow_row h T S (often := often) (first := i) (by omega) (often - i) (Nat.le_refl _)
  have tk : ((sqs p (stepPolys steps firsts.length) often).drop i).take (often - i) = (sqs p (stepPolys steps firsts.length) often).drop i := List.take_of_length_le (by
    unfold sqs
    rw [List.length_drop, List.length_map, List.length_range]
    exact Nat.le_refl _)
  rw [tk, ← e] at a b
  refine ⟨a, ?_⟩
  rw [show i + (often - i) = often by omega] at b
  exact b
theorem startRows_at {n w : Nat} {rows : Rows} (r : Rw p n w rows) {k : Nat} (hk : k < n) : (startRows rows).getD k [] = rows.getD k [] ++ mark n k := by
  have hm2 : k < rows.length := by rw [r.n]; exact hk
  unfold startRows
  have hz : (enumL rows)[k]? = some (k, rows.getD k []) := by
    unfold enumL
    rw [List.getElem?_zip_eq_some]
    refine ⟨List.getElem?_range hm2, ?_⟩
    rw [List.getD_eq_getElem?_getD, List.getElem?_eq_getElem hm2]
    rfl
  rw [List.getD_eq_getElem?_getD, List.getElem?_map, hz, r.n]
  rfl
theorem mark_ser {n k t : Nat} (ht : t < n) : ser h ((mark n k).getD t []) = if k = t then 1 else 0 := by
  unfold mark
  rw [getDm (d := 0) (by rw [List.length_range]; exact ht), List.getD_eq_getElem?_getD, List.getElem?_range ht]
  show ser h (trim [if k = t then 1 else 0]) = _
  rw [ser_single]
  by_cases e : k = t
  · rw [if_pos e, if_pos e, h.one, con_one]
  · rw [if_neg e, if_neg e, h.zero, Ser.con_zero]
theorem rel_series {begin firsts : List Int} {steps : List (List (List Int))} {F : Nat → Ser R} (T : Tb p begin steps firsts) (S : Sys h steps firsts F) {rows fin : Rows} (er : rows = rowsByPowers p begin steps firsts.length firsts.length) (rw0 : Rw p (firsts.length + 1) firsts.length rows)
    (H : Elim p firsts.length (startRows rows) fin) (h0 : 0 < fin.length) (rf : Rw p fin.length (firsts.length + (firsts.length + 1)) fin) : Kill h (tot h begin firsts.length F) ((fin.getD 0 []).drop firsts.length) ∧ ((fin.getD 0 []).drop firsts.length).length = firsts.length + 1 ∧ ∃ g ∈ (fin.getD 0 []).drop firsts.length, g ≠ [] := by
  have sr := startRows_rw T.pm rw0
  have sn : (startRows rows).length = firsts.length + 1 := sr.n
  have sr' : Rw p (startRows rows).length (firsts.length + (firsts.length + 1)) (startRows rows) := by rw [sn]; exact sr
  let Z : Nat → Ser R := fun j => if j < firsts.length then sprN p.toNat firsts.length (F j) else - sprN p.toNat (j - firsts.length) (tot h begin firsts.length F)
  have start : ∀ i, i < (startRows rows).length → Rel h (firsts.length + (firsts.length + 1)) Z ((startRows rows).getD i []) := fun i hi => by
    have hi : i < firsts.length + 1 := by rw [← sn]; exact hi
    have wl := rw0.w _ (rw0.row hi)
    rw [startRows_at rw0 hi]
    unfold Rel
    rw [sumTo_append]
    obtain ⟨_, b⟩ := rowsByPowers_at h T S (often := firsts.length) hi
    rw [← er] at b
    have a1 : sumTo firsts.length (fun j => ser h ((rows.getD i [] ++ mark (firsts.length + 1) i).getD j []) * Z j) = sprN p.toNat i (tot h begin firsts.length F) := by
      rw [← b]
      refine sumTo_congr fun j hj => ?_
      have z : Z j = sprN p.toNat firsts.length (F j) := if_pos hj
      rw [z]
      unfold at2
      rw [List.getD_eq_getElem?_getD, List.getElem?_append_left (by omega), List.getD_eq_getElem?_getD (l := rows.getD i [])]
    have a2 : sumTo (firsts.length + 1) (fun t => ser h ((rows.getD i [] ++ mark (firsts.length + 1) i).getD (firsts.length + t) []) * Z (firsts.length + t)) = - sprN p.toNat i (tot h begin firsts.length F) := by
      have e : ∀ t, t < firsts.length + 1 → ser h ((rows.getD i [] ++ mark (firsts.length + 1) i).getD (firsts.length + t) []) * Z (firsts.length + t) = (if i = t then 1 else 0) * - sprN p.toNat t (tot h begin firsts.length F) := fun t ht => by
        have z : Z (firsts.length + t) = - sprN p.toNat (firsts.length + t - firsts.length) (tot h begin firsts.length F) := if_neg (by omega)
        rw [z, Nat.add_sub_cancel_left, List.getD_eq_getElem?_getD, List.getElem?_append_right (by omega), wl, Nat.add_sub_cancel_left, ← List.getD_eq_getElem?_getD, mark_ser h ht]
      rw [sumTo_congr e, sumTo_one (k := i) hi (fun t _ hne => by rw [if_neg (fun z => hne z.symm)]; grind), if_pos rfl]
      grind
    rw [a1, a2]
    grind
  have rel0 := elim_rel h T.pm H sr' start 0 h0
  have zero0 := elim_zero h T.pm H sr' (by omega)
  have ind0 := elim_ind h T.pm H sr' (w0 := firsts.length) (by rw [sn]; exact start_ind h rw0)
  have wf := rf.w _ (rf.row h0)
  have dl : ((fin.getD 0 []).drop firsts.length).length = firsts.length + 1 := by rw [List.length_drop, wf]; omega
  have dat : ∀ t, ((fin.getD 0 []).drop firsts.length).getD t [] = (fin.getD 0 []).getD (firsts.length + t) [] := fun t => by
    generalize fin.getD 0 [] = row
    rw [List.getD_eq_getElem?_getD, List.getElem?_drop, List.getD_eq_getElem?_getD]
  refine ⟨?_, dl, ?_⟩
  · unfold Kill
    rw [dl]
    unfold Rel at rel0
    rw [sumTo_append] at rel0
    have z1 : sumTo firsts.length (fun j => ser h ((fin.getD 0 []).getD j []) * Z j) = 0 := sumTo_none fun j hj => by
      have := zero0 j hj 0 h0
      unfold at2 at this
      rw [this]
      grind
    have z2 : sumTo (firsts.length + 1) (fun t => ser h ((fin.getD 0 []).getD (firsts.length + t) []) * Z (firsts.length + t)) = - sumTo (firsts.length + 1) (fun t => ser h (((fin.getD 0 []).drop firsts.length).getD t []) * sprN p.toNat t (tot h begin firsts.length F)) := by
      rw [← sumTo_neg]
      refine sumTo_congr fun t _ => ?_
      have z : Z (firsts.length + t) = - sprN p.toNat (firsts.length + t - firsts.length) (tot h begin firsts.length F) := if_neg (by omega)
      rw [z, Nat.add_sub_cancel_left, dat]
      grind
    rw [z1, z2] at rel0
    grind
  · refine Classical.byContradiction fun none => ?_
    have all : ∀ t, ((fin.getD 0 []).drop firsts.length).getD t [] = [] := fun t => by
      by_cases ht : t < ((fin.getD 0 []).drop firsts.length).length
      · exact Classical.byContradiction fun z => none ⟨_, getD_mem ht, z⟩
      · rw [List.getD_eq_getElem?_getD, List.getElem?_eq_none (by omega)]
        rfl
    have one := ind0 (fun k => if k = 0 then 1 else 0) (fun t t0 tw => by
      refine sumTo_none fun k hk => ?_
      by_cases e : k = 0
      · have := all (t - firsts.length)
        rw [dat, show firsts.length + (t - firsts.length) = t by omega] at this
        rw [e]
        unfold at2
        rw [this, ser_nil]
        grind
      · rw [if_neg e]
        grind) 0 h0
    have one : (1 : Ser R) = 0 := by simpa using one
    have o2 := congrArg (fun s : Ser R => s.at_ 0) one
    have o2 : (1 : R) = 0 := by
      have q : (1 : Ser R).at_ 0 = (0 : Ser R).at_ 0 := o2
      rw [Ser.zero_at] at q
      exact q
    have := h.inj 1 (by omega) (by have := T.pm.two; omega) (by rw [h.one]; exact o2)
    omega
theorem beg_kill (hp : 0 < p) {f : Ser R} {a b : List (List Int)} (B : Beg p a b) (ha : Kill h f a) : Kill h f b := by
  induction B with
  | refl => exact ha
  | @step b r _ h0 hr ih =>
    cases b with
    | nil =>
      unfold Kill
      exact sumTo_none fun t ht => absurd ht (by simp)
    | cons c b =>
      have h0 : c = [] := h0
      unfold Kill at ih ⊢
      rw [List.length_cons, sumTo_head] at ih
      have z : ser h ((c :: b).getD 0 []) * sprN p.toNat 0 f = 0 := by
        show ser h c * _ = 0
        rw [h0, ser_nil]
        grind
      rw [z] at ih
      have e2 := congrArg (sec p.toNat r) ih
      rw [sec_add, sec_zero, sec_sum] at e2
      rw [List.length_map, List.drop_one, List.tail_cons]
      have e3 : sumTo b.length (fun t => sec p.toNat r (ser h ((c :: b).getD (t + 1) []) * sprN p.toNat (t + 1) f)) = sumTo b.length (fun t => ser h ((b.map fun g => part p g r).getD t []) * sprN p.toNat t f) := sumTo_congr fun t ht => by
        rw [sprN_succ, sec_mul_spr hr, getDm (d := []) ht, ser_part h hp]
        rfl
      rw [← e3]
      grind
theorem kill_take {f : Ser R} {ys : List (List Int)} {n : Nat} (hn : n ≤ ys.length) (hz : ∀ k, n ≤ k → ys.getD k [] = []) (hk : Kill h f ys) : Kill h f (ys.take n) := by
  unfold Kill at hk ⊢
  rw [List.length_take, Nat.min_eq_left hn]
  rw [sumTo_more hn fun i hi _ => by rw [hz i hi, ser_nil]; grind] at hk
  rw [← hk]
  refine sumTo_congr fun t ht => ?_
  rw [List.getD_eq_getElem?_getD, List.getElem?_take_of_lt ht, List.getD_eq_getElem?_getD]
end
end Dg
end
section
set_option Elab.async false
set_option linter.all false
set_option maxRecDepth 100000
set_option maxHeartbeats 4000000
/-! What _law_drawn_table makes: the lists of numbers that stay, the numbers that fit. -/
namespace Dg
open PySem PySem.Spec PyProof.Rows L2 Lean.Grind
section
variable {R : Type} [CommRing R] {p : Int} (h : Hom R p)
theorem sum_but (g : Nat → Int) (t : Nat) : ∀ n : Nat, h.f ((((List.range n).filter fun k => !decide (k = t)).map g).sum) = sumTo n (fun j => if j = t then 0 else h.f (g j))
  | 0 => h.zero
  | n + 1 => by
    rw [List.range_succ, List.filter_append, List.map_append, List.sum_append, h.add, sum_but g t n, sumTo_succ]
    congr 1
    by_cases e : n = t
    · rw [if_pos e, List.filter_cons_of_neg (by simp [e])]
      exact h.zero
    · rw [if_neg e, List.filter_cons_of_pos (by simp [e])]
      show h.f (g n + 0) = _
      rw [Int.add_zero]
theorem getD_set0 {xs : List Int} {k j : Nat} {v : Int} (hk : k < xs.length) : (xs.set k v).getD j 0 = if j = k then v else xs.getD j 0 := by
  rw [List.getD_eq_getElem?_getD]
  by_cases e : j = k
  · rw [if_pos e, e, List.getElem?_set_self hk]
    rfl
  · rw [if_neg e, List.getElem?_set_ne (fun z => e z.symm), List.getD_eq_getElem?_getD]
theorem dot_set {many t : Nat} {row firsts : List Int} {fi : Int} (hp : Pm p) (ht : t < many) (hl : row.length = many) (hf : Nm p firsts) (hne : firsts.getD t 0 ≠ 0) :
    sumTo many (fun j => h.f ((row.set t ((fi - (((List.range many).filter fun k => !decide (k = t)).map fun k => row.getD k 0 * firsts.getD k 0).sum) * (back p (firsts.getD t 0) : Int) % p)).getD j 0) * h.f (firsts.getD j 0)) = h.f fi := by
  have lb := hf.getD hp.pos t
  have bi := back_is (back_ne' hp lb.1 lb.2 hne)
  have be : h.f (firsts.getD t 0) * h.f (back p (firsts.getD t 0) : Int) = 1 := by
    rw [← h.mul, ← h.mod, bi, h.one]
  generalize hr : (((List.range many).filter fun k => !decide (k = t)).map fun k => row.getD k 0 * firsts.getD k 0).sum = rs
  have hs := sum_but h (fun k => row.getD k 0 * firsts.getD k 0) t many
  rw [hr] at hs
  have e : sumTo many (fun j => h.f ((row.set t ((fi - rs) * (back p (firsts.getD t 0) : Int) % p)).getD j 0) * h.f (firsts.getD j 0)) = sumTo many (fun j => (if j = t then 0 else h.f (row.getD j 0 * firsts.getD j 0)) + (if j = t then h.f ((fi - rs) * (back p (firsts.getD t 0) : Int) % p) * h.f (firsts.getD t 0) else 0)) := sumTo_congr fun j _ => by
    rw [getD_set0 (by omega)]
    by_cases q : j = t
    · rw [if_pos q, if_pos q, if_pos q, q]
      grind
    · rw [if_neg q, if_neg q, if_neg q, h.mul]
      grind
  rw [e, sumTo_add, ← hs, sumTo_one ht (fun i _ hi => if_neg hi), if_pos rfl, h.mod, h.mul, h.sub]
  grind
end
section
variable {G H : Hp} {K : PySem.W.Frag} {σ : L2.St} {W : Wd} {N : L2.St → Hp → Prop}
abbrev Grp := List (Addr × List Int)
def Held (G : Hp) (g : Grp) : Prop := ∀ q ∈ g, ∃ vs, G q.1 = some (.lst vs) ∧ Al (rI G G) vs q.2
theorem lift1 {v : V} : ∀ {g : Grp} {vs : List V}, Held G g → Al (rA G H) vs (g.map (·.1)) → Al (rL rI G H) vs (g.map (·.2))
  | [], _, _, .nil => .nil
  | q :: g, _, hg, .cons a t => by
    obtain ⟨vs, h1, h2⟩ := hg q List.mem_cons_self
    exact .cons ⟨q.1, vs, a, h1, h2⟩ (lift1 (v := v) (fun u hu => hg u (List.mem_cons_of_mem _ hu)) t)
theorem lift2 {vs : List V} : ∀ {L : List Grp} {vs : List V}, (∀ g ∈ L, Held G g) → Al (rL rA G H) vs (L.map fun g => g.map (·.1)) → Al (rL (rL rI) G H) vs (L.map fun g => g.map (·.2))
  | [], _, _, .nil => .nil
  | g :: L, _, hL, .cons ⟨c, ws, e, hc, t⟩ u => .cons ⟨c, ws, e, hc, lift1 (v := .non) (hL g List.mem_cons_self) t⟩ (lift2 (vs := []) (fun u hu => hL u (List.mem_cons_of_mem _ hu)) u)
theorem nx_perm {sl : List Ent} {ow ow' : List Own} (hp : ow.Perm ow') (n : Nx W N ⟨sl, ow'⟩) : Nx W N ⟨sl, ow⟩ := fun σ G H e => n σ G H (e.perm hp)
theorem owns_app (x y : Grp) : owns rI (x ++ y) = owns rI x ++ owns rI y := List.map_append ..
theorem own_at {g : Grp} {Z : List Own} {i : Nat} (hi : i < g.length) : (owns rI g ++ Z)[i]? = some (oL (g.getD i (0, [])).1 rI (g.getD i (0, [])).2) := by
  rw [List.getElem?_append_left (by unfold owns; rw [List.length_map]; exact hi)]
  unfold owns
  rw [List.getElem?_map, getD_some (d := ((0 : Addr), ([] : List Int))) hi]
  rfl
theorem putO_at {g : Grp} {Z : List Own} {row : List Int} : ∀ {g : Grp} {i : Nat}, i < g.length → putO (owns rI g ++ Z) i (oL (g.getD i (0, [])).1 rI row) = owns rI (g.set i ((g.getD i (0, [])).1, row)) ++ Z
  | [], _, h => absurd h (Nat.not_lt_zero _)
  | _ :: _, 0, _ => rfl
  | q :: g, i + 1, h => by
    show oL q.1 rI q.2 :: putO (owns rI g ++ Z) i (oL (g.getD i (0, [])).1 rI row) = oL q.1 rI q.2 :: (owns rI (g.set i ((g.getD i (0, [])).1, row)) ++ Z)
    rw [putO_at (g := g) (by simpa using h)]
/-- the outer list and all inner ones stay from now on -/
theorem nx_keepG {i : Nat} {b : Addr} {o : Own} {sl : List Ent} {L : List Grp} (hi : gt sl i = eR rA b) (n : Nx W N ⟨put sl i (eR (rL (rL (rL rI))) (L.map fun g => g.map (·.2))), [o]⟩) : Nx W N ⟨sl, oL b (rL rA) (L.map fun g => g.map (·.1)) :: o :: owns rI L.flatten⟩ := fun σ G H e => by
  obtain ⟨G1, e1, up1, all⟩ := En.keepAll (pre := [oL b (rL rA) (L.map fun g => g.map (·.1)), o]) e
  obtain ⟨G2, h, e2, h2, vs, rfl, t⟩ := e1.lo'.keep (j := 0) rfl rfl fun ps ⟨vs, z, _⟩ => nomatch z
  have up : In G G2 := fun b o q => e2.lo b o (up1 b o q)
  have hb : ∀ g ∈ L, Held G2 g := fun g hg q hq => by
    obtain ⟨ws, w1, w2⟩ := all q (List.mem_flatten.mpr ⟨g, hg, hq⟩)
    exact ⟨ws, e2.lo _ _ w1, w2.imp fun _ _ z => z⟩
  have t2 := lift2 (vs := []) hb t
  have e3 : En W G2 H σ ⟨sl, [o]⟩ := ⟨e2.toEo, e2.fz, fun b o q => up b o (e.lo b o q), e2.ok, e2.nd⟩
  obtain ⟨v, hv, w, ew, hw⟩ := e3.sl.get i hi fun o => eR_some
  cases ew
  have hw : v = .ref b := hw
  have q := e3.slots (e3.sl.put (o := some v) i (eR (rL (rL (rL rI))) (L.map fun g => g.map (·.2))) ⟨v, rfl, b, vs, hw, h2, t2⟩)
  have es : σ.set i (some v) = σ := by
    apply List.ext_getElem?
    intro k
    by_cases hk : i = k
    · subst hk
      rw [hv]
      exact List.getElem?_set_self (List.getElem?_eq_some_iff.mp hv).1
    · exact List.getElem?_set_ne hk
  rw [es] at q
  exact n σ G2 H q
theorem drop_app {K : PySem.W.Frag} {to te : TE} {D : Ends} {σ : L2.St} {H : Hp} (h : to σ H fun x H1 => tyV K "list" x H1 ∧ te σ H1 fun y H2 => rAppend x [y] H2 fun _ H3 => D.nx σ H3) : tDrop (tBM K "list" rAppend to (tCons te tNil)) D σ H := h
theorem En.to {Γ Γ' : Ct} (e : En W G H σ Γ) (h : Le Γ Γ') : En W G H σ Γ' := h.en e
theorem nx_to {Γ Γ' : Ct} (n : Nx W N Γ') (h : Le Γ Γ') : Nx W N Γ := nx_le h n
end
end Dg
end
section
set_option Elab.async false
set_option linter.all false
set_option maxRecDepth 100000
set_option maxHeartbeats 4000000
/-! The class Space. -/
namespace Dg
open PySem PySem.Spec PyProof.Rows L2

structure SpA where
  s : Addr
  C : Addr
  b : Addr
  p : Int
  V : Nat
  lines : List SLine
  v : List Int
/-- a space, as its methods want it -/
structure SpH (i : SpA) (G H : Hp) : Prop where
  obj : ∃ dx, H i.s = some (.ins i.C dx (fsOf i.p i.lines.length i.b))
  lst : ∃ vs, H i.b = some (.lst vs) ∧ Al (rTr rN (rL rI) (rL rI) G H) vs i.lines
  pm : Pm i.p
  sl : SL i.p i.V i.lines
  few : i.lines.length ≤ 1000
  vl : i.v.length = i.V
  vm : i.V ≤ 1000
  vn : Nm i.p i.v
abbrev sp_s_init (C : Addr) : Sp := spW (ι := Addr × Int) (fun t => aC rA t.1 (aC rI t.2 aN)) (fun t G H => (∃ dx, H t.1 = some (.ins C dx [])) ∧ G t.1 = none) (fun t => [t.1])
  (fun t H G' H' v => v = .non ∧ ∃ b dx, H b = none ∧ H' t.1 = some (.ins C dx (fsOf t.2 0 b)) ∧ H' b = some (.lst []) ∧ G' b = none)
abbrev sp_s_brought_down (C : Addr) : Sp := spW (ι := SpA) (fun i => aC rA i.s (aC (rT rI) i.v aN)) (fun i G H => i.C = C ∧ SpH i G H) (fun _ => [])
  (fun i _ G' H' w => rPr (rL rI) (rL rI) G' H' w (bdM i.p i.lines.length i.lines i.v))
abbrev sp_s_mix_of (C : Addr) : Sp := spW (ι := SpA) (fun i => aC rA i.s (aC (rT rI) i.v aN)) (fun i G H => i.C = C ∧ SpH i G H) (fun _ => [])
  (fun i _ G' H' w => rO (rT rI) G' H' w (mixM i.p i.lines.length i.lines i.v))
abbrev sp_s_take (C : Addr) : Sp := spW (ι := SpA) (fun i => aC rA i.s (aC (rT rI) i.v aN)) (fun i G H => (i.C = C ∧ SpH i G H) ∧ G i.s = none ∧ G i.b = none ∧ (bdM i.p i.lines.length i.lines i.v).1.any (fun n => n != 0) = true) (fun i => [i.s, i.b])
  (fun i _ G' H' w => w = .non ∧ (∃ dx, H' i.s = some (.ins i.C dx (fsOf i.p (i.lines.length + 1) i.b))) ∧ ∃ vs, H' i.b = some (.lst vs) ∧ Al (rTr rN (rL rI) (rL rI) G' H') vs (i.lines ++ [takeM i.p i.lines.length i.lines i.v]))

section
variable {P : Program} {w : World} {K : PySem.W.Frag} {mg : Str → Option Value} {base : Heap}


theorem sc_s_init : FnScope ["self", "p"] ["self", "p"] (defScope (inClass (top 15) 0)) := ⟨rfl, rfl, rfl, by decide +kernel, rfl, by decide +kernel, by decide +kernel⟩
theorem b_s_init (h : Hd K mg) : Binds K h.fd_s_init ["self", "p"] [] := h.F_s_init.bindsN fun _ _ _ _ _ _ us hl => match us, hl with | [_, _], _ => rfl
theorem ok_s_init (h : Hd K mg) : FnOk P w K mg base CX0 1 h.f_s_init h.fd_s_init ["self", "p"] (sp_s_init h.C) := by
  have nd := sc_s_init.nd
  refine h.F_s_init.ok sc_s_init (fun vs H Q E h => ?_) (fun cdv A outer s H vs Q E hr hsp => ⟨_, PSs.nox
    (pss_cons (ps_fld (pv 0) (pv 1) (by rfl))
    (pss_cons (ps_fld (pv 0) pe_int (by rfl))
    (pss_one (ps_fld (pv 0) (pe_lst pa_nil) (by rfl))))), ?_⟩)
  · obtain ⟨i, G, _, ⟨_, _, rfl, _, ⟨_, _, rfl, _, rfl⟩⟩, _⟩ := h
    rfl
  obtain ⟨⟨s, p⟩, G, d, ⟨_, _, rfl, h0, _, _, rfl, h1, rfl⟩, ⟨⟨dx, hd⟩, hg⟩, q⟩ := hsp
  dsimp only at hd hg q h0 h1
  refine (?_ : Nx ⟨[s], G, H, G⟩ _ ⟨[eR rA s, eR rI p], [oI s h.C [] .par]⟩) _ G H ⟨⟨d, ⟨⟨_, rfl, h0⟩, ⟨_, rfl, Go.go h1⟩, trivial⟩, fun o ho => ?_⟩, (Fz.refl d).toS, fun _ _ h => h, fun o ho => ?_, by show [s].Nodup; simp⟩
  · refine s_fld (r := rI) 0 (fun e => (lk e 1 rfl)) (fun e => lk e 0 rfl) rfl (fun z => nomatch z) h.cC h.na_prime (fun _ _ _ z => z) (by decide) ?_
    refine s_fld (r := rI) 0 (fun e => ev_i) (fun e => lk e 0 rfl) rfl (fun z => nomatch z) h.cC h.na_many (fun _ _ _ z => z) (of_decide_eq_true (by kernel_rfl)) ?_
    refine nx_fldN (r := rTr rN (rL rI) (rL rI)) 0 (fun e => (en_lst el_n (by simp))) (fun e => lk e 0 rfl) rfl (fun z => nomatch z) h.cC h.na_lines (of_decide_eq_true (by kernel_rfl)) (fun b => ?_)
    intro σ G' H' e
    obtain ⟨h1, g1, g2, dx', g3⟩ := e.ow _ (List.mem_cons_of_mem _ List.mem_cons_self)
    rw [g3] at g1
    obtain ⟨vs, g4, g5, g6⟩ := e.lst (j := 0) rfl (fun z => nomatch z)
    cases g6
    have h0b : H b = none := e.ok _ List.mem_cons_self
    exact q .non G' H' e.fz ⟨rfl, b, dx', h0b, g1, g4, g5⟩
  · have ho := List.mem_singleton.mp ho
    subst ho
    exact ⟨_, hd, fun _ => hg, dx, rfl⟩
  · have ho := List.mem_singleton.mp ho
    subst ho
    exact List.mem_singleton.mpr rfl


theorem sc_s_brought_down : FnScope ["self", "vector", "left", "mix", "place", "line", "numbers", "often", "at", "number", "old", "more"] ["self", "vector"] (defScope (inClass (top 15) 1)) := ⟨rfl, rfl, rfl, by decide +kernel, rfl, by decide +kernel, by decide +kernel⟩
theorem b_s_brought_down (h : Hd K mg) : Binds K h.fd_s_brought_down ["self", "vector"] [] := h.F_s_brought_down.bindsN fun _ _ _ _ _ _ us hl => match us, hl with | [_, _], _ => rfl
theorem ok_s_brought_down (h : Hd K mg) : FnOk P w K mg base CX0 1 h.f_s_brought_down h.fd_s_brought_down ["self", "vector"] (sp_s_brought_down h.C) := by
  have nd := sc_s_brought_down.nd
  refine h.F_s_brought_down.ok sc_s_brought_down (fun vs H Q E h => ?_) (fun cdv A outer s H vs Q E hr hsp => ⟨_, PSs.nox
    (pss_cons (ps_set (i := 2) nd rfl (by first | exact .inl rfl | exact .inr rfl) (pe_callTy (k_list (K := K) rfl) rfl h.b_list (by decide +kernel) (pa_cons (pv 1) pa_nil)))
    (pss_cons (ps_set (i := 3) nd rfl (by first | exact .inl rfl | exact .inr rfl) (pe_op op_rep (pe_lst (pa_cons pe_int pa_nil)) (k_fld (K := K) rfl (pv 0))))
    (pss_cons (ps_for PassesOwn.never rfl (k_piL (K := K) rfl (k_fld (K := K) rfl (pv 0))) (k_tup (K := K) (n := 3) rfl rfl (pgs_cons (pg_name (i := 4) nd rfl (by first | exact .inl rfl | exact .inr rfl)) (pgs_cons (pg_name (i := 5) nd rfl (by first | exact .inl rfl | exact .inr rfl)) (pgs_cons (pg_name (i := 6) nd rfl (by first | exact .inl rfl | exact .inr rfl)) pgs_nil)))) (pss_cons (ps_set (i := 7) nd rfl (by first | exact .inl rfl | exact .inr rfl) (pe_ix (k_ixL (K := K) rfl) (pv 2) (pv 4) (fun _ _ => rfl)))
    (pss_one (ps_if (pt_cmpR op_ne (pv 7) pe_int (nomark _)) (pss_cons (ps_setLc (i := 2) rfl nd rfl rfl (sw_true rfl rfl rfl (by decide +kernel)) (k_piZ (K := K) rfl true true rfl h.b_zip (pa_cons (pv 2) (pa_cons (pv 5) pa_nil))) (blkOk_by (own := [("old", 10), ("more", 11)]) (by kernel_rfl)) (fun _ _ _ _ _ => (by exact (k_tup (K := K) (n := 2) rfl rfl (pgs_cons (pg_name (i := 10) nd rfl (by first | exact .inl rfl | exact .inr rfl)) (pgs_cons (pg_name (i := 11) nd rfl (by first | exact .inl rfl | exact .inr rfl)) pgs_nil))))) (fun _ _ _ _ _ => pts_nil) (fun _ _ _ _ _ => (pe_op op_mod (pe_op op_sub (pv 10) (pe_op op_mul (pv 7) (pv 11))) (k_fld (K := K) rfl (pv 0)))))
    (pss_one (ps_for PassesOwn.never rfl (k_piE (K := K) rfl rfl h.b_enumerate (pa_cons (pv 6) pa_nil)) (k_tup (K := K) (n := 2) rfl rfl (pgs_cons (pg_name (i := 8) nd rfl (by first | exact .inl rfl | exact .inr rfl)) (pgs_cons (pg_name (i := 9) nd rfl (by first | exact .inl rfl | exact .inr rfl)) pgs_nil))) (pss_one (ps_asg (pe_op op_mod (pe_op op_add (pe_ix (k_ixL (K := K) rfl) (pv 3) (pv 8) (fun _ _ => rfl)) (pe_op op_mul (pv 7) (pv 9))) (k_fld (K := K) rfl (pv 0))) (pg_sub (pv 3) (pv 8) set_list)))))) pss_nil))))
    (pss_one (ps_ret (pe_tup (pa_cons (pv 2) (pa_cons (pv 3) pa_nil)))))))), ?_⟩)
  · obtain ⟨i, G, _, ⟨_, _, rfl, _, ⟨_, _, rfl, _, rfl⟩⟩, _⟩ := h
    rfl
  obtain ⟨i, G, d, ⟨_, _, rfl, h0, _, _, rfl, h1, rfl⟩, ⟨hC, sp⟩, q⟩ := hsp
  obtain ⟨dx, hd⟩ := sp.obj
  obtain ⟨us, hb, tb⟩ := sp.lst
  have hpm := sp.pm
  have p0 := hpm.pos
  have few := sp.few
  have vl := sp.vl
  have vm := sp.vm
  rw [hC] at hd
  have ne : i.s ≠ i.b := fun z => by
    rw [z, hb] at hd
    cases hd
  refine (?_ : Nx ⟨[], G, H, G⟩ _ ⟨[eR rA i.s, eR (rT rI) i.v, eAny, eAny, eAny, eAny, eAny, eAny, eAny, eAny, eAny, eAny], [oI i.s h.C (fsOf i.p i.lines.length i.b) .ro, oF i.b us (rTr rN (rL rI) (rL rI)) i.lines]⟩) _ G H ⟨⟨d, ⟨⟨_, rfl, h0⟩, ⟨_, rfl, Go.go h1⟩, trivial, trivial, trivial, trivial, trivial, trivial, trivial, trivial, trivial, trivial, trivial⟩, fun o ho => ?_⟩, (Fz.refl d).toS, fun _ _ h => h, fun o ho => ?_, ?_⟩
  · refine s_asg (fun e => (ev_list (lk e 1 rfl))) ?_
    refine s_own (xs := List.replicate i.lines.length 0) (fun e => EvN.is (en_rep (ev_lst (el_c ev_i el_n) (by simp)) (ev_nI (ev_fld e 0 (lk e 0 rfl) rfl h.cC h.na_many rfl (fun _ _ => rfl))) ?_ ?_) (by rw [Int.toNat_natCast])) fun a => ?_
    · omega
    · omega
    refine s_fold (fun e => (ei_at e 2 (ev_fld e 1 (lk e 0 rfl) rfl h.cC h.na_lines rfl (fun _ _ => rfl)) rfl)) (fun _ s => (s.1.length = i.V ∧ Nm i.p s.1) ∧ (s.2.length = i.lines.length ∧ Nm i.p s.2)) (fun s => ⟨[eR rA i.s, eR (rT rI) i.v, eR (rL rI) s.1, eR rA a, eAny, eAny, eAny, eAny, eAny, eAny, eAny, eAny], [oL a rI s.2, oI i.s h.C (fsOf i.p i.lines.length i.b) .ro, oF i.b us (rTr rN (rL rI) (rL rI)) i.lines]⟩) (bdS i.p) (i.v, List.replicate i.lines.length 0) (fun x => [(4, eR rN x.1), (5, eR (rL rI) x.2.1), (6, eR (rL rI) x.2.2)]) ⟨by repeat' (first | exact SubE.nil | apply SubE.any | apply SubE.same), List.Sublist.refl _⟩ ⟨⟨vl, sp.vn⟩, List.length_replicate, .rep0 p0 _⟩ (fun x hx => (tg_u (tga_c (tga_c (tga_c tga_n))) (by rfl))) ?_ ?_ ?_
    · intro b hb
      have hb := List.mem_singleton.mp hb
      exact ⟨us, fun y => ⟨_, List.mem_cons_of_mem _ (List.mem_cons_of_mem _ List.mem_cons_self), hb.symm, fun G h hh => hh.1⟩⟩
    · intro W' f1 f2 f3 k s ln hln ⟨s1, s2⟩
      have wq := sp.sl.wf ln (List.mem_of_getElem? hln)
      refine ⟨bdS_ok p0 s1 s2 wq, ?_⟩
      refine s_asg (fun e => (ev_gLn (d := 0) (lk e 2 rfl) (lk e 4 rfl) ?_)) ?_
      · show ln.1 < s.1.length; omega
      refine nx_if (fun e => (et_t (ev_neI (lk e 7 rfl) ev_i))) (fun hc => ?_) (fun hc => ?_)
      · have hc : s.1.getD ln.1 0 ≠ 0 := by simpa using hc
        have eb : bdS i.p s ln = ((s.1.zip ln.2.1).map fun w => (w.1 - s.1.getD ln.1 0 * w.2) % i.p, mixS i.p (s.1.getD ln.1 0) s.2 ln.2.2) := by unfold bdS; rw [if_pos hc]
        rw [eb]
        have ob := s1.2.getD p0 ln.1
        generalize s.1.getD ln.1 0 = often at ob ⊢
        refine s_asg (fun e => (en_lc1 e (ei_z (lk e 2 rfl) (lk e 5 rfl)) ?_ (fun x => [(10, eR rI x.1), (11, eR rI x.2)]) (fun x hx => (tg_u (tga_c (tga_c tga_n)) (by rfl))) (by simp) (fun x hx σ2 G2 H2 e2 => (ev_mod (ev_sub (lk e2 10 rfl) (ev_mul (lk e2 7 rfl) (lk e2 11 rfl) ?_)) (ev_fld e2 1 (lk e2 0 rfl) rfl h.cC h.na_prime rfl (fun _ _ => rfl)) ?_))).ev) ?_
        · rw [List.length_zip]; omega
        · exact mulOkL hpm ob
        · exact p0
        unfold mixS
        refine nx_fold (fun e => (ei_el (lk e 6 rfl))) (fun _ acc => acc.length = i.lines.length) (fun acc => ⟨[eR rA i.s, eR (rT rI) i.v, eR (rL rI) ((s.1.zip ln.2.1).map fun w => (w.1 - often * w.2) % i.p), eR rA a, eAny, eAny, eAny, eR rI often, eAny, eAny, eAny, eAny], [oL a rI acc, oI i.s h.C (fsOf i.p i.lines.length i.b) .ro, oF i.b us (rTr rN (rL rI) (rL rI)) i.lines]⟩) (fun acc q => acc.set q.1 ((acc.getD q.1 0 + often * q.2) % i.p)) s.2 (fun x => [(8, eR rN x.1), (9, eR rI x.2)]) ⟨by repeat' (first | exact SubE.nil | apply SubE.any | apply SubE.same), List.Sublist.refl _⟩ s2.1 (fun x hx => (tg_u (tga_c (tga_c tga_n)) (by rfl))) (by simp) ?_ ?_
        · intro W2 g1 g2 g3 m acc w hw hl
          obtain ⟨w1, w2, w3⟩ := enumL_mem (List.mem_of_getElem? hw)
          refine ⟨by rw [List.length_set]; exact hl, ?_⟩
          refine nx_put 0 w.1 (fun e => (ev_mod (ev_add (ev_gLn (d := 0) (lkO e 3 0 rfl rfl) (lk e 8 rfl) ?_) (ev_mul (lk e 7 rfl) (lk e 9 rfl) ?_)) (ev_fld e 1 (lk e 0 rfl) rfl h.cC h.na_prime rfl (fun _ _ => rfl)) ?_)) (fun e => lk e 3 rfl) (fun e => (ev_nI (lk e 8 rfl))) rfl rfl (by omega) (fun z => nomatch z) (nx_end ⟨by repeat' (first | exact SubE.nil | apply SubE.any | apply SubE.same), List.Sublist.refl _⟩)
          · omega
          · exact mulOkL hpm ob
          · exact p0
        · intro _
          exact nx_end ⟨by repeat' (first | exact SubE.nil | apply SubE.any | apply SubE.same), List.Sublist.refl _⟩
      · have hc : s.1.getD ln.1 0 = 0 := by simpa using hc
        have eb : bdS i.p s ln = s := by unfold bdS; rw [if_neg (fun z => z hc)]
        rw [eb]
        exact nx_next (nx_end ⟨by repeat' (first | exact SubE.nil | apply SubE.any | apply SubE.same), List.Sublist.refl _⟩)
    · intro _
      refine nx_keep 3 0 rfl rfl ?_
      exact nx_ret (r := rPr (rL rI) (rL rI)) (x := bdM i.p i.lines.length i.lines i.v) (fun e => (ev_pr (lk e 2 rfl) (lk e 3 rfl))) (fun σ v G' H' e hv => q v G' H' e.fz hv)
  · rcases List.mem_cons.mp ho with ho | ho
    · subst ho
      exact ⟨_, hd, fun z => absurd rfl z, dx, rfl⟩
    · have ho := List.mem_singleton.mp ho
      subst ho
      exact ⟨_, hb, fun z => absurd rfl z, rfl, tb.imp fun _ _ q => Go.go q⟩
  · rcases List.mem_cons.mp ho with ho | ho
    · subst ho
      trivial
    · have ho := List.mem_singleton.mp ho
      subst ho
      trivial
  · show [i.s, i.b].Nodup
    simp [ne]


theorem sc_s_mix_of : FnScope ["self", "vector", "left", "mix"] ["self", "vector"] (defScope (inClass (top 15) 2)) := ⟨rfl, rfl, rfl, by decide +kernel, rfl, by decide +kernel, by decide +kernel⟩
theorem b_s_mix_of (h : Hd K mg) : Binds K h.fd_s_mix_of ["self", "vector"] [] := h.F_s_mix_of.bindsN fun _ _ _ _ _ _ us hl => match us, hl with | [_, _], _ => rfl
theorem ok_s_mix_of (h : Hd K mg) : FnOk P w K mg base CX0 2 h.f_s_mix_of h.fd_s_mix_of ["self", "vector"] (sp_s_mix_of h.C) := by
  have nd := sc_s_mix_of.nd
  refine h.F_s_mix_of.ok sc_s_mix_of (fun vs H Q E h => ?_) (fun cdv A outer s H vs Q E hr hsp => ⟨_, PSs.nox
    (pss_cons (ps_asg (pe_meth (pv 0) h.cC h.mt_brought_down (ok_s_brought_down h) (hr.mono (by decide)) (b_s_brought_down h) .nil pass0 (pa_cons (pv 1) pa_nil)) (k_tup (K := K) (n := 2) rfl rfl (pgs_cons (pg_name (i := 2) nd rfl (by first | exact .inl rfl | exact .inr rfl)) (pgs_cons (pg_name (i := 3) nd rfl (by first | exact .inl rfl | exact .inr rfl)) pgs_nil))))
    (pss_cons (ps_if (pt_val (pe_callB (k_anyI (K := K) rfl true rfl) rfl h.b_any (by decide +kernel) (pa_cons (pv 2) pa_nil))) (pss_one (ps_ret pe_non)) pss_nil)
    (pss_one (ps_ret (pe_callTy (k_tuple (K := K) rfl) rfl h.b_tuple (by decide +kernel) (pa_cons (pv 3) pa_nil)))))), ?_⟩)
  · obtain ⟨i, G, _, ⟨_, _, rfl, _, ⟨_, _, rfl, _, rfl⟩⟩, _⟩ := h
    rfl
  obtain ⟨i, G, d, ⟨_, _, rfl, h0, _, _, rfl, h1, rfl⟩, hsp0, q⟩ := hsp
  obtain ⟨hC2, sp2⟩ := hsp0
  obtain ⟨dx, hd⟩ := sp2.obj
  obtain ⟨us, hb, tb⟩ := sp2.lst
  have hpm := sp2.pm
  have p0 := hpm.pos
  have few := sp2.few
  have vl := sp2.vl
  have vm := sp2.vm
  rw [hC2] at hd
  have ne : i.s ≠ i.b := fun z => by
    rw [z, hb] at hd
    cases hd
  obtain ⟨⟨bl, bn⟩, ml, mn⟩ := bdM_ok p0 sp2.sl ⟨vl, sp2.vn⟩
  refine (?_ : Nx ⟨[], G, H, G⟩ _ ⟨[eR rA i.s, eR (rT rI) i.v, eAny, eAny], [oI i.s h.C (fsOf i.p i.lines.length i.b) .ro, oF i.b us (rTr rN (rL rI) (rL rI)) i.lines]⟩) _ G H ⟨⟨d, ⟨⟨_, rfl, h0⟩, ⟨_, rfl, Go.go h1⟩, trivial, trivial, trivial⟩, fun o ho => ?_⟩, (Fz.refl d).toS, fun _ _ h => h, fun o ho => ?_, ?_⟩
  · refine s_meth (r := rPr (rL rI) (rL rI)) (x := bdM i.p i.lines.length i.lines i.v) 0 i (fun e => lk e 0 rfl) rfl rfl (fun e => ea_c (lk e 1 rfl) ea_n) (fun G H vs z => ⟨_, _, rfl, rfl, z⟩) (fun σ G H e => ⟨hC2, ?_⟩) rfl (fun _ _ _ _ z => z) (tg_u (tga_c (tga_c tga_n)) (by rfl)) ?_
    · obtain ⟨dx', hd'⟩ := e.toEo.ins (j := 0) rfl
      obtain ⟨h, g1, _, g2, g3⟩ := e.ow _ (List.mem_cons_of_mem _ List.mem_cons_self)
      rw [g2] at g1
      exact ⟨⟨dx', by rw [hC2]; exact hd'⟩, ⟨us, g1, g3.imp fun _ _ q => Go.go q⟩, hpm, sp2.sl, few, vl, vm, sp2.vn⟩
    refine s_if1 (fun e => (et_b (ev_anyI (lk e 2 rfl)))) (fun hc => ?_) (fun hc => ?_)
    · refine nx_ret (r := rO (rT rI)) (x := mixM i.p i.lines.length i.lines i.v) (te := tC .non) (fun e G1 H1 f Q q => q _ G1 H1 (Fz.refl f.gd) ?_) (fun σ v G' H' e hv => by exact q v G' H' e.fz hv)
      unfold mixM
      rw [if_pos hc]
      rfl
    · refine nx_ret (r := rO (rT rI)) (x := mixM i.p i.lines.length i.lines i.v) (fun e => ?_) (fun σ v G' H' e hv => by exact q v G' H' e.fz hv)
      unfold mixM
      rw [if_neg (by rw [hc]; exact Bool.false_ne_true)]
      exact ev_some (ev_tupleL (lk e 3 rfl))
  · rcases List.mem_cons.mp ho with ho | ho
    · subst ho
      exact ⟨_, hd, fun z => absurd rfl z, dx, rfl⟩
    · have ho := List.mem_singleton.mp ho
      subst ho
      exact ⟨_, hb, fun z => absurd rfl z, rfl, tb.imp fun _ _ q => Go.go q⟩
  · rcases List.mem_cons.mp ho with ho | ho
    · subst ho
      trivial
    · have ho := List.mem_singleton.mp ho
      subst ho
      trivial
  · show [i.s, i.b].Nodup
    simp [ne]


theorem sc_s_take : FnScope ["self", "vector", "left", "mix", "place", "often", "line", "numbers", "number", "at"] ["self", "vector"] (defScope (inClass (top 15) 3)) := ⟨rfl, rfl, rfl, by decide +kernel, rfl, by decide +kernel, by decide +kernel⟩
theorem b_s_take (h : Hd K mg) : Binds K h.fd_s_take ["self", "vector"] [] := h.F_s_take.bindsN fun _ _ _ _ _ _ us hl => match us, hl with | [_, _], _ => rfl
theorem ok_s_take (h : Hd K mg) : FnOk P w K mg base CX0 2 h.f_s_take h.fd_s_take ["self", "vector"] (sp_s_take h.C) := by
  have nd := sc_s_take.nd
  refine h.F_s_take.ok sc_s_take (fun vs H Q E h => ?_) (fun cdv A outer s H vs Q E hr hsp => ⟨_, PSs.nox
    (pss_cons (ps_asg (pe_meth (pv 0) h.cC h.mt_brought_down (ok_s_brought_down h) (hr.mono (by decide)) (b_s_brought_down h) .nil pass0 (pa_cons (pv 1) pa_nil)) (k_tup (K := K) (n := 2) rfl rfl (pgs_cons (pg_name (i := 2) nd rfl (by first | exact .inl rfl | exact .inr rfl)) (pgs_cons (pg_name (i := 3) nd rfl (by first | exact .inl rfl | exact .inr rfl)) pgs_nil))))
    (pss_cons (ps_set (i := 4) nd rfl (by first | exact .inl rfl | exact .inr rfl) (pe_ix (k_ixL (K := K) rfl) (pe_lc rfl nd (k_piE (K := K) rfl rfl h.b_enumerate (pa_cons (pv 2) pa_nil)) (blkOk_by (own := [("at", 9), ("number", 8)]) (by kernel_rfl)) (fun _ _ _ _ _ => (by exact (k_tup (K := K) (n := 2) rfl rfl (pgs_cons (pg_name (i := 9) nd rfl (by first | exact .inl rfl | exact .inr rfl)) (pgs_cons (pg_name (i := 8) nd rfl (by first | exact .inl rfl | exact .inr rfl)) pgs_nil))))) (fun _ _ _ _ _ => pts_one (pt_cmpR op_ne (pv 8) pe_int (nomark _))) (fun _ _ _ _ _ => (pv 9))) pe_int (fun _ _ => rfl)))
    (pss_cons (ps_set (i := 5) nd rfl (by first | exact .inl rfl | exact .inr rfl) (pe_call (ok_back_of h) (hr.mono (by decide)) rfl h.g_back_of h.F_back_of.kp (b_back_of h) .nil pass0 (pa_cons (k_fld (K := K) rfl (pv 0)) (pa_cons (pe_ix (k_ixL (K := K) rfl) (pv 2) (pv 4) (fun _ _ => rfl)) pa_nil))))
    (pss_cons (ps_setLc (i := 6) rfl nd rfl rfl (sw_true rfl rfl rfl (by decide +kernel)) (k_piL (K := K) rfl (pv 2)) (blkOk_by (own := [("number", 8)]) (by kernel_rfl)) (fun _ _ _ _ _ => (by exact (pg_name (i := 8) nd rfl (by first | exact .inl rfl | exact .inr rfl)))) (fun _ _ _ _ _ => pts_nil) (fun _ _ _ _ _ => (pe_op op_mod (pe_op op_mul (pv 5) (pv 8)) (k_fld (K := K) rfl (pv 0)))))
    (pss_cons (ps_set (i := 7) nd rfl (by first | exact .inl rfl | exact .inr rfl) (pe_op op_cat (pe_lc rfl nd (k_piL (K := K) rfl (pv 3)) (blkOk_by (own := [("number", 8)]) (by kernel_rfl)) (fun _ _ _ _ _ => (by exact (pg_name (i := 8) nd rfl (by first | exact .inl rfl | exact .inr rfl)))) (fun _ _ _ _ _ => pts_nil) (fun _ _ _ _ _ => (pe_op op_mod (pe_op op_mul (pe_un un_neg (pv 5)) (pv 8)) (k_fld (K := K) rfl (pv 0))))) (pe_lst (pa_cons (pv 5) pa_nil))))
    (pss_cons (ps_expr (pe_bm PySem.F.plainAttrs_list PySem.F.slot_list_append PySem.F.type_list_append mt_append (k_fld (K := K) rfl (pv 0)) (pa_cons (pe_tup (pa_cons (pv 4) (pa_cons (pv 6) (pa_cons (pv 7) pa_nil)))) pa_nil)))
    (pss_one (ps_fld (pv 0) (pe_op op_add (k_fld (K := K) rfl (pv 0)) pe_int) (by rfl))))))))), ?_⟩)
  · obtain ⟨i, G, _, ⟨_, _, rfl, _, ⟨_, _, rfl, _, rfl⟩⟩, _⟩ := h
    rfl
  obtain ⟨i, G, d, ⟨_, _, rfl, h0, _, _, rfl, h1, rfl⟩, ⟨hsp0, hgs, hgb, hany⟩, q⟩ := hsp
  obtain ⟨hC2, sp2⟩ := hsp0
  obtain ⟨dx, hd⟩ := sp2.obj
  obtain ⟨us, hb, tb⟩ := sp2.lst
  have hpm := sp2.pm
  have p0 := hpm.pos
  have few := sp2.few
  have vl := sp2.vl
  have vm := sp2.vm
  rw [hC2] at hd
  have ne : i.s ≠ i.b := fun z => by
    rw [z, hb] at hd
    cases hd
  obtain ⟨⟨bl, bn⟩, ml, mn⟩ := bdM_ok p0 sp2.sl ⟨vl, sp2.vn⟩
  refine (?_ : Nx ⟨[i.s, i.b], G, H, G⟩ _ ⟨[eR rA i.s, eR (rT rI) i.v, eAny, eAny, eAny, eAny, eAny, eAny, eAny, eAny], [oI i.s h.C (fsOf i.p i.lines.length i.b) .par, oL i.b (rTr rN (rL rI) (rL rI)) i.lines .par]⟩) _ G H ⟨⟨d, ⟨⟨_, rfl, h0⟩, ⟨_, rfl, Go.go h1⟩, trivial, trivial, trivial, trivial, trivial, trivial, trivial, trivial, trivial⟩, fun o ho => ?_⟩, (Fz.refl d).toS, fun _ _ h => h, fun o ho => ?_, ?_⟩
  · refine s_meth (r := rPr (rL rI) (rL rI)) (x := bdM i.p i.lines.length i.lines i.v) 0 i (fun e => lk e 0 rfl) rfl rfl (fun e => ea_c (lk e 1 rfl) ea_n) (fun G H vs z => ⟨_, _, rfl, rfl, z⟩) (fun σ G H e => ⟨hC2, ?_⟩) rfl (fun _ _ _ _ z => z) (tg_u (tga_c (tga_c tga_n)) (by rfl)) ?_
    · obtain ⟨dx', hd'⟩ := e.toEo.ins (j := 0) rfl
      obtain ⟨ws, g1, _, g3⟩ := e.lst (j := 1) rfl (fun z => nomatch z)
      exact ⟨⟨dx', by rw [hC2]; exact hd'⟩, ⟨ws, g1, g3⟩, hpm, sp2.sl, few, vl, vm, sp2.vn⟩
    obtain ⟨t1, t2, t3⟩ := firstAt_ok hany
    have tb := bn.getD p0 ((firstAt (bdM i.p i.lines.length i.lines i.v).1).getD 0 0)
    have bb := back_lt (back_ne' hpm tb.1 tb.2 t3)
    have p5 := hpm.le
    refine s_asg (x := (firstAt (bdM i.p i.lines.length i.lines i.v).1).getD 0 0) (fun e => (ev_gLn (d := 0) (en_lc e (ei_el (lk e 2 rfl)) ?_ (fun x => [(9, eR rN x.1), (8, eR rI x.2)]) (fun x hx => (tg_u (tga_c (tga_c tga_n)) (by rfl))) (by simp) (fun x hx σ2 G2 H2 e2 => (et_t (ev_neI (lk e2 8 rfl) ev_i))) (fun x hx hk σ2 G2 H2 e2 => (lk e2 9 rfl))).ev (ev_litN 0) ?_)) ?_
    · rw [enumL_length]; omega
    · exact t1
    refine s_asg (x := back i.p ((bdM i.p i.lines.length i.lines i.v).1.getD ((firstAt (bdM i.p i.lines.length i.lines i.v).1).getD 0 0) 0)) (fun e => (ev_back_of (ea_c (ev_fld e 0 (lk e 0 rfl) rfl h.cC h.na_prime rfl (fun _ _ => rfl)) (ea_c (ev_gLn (d := 0) (lk e 2 rfl) (lk e 4 rfl) ?_) ea_n)) ?_)) ?_
    · exact t2
    · exact ⟨hpm, tb.1, tb.2, t3⟩
    refine s_asg (fun e => (en_lc1 e (ei_l (lk e 2 rfl)) ?_ (fun x => [(8, eR rI x)]) (fun x hx => (tg_n 8)) (by simp) (fun x hx σ2 G2 H2 e2 => (ev_mod (ev_mul (ev_nI (lk e2 5 rfl)) (lk e2 8 rfl) ?_) (ev_fld e2 0 (lk e2 0 rfl) rfl h.cC h.na_prime rfl (fun _ _ => rfl)) ?_))).ev) ?_
    · omega
    · exact Or.inl ⟨by omega, by omega⟩
    · exact p0
    refine s_asg (fun e => (ev_cat (en_lc1 e (ei_l (lk e 3 rfl)) ?_ (fun x => [(8, eR rI x)]) (fun x hx => (tg_n 8)) (by simp) (fun x hx σ2 G2 H2 e2 => (ev_mod (ev_mul (ev_neg (ev_nI (lk e2 5 rfl))) (lk e2 8 rfl) ?_) (ev_fld e2 0 (lk e2 0 rfl) rfl h.cC h.na_prime rfl (fun _ _ => rfl)) ?_))).ev (ev_lst (el_c (ev_nI (lk e 5 rfl)) el_n) (by simp)) ?_)) ?_
    · omega
    · exact Or.inl ⟨by omega, by omega⟩
    · exact p0
    · rw [List.length_map, List.length_singleton]; omega
    refine s_app (r := rTr rN (rL rI) (rL rI)) 1 (x := takeM i.p i.lines.length i.lines i.v) (fun e => ev_fld e 0 (lk e 0 rfl) rfl h.cC h.na_lines rfl (fun _ _ => rfl)) (fun e => (ev_tr (lk e 4 rfl) (lk e 6 rfl) (lk e 7 rfl))) rfl (by omega) (fun z => nomatch z) ?_
    refine nx_fld (r := rN) 0 (w := .int ((i.lines.length + 1 : Nat) : Int)) (fun e => (ev_addN (ev_fld e 0 (lk e 0 rfl) rfl h.cC h.na_many rfl (fun _ _ => rfl)) (ev_litN 1))) (fun e => lk e 0 rfl) rfl (fun z => nomatch z) h.cC h.na_many (fun _ _ _ z => z) (by simp) ?_
    intro σ G' H' e
    obtain ⟨dx', g3⟩ := e.toEo.ins (j := 0) rfl
    obtain ⟨vs, g4, _, g6⟩ := e.lst (j := 1) rfl (fun z => nomatch z)
    exact q .non G' H' e.fz ⟨rfl, ⟨dx', by rw [hC2]; exact g3⟩, vs, g4, g6⟩
  · rcases List.mem_cons.mp ho with ho | ho
    · subst ho
      exact ⟨_, hd, fun _ => hgs, dx, rfl⟩
    · have ho := List.mem_singleton.mp ho
      subst ho
      exact ⟨_, hb, fun _ => hgb, us, rfl, tb.imp fun _ _ q => Go.go q⟩
  · rcases List.mem_cons.mp ho with ho | ho
    · subst ho
      exact List.mem_cons_self
    · have ho := List.mem_singleton.mp ho
      subst ho
      exact List.mem_cons_of_mem _ List.mem_cons_self
  · show [i.s, i.b].Nodup
    simp [ne]

end
end Dg
end
section
set_option Elab.async false
set_option linter.all false
set_option maxRecDepth 100000
set_option maxHeartbeats 4000000
/-! A Space of one's own: made, asked, added to. -/
namespace Dg
open PySem PySem.Spec PyProof.Rows L2
section
variable {K : PySem.W.Frag} {G H G' H' G1 H1 : Hp} {σ : L2.St} {Γ Γ' : Ct} {α β δ ι : Type} {r r0 : Rl α} {r' : Rl β} {x : α} {y : β} {xs ys : List α} {te ta tb to : TE} {tA : TA} {W : Wd} {N : L2.St → Hp → Prop} {D : Ends} {U : TS} {s C b : Addr} {f : Str} {fs : List (Str × V)} {kd : Kd} {E : XK} {p : Int}
abbrev rSL : Rl SLine := rTr rN (rL rI) (rL rI)
theorem s_make {i : Nat} (ha : ∀ {σ G H}, Eo G H σ Γ → EvR ta σ G H rI p) (n : ∀ s b, Nx W (U D) (((Γ.put i (eR rA s)).own (oI s C (fsOf p 0 b))).own (oL b rSL []))) :
    Nx W (tSeq (tAsg (tMake C (sp_s_init C) [] E (tCons ta tNil)) (gName i)) U D) Γ := fun σ G H e =>
  ha e.toEo G H (Fz.refl e.gd) _ fun u G1 H1 f1 eu => by
    intro s dx hs hdx ne
    have e1 := e.step f1
    have z1 := Fz.own (o := .own s) e1.gd hdx
    have hs1 : upd H1 dx (.own s) s = none := by rw [upd_ne (fun z => ne z.symm)]; exact hs
    have z2 := Fz.own (o := .ins C dx []) z1.gd hs1
    have e2 := (e1.step z1).cons z2 (o := oI s C []) rfl hs1 upd_same (e1.gd.free hs) ⟨dx, rfl⟩ rfl
    refine ⟨(s, p), G1, z2.gd, ⟨_, _, rfl, rfl, u, [], rfl, eu, rfl⟩, ⟨⟨dx, upd_same⟩, e1.gd.free hs⟩, fun v G' H' f post => ?_⟩
    obtain ⟨rfl, b, dx', hb, h1, h2, h3⟩ := post
    refine ⟨rfl, ?_⟩
    have e3 := e2.callK (j := 0) (o' := oI s C (fsOf p 0 b)) rfl (fun z => nomatch z) f rfl rfl h1 ⟨dx', rfl⟩
    obtain ⟨w1, w2⟩ := e2.fresh hb
    have e4 := e3.new (o := oL b rSL []) rfl w1 h2 h3 ⟨[], rfl, .nil⟩ w2
    exact n s b _ G' H' (e4.slots (e4.sl.put i _ ⟨_, rfl, rfl⟩))
theorem ev_mix {lines : List SLine} {v : List Int} {V : Nat} (e : Eo G H σ Γ) (j1 j2 : Nat) (ho : EvR to σ G H rA s) (ha : EvR ta σ G H (rT rI) v) (h1 : Γ.ow[j1]? = some (oI s C (fsOf p lines.length b) kd)) (h2 : Γ.ow[j2]? = some (oL b rSL lines kd)) (hp : Pm p) (sl : SL p V lines) (few : lines.length ≤ 1000) (vl : v.length = V) (vm : V ≤ 1000) (vn : Nm p v) :
    EvR (tMeth C "mix_of" (sp_s_mix_of C) [] E to (tCons ta tNil)) σ G H (rO (rT rI)) (mixM p lines.length lines v) := fun G1 H1 f1 Q q =>
  ho G1 H1 f1 _ fun u G2 H2 f2 eu => by
    have e2 := (e.mono f1).mono f2
    obtain ⟨dx, hd⟩ := e2.ins h1
    refine ⟨s, dx, _, eu, hd, rfl, ha G2 H2 (f1.trans f2) _ fun w G3 H3 f3 ew => ?_⟩
    have e3 := e2.mono f3
    obtain ⟨dx3, hd3⟩ := e3.ins h1
    obtain ⟨h, g1, _, ws, g3, g4⟩ := e3.ow _ (List.mem_of_getElem? h2)
    rw [g3] at g1
    refine ⟨⟨s, C, b, p, V, lines, v⟩, G3, f3.gd, ?_, ⟨rfl, ⟨dx3, hd3⟩, ⟨ws, g1, g4.imp fun _ _ q => Go.go q⟩, hp, sl, few, vl, vm, vn⟩, fun v' G' H' f post => q v' G' H' ((f2.trans f3).trans f.to) post⟩
    exact ⟨u, _, rfl, eu, w, [], rfl, ew, rfl⟩
/-- two own objects written by a call -/
theorem En.call2 (e : En W G H σ Γ) {j1 j2 : Nat} {o1 o2 o1' o2' : Own} {k1 k2 : HO} (h1 : Γ.ow[j1]? = some o1) (h2 : Γ.ow[j2]? = some o2) (hj : j1 ≠ j2) (n1 : o1.k ≠ .ro) (n2 : o2.k ≠ .ro) (f : FzS [o1.a, o2.a] G H G' H') (a1 : o1'.a = o1.a) (c1 : o1'.k = o1.k) (a2 : o2'.a = o2.a) (c2 : o2'.k = o2.k)
    (q1 : H' o1.a = some k1) (p1 : o1'.P G' k1) (q2 : H' o2.a = some k2) (p2 : o2'.P G' k2) : En W G' H' σ ((Γ.putO j1 o1').putO j2 o2') := by
  have get2 : ∀ (l : List Own) (j1 j2 : Nat), l[j2]? = some o2 → j1 ≠ j2 → (putO l j1 o1')[j2]? = some o2 := by
    intro l
    induction l with
    | nil => intro j1 j2 h _; simp at h
    | cons u l ih =>
      intro j1 j2 h hne
      cases j1 with
      | zero =>
        cases j2 with
        | zero => exact absurd rfl hne
        | succ j2 => exact h
      | succ j1 =>
        cases j2 with
        | zero => exact h
        | succ j2 => exact ih j1 j2 h (fun z => hne (by rw [z]))
  have nd1 : ((putO Γ.ow j1 o1').map Own.a).Nodup := by rw [putO_map h1 a1]; exact e.nd
  have old : ∀ u ∈ Γ.ow, u.a ≠ o1.a → u.a ≠ o2.a → ∃ h, H' u.a = some h ∧ (u.k ≠ .ro → G' u.a = none) ∧ u.P G' h := fun u hu m1 m2 => by
    obtain ⟨h, g1, g2, g3⟩ := e.ow u hu
    exact ⟨h, f.hh _ _ (by simp [m1, m2]) g1, fun k => f.fr _ (by rw [g1]; exact fun z => nomatch z) (g2 k), u.up g3 f.gg⟩
  have keep : ∀ {o : Own}, o ∈ Γ.ow → o.k ≠ .ro → G' o.a = none := fun {o} ho hk => by
    obtain ⟨h, g1, g2, _⟩ := e.ow o ho
    exact f.fr _ (by rw [g1]; exact fun z => nomatch z) (g2 hk)
  refine ⟨⟨f.gd, e.sl.up f.gg, fun u hu => ?_⟩, e.fz.more f fun b hb => ?_, fun b o h => f.gg b o (e.lo b o h), fun u hu => ?_, ?_⟩
  · rcases mem_putO (get2 _ _ _ h2 hj) nd1 hu with rfl | ⟨m, ne⟩
    · exact ⟨k2, by rw [a2]; exact q2, fun _ => by rw [a2]; exact keep (List.mem_of_getElem? h2) n2, p2⟩
    · rcases mem_putO h1 e.nd m with rfl | ⟨m', ne'⟩
      · exact ⟨k1, by rw [a1]; exact q1, fun _ => by rw [a1]; exact keep (List.mem_of_getElem? h1) n1, p1⟩
      · exact old u m' ne' ne
  · rcases List.mem_cons.mp hb with hb | hb
    · subst hb
      exact okS n1 (e.ok o1 (List.mem_of_getElem? h1))
    · have hb := List.mem_singleton.mp hb
      subst hb
      exact okS n2 (e.ok o2 (List.mem_of_getElem? h2))
  · rcases mem_putO (get2 _ _ _ h2 hj) nd1 hu with rfl | ⟨m, _⟩
    · have q := e.ok o2 (List.mem_of_getElem? h2)
      rw [← a2, ← c2] at q
      exact q
    · rcases mem_putO h1 e.nd m with rfl | ⟨m', _⟩
      · have q := e.ok o1 (List.mem_of_getElem? h1)
        rw [← a1, ← c1] at q
        exact q
      · exact e.ok u m'
  · show ((putO (putO Γ.ow j1 o1') j2 o2').map Own.a).Nodup
    rw [putO_map (get2 _ _ _ h2 hj) a2]
    exact nd1
/-- o.take(v) -/
theorem s_take {lines : List SLine} {v : List Int} {V : Nat} (j1 j2 : Nat) (hj : j1 ≠ j2) (ho : ∀ {σ G H}, Eo G H σ Γ → EvR to σ G H rA s) (ha : ∀ {σ G H}, Eo G H σ Γ → EvR ta σ G H (rT rI) v) (h1 : Γ.ow[j1]? = some (oI s C (fsOf p lines.length b))) (h2 : Γ.ow[j2]? = some (oL b rSL lines)) (hp : Pm p) (sl : SL p V lines) (few : lines.length ≤ 1000) (vl : v.length = V) (vm : V ≤ 1000) (vn : Nm p v)
    (hne : (bdM p lines.length lines v).1.any (fun n => n != 0) = true) (n : Nx W (U D) ((Γ.putO j1 (oI s C (fsOf p (lines ++ [takeM p lines.length lines v]).length b))).putO j2 (oL b rSL (lines ++ [takeM p lines.length lines v])))) :
    Nx W (tSeq (tDrop (tMeth C "take" (sp_s_take C) [] E to (tCons ta tNil))) U D) Γ := fun σ G H e =>
  ho e.toEo G H (Fz.refl e.gd) _ fun u G1 H1 f1 eu => by
    have e1 := e.step f1
    obtain ⟨dx, hd⟩ := e1.toEo.ins h1
    refine ⟨s, dx, _, eu, hd, rfl, ha e1.toEo G1 H1 (Fz.refl f1.gd) _ fun w G2 H2 f2 ew => ?_⟩
    have e2 := e1.step f2
    obtain ⟨h, g1, g2, dx2, g3⟩ := e2.ow _ (List.mem_of_getElem? h1)
    rw [g3] at g1
    obtain ⟨ws, w1, w2, w3⟩ := e2.lst h2 (fun z => nomatch z)
    refine ⟨⟨s, C, b, p, V, lines, v⟩, G2, f2.gd, ⟨u, _, rfl, eu, w, [], rfl, ew, rfl⟩, ⟨⟨rfl, ⟨dx2, g1⟩, ⟨ws, w1, w3⟩, hp, sl, few, vl, vm, vn⟩, g2 (fun z => nomatch z), w2, hne⟩, fun v' G' H' f post => ?_⟩
    obtain ⟨_, ⟨dx', q1⟩, us, q2, q3⟩ := post
    have e3 := e2.call2 (o1' := oI s C (fsOf p (lines ++ [takeM p lines.length lines v]).length b)) (o2' := oL b rSL (lines ++ [takeM p lines.length lines v])) h1 h2 hj (fun z => nomatch z) (fun z => nomatch z) f rfl rfl rfl rfl q1 ⟨dx', by rw [List.length_append, List.length_singleton]⟩ q2 ⟨us, rfl, q3.imp fun _ _ q => Go.go q⟩
    exact n σ G' H' e3
end
end Dg
end
section
set_option Elab.async false
set_option linter.all false
set_option maxRecDepth 100000
set_option maxHeartbeats 4000000
/-! For keeper_table's walk: many lists of one's own, calls of its function values. -/
namespace Dg
open PySem PySem.Spec PyProof.Rows L2 LamX NdefX
theorem led_nm {p : Int} (hp : 0 < p) (v : List Int) (s : List (List Int)) : Nm p (led p v s) := foldl_inv (Nm p) _ _ _ (.rep0 hp _) fun acc q _ h => by
  unfold ledS
  split
  · intro x hx
    obtain ⟨w, _, rfl⟩ := List.mem_map.mp hx
    exact md hp _
  · exact h
section
variable {α β : Type} {r : Rl α} [Go r] {K : PySem.W.Frag} {G H : Hp} {σ : L2.St} {W : Wd} {N : L2.St → Hp → Prop} {D : Ends} {U : TS} {sl : List Ent} {pre : List Own}
abbrev Gp (α : Type) := List (Addr × List α)
theorem ownr_at {g : Gp α} {i : Nat} (hi : i < g.length) : (owns r g)[i]? = some (oL (g.getD i (0, [])).1 r (g.getD i (0, [])).2) := by
  unfold owns
  rw [List.getElem?_map, getD_some (d := ((0 : Addr), ([] : List α))) hi]
  rfl
theorem putOr_at {row : List α} : ∀ {g : Gp α} {i : Nat}, i < g.length → putO (owns r g) i (oL (g.getD i (0, [])).1 r row) = owns r (g.set i ((g.getD i (0, [])).1, row))
  | [], _, h => absurd h (Nat.not_lt_zero _)
  | _ :: _, 0, _ => rfl
  | q :: g, i + 1, h => by
    show oL q.1 r q.2 :: putO (owns r g) i (oL (g.getD i (0, [])).1 r row) = oL q.1 r q.2 :: owns r (g.set i ((g.getD i (0, [])).1, row))
    rw [putOr_at (g := g) (by simpa using h)]
/-- i = [[] for v in range(e)] -/
theorem s_empties {tp : TE} {i v : Nat} {vs : List Nat} {n : Int} (hv : v ∈ vs) (hp : ∀ {σ G H} {ow : List Own}, Eo G H σ ⟨sl, ow⟩ → EvR tp σ G H rI n) (h0 : 0 ≤ n) (h1 : n ≤ 1000)
    (nx : ∀ g : Gp α, g.length = n.toNat → (∀ q ∈ g, q.2 = []) → Nx W (U D) ⟨put sl i (eR (rL rA) (g.map (·.1))), pre ++ owns r g⟩) :
    Nx W (tSeq (tAsg (tLc (iRng1 (tCons tp tNil)) (gName v) tYes (tLst tNil) vs) (gName i)) U D) ⟨sl, pre⟩ := fun σ G H e => by
  have e0 : En W G H σ ⟨sl, pre ++ owns r ([] : Gp α)⟩ := e.perm (.of_eq (List.append_nil _).symm)
  refine sasg_of (lc_write (r := rN) (r' := rA) (l := List.range n.toNat) (δ := Gp α) (sl := sl) (ow := fun g => pre ++ owns r g) [] (fun k g ys => g.length = k ∧ ys = g.map (·.1) ∧ ∀ q ∈ g, q.2 = []) e0 ⟨rfl, rfl, fun q hq => absurd hq (by simp)⟩ (fun e => ei_r1 (hp e) (by omega) (by omega)) (by rw [List.length_range]; omega) (fun k g ys h => ?_) (fun x => [(v, eR rN x)]) (fun x hx => tg_n v) (fun x p hq => ?_) ?_ _ ?_)
  · rw [h.2.1, List.length_map]
    exact Nat.le_of_eq h.1
  · rw [List.mem_singleton] at hq
    rw [hq]
    exact hv
  · intro W' f1 f2 f3 o0 k g ys x hx ⟨lg, ey, all⟩ σ2 G2 H2 e2 Q hQ
    refine (en_lst (r := r) (xs := []) el_n (Nat.zero_le _)) G2 H2 (Fz.refl e2.gd) _ fun a us G3 H3 f hn g1 g2 t => ?_
    have e3 := e2.cons f (o := oL a r []) rfl hn g1 g2 ⟨us, rfl, t.imp fun _ _ q => Go.go q⟩ rfl
    have e4 := e3.perm (ow' := o0 :: (pre ++ owns r (g ++ [(a, [])]))) (by
      have q : owns r (g ++ [(a, ([] : List α))]) = owns r g ++ [oL a r []] := List.map_append ..
      rw [q, ← List.append_assoc]
      exact (List.perm_append_singleton (oL a r []) (o0 :: (pre ++ owns r g))).symm)
    refine hQ _ _ _ (g ++ [(a, [])]) a e4 rfl ⟨by rw [List.length_append, lg]; rfl, by rw [ey, List.map_append]; rfl, fun q hq => ?_⟩
    rcases List.mem_append.mp hq with hq | hq
    · exact all q hq
    · rw [List.mem_singleton.mp hq]
  · intro a g ys G' H' e2 ⟨lg, ey, all⟩
    obtain ⟨G4, h4, e4, g4, us, rfl, t4⟩ := e2.keep (j := 0) rfl rfl fun ps ⟨vs, z, _⟩ => nomatch z
    have lg : g.length = n.toNat := by rw [lg, List.length_range]
    exact nx g lg all _ G4 H' (e4.slots (e4.sl.put i (eR (rL rA) (g.map (·.1))) ⟨_, rfl, a, us, rfl, g4, by rw [← ey]; exact t4⟩))
theorem liftR {G' : Hp} : ∀ {g : Gp α} {vs : List V}, (∀ q ∈ g, ∃ ws, G q.1 = some (.lst ws) ∧ Al (r G G) ws q.2) → Al (rA G G') vs (g.map (·.1)) → Al (rL r G G) vs (g.map (·.2))
  | [], _, _, .nil => .nil
  | q :: g, _, hg, .cons a t => by
    obtain ⟨ws, h1, h2⟩ := hg q List.mem_cons_self
    exact .cons ⟨q.1, ws, a, h1, h2⟩ (liftR (fun u hu => hg u (List.mem_cons_of_mem _ hu)) t)
/-- the inner lists stay from now on -/
theorem nx_keepR {i : Nat} {g : Gp α} (hi : gt sl i = eR (rL rA) (g.map (·.1))) (n : Nx W N ⟨put sl i (eR (rL (rL r)) (g.map (·.2))), pre⟩) : Nx W N ⟨sl, pre ++ owns r g⟩ := fun σ G H e => by
  obtain ⟨G1, e1, up1, all⟩ := En.keepAll e
  obtain ⟨v, hv, w, ew, a, vs, ea, ha, t⟩ := e1.sl.get i hi fun o => eR_some
  cases ew
  have q := e1.slots (e1.sl.put (o := some v) i (eR (rL (rL r)) (g.map (·.2))) ⟨v, rfl, a, vs, ea, ha, liftR all t⟩)
  have es : σ.set i (some v) = σ := by
    apply List.ext_getElem?
    intro k
    by_cases hk : i = k
    · subst hk
      rw [hv]
      exact List.getElem?_set_self (List.getElem?_eq_some_iff.mp hv).1
    · exact List.getElem?_set_ne hk
  rw [es] at q
  exact n σ G1 H q
/-- a slot's thing, told another way -/
theorem nx_ent {r' : Rl β} [Go r'] {i : Nat} {x : α} {y : β} {ow : List Own} (hi : gt sl i = eR r x) (im : ∀ G v, r G G v x → r' G G v y) (n : Nx W N ⟨put sl i (eR r' y), ow⟩) : Nx W N ⟨sl, ow⟩ := fun σ G H e => by
  obtain ⟨v, hv, w, ew, hw⟩ := e.sl.get i hi fun o => eR_some
  cases ew
  have q := e.slots (e.sl.put (o := some v) i (eR r' y) ⟨v, rfl, im _ _ hw⟩)
  have es : σ.set i (some v) = σ := by
    apply List.ext_getElem?
    intro k
    by_cases hk : i = k
    · subst hk
      rw [hv]
      exact List.getElem?_set_self (List.getElem?_eq_some_iff.mp hv).1
    · exact List.getElem?_set_ne hk
  rw [es] at q
  exact n σ G H q
end
section
variable {σ : L2.St} {G H : Hp} {Γ : Ct} {mk : Addr → NF} {ws : List (Option V)} {t : TA} {p : Int} {steps : List (List (List Int))} {firsts v : List Int} {columns : List (List Int)} {k : Nat}
theorem ev_led_by (e : Eo G H σ Γ) (i : Nat) (h : gt Γ.sl i = eR (rClo mk rTT ws) (p, steps)) (ha : EvA t σ G H (aC (rT rI) v (aC rN k aN))) (hp : Pm p ∧ k < steps.length ∧ v.length ≤ 100 ∧ Nm p v ∧ ∀ row ∈ steps.getD k [], row.length ≤ 100) : EvR (tClo mk i (sp_led_by ws) t) σ G H (rT rI) (led p v (steps.getD k [])) := ev_clo (y := (v, k)) e i h ha hp
theorem ev_first (e : Eo G H σ Γ) (i : Nat) (h : gt Γ.sl i = eR (rClo mk (rT rI) ws) (p, firsts)) (ha : EvA t σ G H (aC (rT rI) v aN)) (hp : Pm p ∧ v.length ≤ 1000 ∧ Nm p v) : EvR (tClo mk i (sp_first ws) t) σ G H rI (summed p v firsts) := ev_clo (y := v) e i h ha hp
theorem ev_sign (e : Eo G H σ Γ) (i : Nat) (h : gt Γ.sl i = eR (rClo mk (rL (rT rI)) ws) (p, columns)) (ha : EvA t σ G H (aC (rT rI) v aN)) (hp : Pm p ∧ v.length ≤ 1000 ∧ Nm p v ∧ columns.length ≤ 1000) : EvR (tClo mk i (sp_sign ws) t) σ G H (rT rI) (sg p columns v) := ev_clo (y := v) e i h ha hp
end
end Dg
end
section
set_option Elab.async false
set_option linter.all false
set_option maxRecDepth 100000
set_option maxHeartbeats 4000000
/-! keeper_table. -/
namespace Dg
open PySem PySem.Spec PyProof.Rows L2 LamX NdefX

abbrev KArg := Int × List Int × List (List (List Int)) × List Int × List (List Int)
abbrev sp_keeper_table (cl1 cl2 cl3 : List (Str × Addr)) (w1 w2 w3 : List (Option V)) : Sp := spW (ι := KArg) (fun t => aC rI t.1 (aC (rT rI) t.2.1 (aC (rClo (mkLed cl1) rTT w1) (t.1, t.2.2.1) (aC (rClo (mkFst cl2) (rT rI) w2) (t.1, t.2.2.2.1) (aC (rClo (mkSgn cl3) (rL (rT rI)) w3) (t.1, t.2.2.2.2) aN)))))
  (fun t _ _ => Tb t.1 t.2.1 t.2.2.1 t.2.2.2.1 ∧ t.2.2.2.2.length ≤ t.2.2.2.1.length) (fun _ => [])
  (fun t _ G' H' v => ∃ (begin' firsts' : List Int) (steps' : List (List (List Int))) (tk : List (List Int)), rQd rI (rT rI) rTT (rT rI) G' H' v (t.1, begin', steps', firsts') ∧ Kept t.1 t.2.1 t.2.2.1 t.2.2.2.1 t.2.2.2.2 begin' steps' firsts' tk)
section
variable {P : Program} {w : World} {K : PySem.W.Frag} {mg : Str → Option Value} {base : Heap}


theorem sc_keeper_table : FnScope ["p", "start", "step", "first", "sign", "space", "taken", "rows", "at", "many", "steps", "begin", "r", "vector", "mix", "some", "k"] ["p", "start", "step", "first", "sign"] (defScope (top 16)) := ⟨rfl, rfl, rfl, by decide +kernel, rfl, by decide +kernel, by decide +kernel⟩
theorem b_keeper_table (h : Hd K mg) : Binds K h.fd_keeper_table ["p", "start", "step", "first", "sign"] [] := h.F_keeper_table.bindsN fun _ _ _ _ _ _ us hl => match us, hl with | [_, _, _, _, _], _ => rfl
theorem ok_keeper_table {cl1 cl2 cl3 : List (Str × Addr)} {w1 w2 w3 : List (Option V)} (h : Hd K mg) (B1 : BaseCells base cl1 ["p", "steps"] w1) (B2 : BaseCells base cl2 ["p", "firsts"] w2) (B3 : BaseCells base cl3 ["p", "columns"] w3) : FnOk P w K mg base CX0 4 h.f_keeper_table h.fd_keeper_table ["p", "start", "step", "first", "sign"] (sp_keeper_table cl1 cl2 cl3 w1 w2 w3) := by
  have nd := sc_keeper_table.nd
  refine h.F_keeper_table.ok sc_keeper_table (fun vs H Q E h => ?_) (fun cdv A outer s H vs Q E hr hsp => ⟨_, PSs.nox
    (pss_cons (ps_set (i := 5) nd rfl (by first | exact .inl rfl | exact .inr rfl) (pe_make h.mkC (ok_s_init h) (hr.mono (by decide)) rfl h.g_Space (b_s_init h) .nil pass0 (pa_cons (pv 0) pa_nil)))
    (pss_cons (ps_set (i := 6) nd rfl (by first | exact .inl rfl | exact .inr rfl) (pe_lst pa_nil))
    (pss_cons (ps_if (pt_val (pe_callB (k_anyI (K := K) rfl false rfl) rfl h.b_any (by decide +kernel) (pa_cons (pe_clo (i := 4) (mk := mkSgn cl3) B3 (fun _ => rfl) (fun f c => ok_sign h) hr (by decide) rfl (by first | exact Or.inl rfl | exact Or.inr (Or.inl rfl) | exact Or.inr (Or.inr rfl)) (pa_cons (pv 1) pa_nil)) pa_nil))) (pss_cons (ps_expr (pe_meth (pv 5) h.cC h.mt_take (ok_s_take h) (hr.mono (by decide)) (b_s_take h) .nil pass0 (pa_cons (pe_clo (i := 4) (mk := mkSgn cl3) B3 (fun _ => rfl) (fun f c => ok_sign h) hr (by decide) rfl (by first | exact Or.inl rfl | exact Or.inr (Or.inl rfl) | exact Or.inr (Or.inr rfl)) (pa_cons (pv 1) pa_nil)) pa_nil)))
    (pss_one (ps_expr (pe_bm PySem.F.plainAttrs_list PySem.F.slot_list_append PySem.F.type_list_append mt_append (pv 6) (pa_cons (pv 1) pa_nil))))) pss_nil)
    (pss_cons (ps_setLc (i := 7) rfl nd rfl rfl (sw_true rfl rfl rfl (by decide +kernel)) (pi_range1 rfl h.b_range (pa_cons (pv 0) pa_nil)) (blkOk_by (own := [("r", 12)]) (by kernel_rfl)) (fun _ _ _ _ _ => (by exact (pg_name (i := 12) nd rfl (by first | exact .inl rfl | exact .inr rfl)))) (fun _ _ _ _ _ => pts_nil) (fun _ _ _ _ _ => (pe_lst pa_nil)))
    (pss_cons (ps_set (i := 8) nd rfl (by first | exact .inl rfl | exact .inr rfl) pe_int)
    (pss_cons (ps_while PassesOwn.never (pt_cmpR op_lt (pv 8) (pe_callB (k_len (K := K) rfl) rfl h.b_len (by decide +kernel) (pa_cons (pv 6) pa_nil)) (nomark _)) (pss_cons (ps_for PassesOwn.never rfl (pi_range1 rfl h.b_range (pa_cons (pv 0) pa_nil)) (pg_name (i := 12) nd rfl (by first | exact .inl rfl | exact .inr rfl)) (pss_cons (ps_set (i := 13) nd rfl (by first | exact .inl rfl | exact .inr rfl) (pe_clo (i := 2) (mk := mkLed cl1) B1 (fun _ => rfl) (fun f c => ok_led_by h) hr (by decide) rfl (by first | exact Or.inl rfl | exact Or.inr (Or.inl rfl) | exact Or.inr (Or.inr rfl)) (pa_cons (pe_ix (k_ixL (K := K) rfl) (pv 6) (pv 8) (fun _ _ => rfl)) (pa_cons (pv 12) pa_nil))))
    (pss_cons (ps_set (i := 14) nd rfl (by first | exact .inl rfl | exact .inr rfl) (pe_meth (pv 5) h.cC h.mt_mix_of (ok_s_mix_of h) (hr.mono (by decide)) (b_s_mix_of h) .nil pass0 (pa_cons (pe_clo (i := 4) (mk := mkSgn cl3) B3 (fun _ => rfl) (fun f c => ok_sign h) hr (by decide) rfl (by first | exact Or.inl rfl | exact Or.inr (Or.inl rfl) | exact Or.inr (Or.inr rfl)) (pa_cons (pv 13) pa_nil)) pa_nil)))
    (pss_cons (ps_if (pt_cmpR op_isN (pv 14) pe_non (nomark _)) (pss_cons (ps_expr (pe_meth (pv 5) h.cC h.mt_take (ok_s_take h) (hr.mono (by decide)) (b_s_take h) .nil pass0 (pa_cons (pe_clo (i := 4) (mk := mkSgn cl3) B3 (fun _ => rfl) (fun f c => ok_sign h) hr (by decide) rfl (by first | exact Or.inl rfl | exact Or.inr (Or.inl rfl) | exact Or.inr (Or.inr rfl)) (pa_cons (pv 13) pa_nil)) pa_nil)))
    (pss_cons (ps_set (i := 14) nd rfl (by first | exact .inl rfl | exact .inr rfl) (pe_op (k_catA (K := K) rfl) (pe_op (k_repS (K := K) rfl) (pe_tup (pa_cons pe_int pa_nil)) (pe_callB (k_len (K := K) rfl) rfl h.b_len (by decide +kernel) (pa_cons (pv 6) pa_nil))) (pe_tup (pa_cons pe_int pa_nil))))
    (pss_one (ps_expr (pe_bm PySem.F.plainAttrs_list PySem.F.slot_list_append PySem.F.type_list_append mt_append (pv 6) (pa_cons (pv 13) pa_nil)))))) pss_nil)
    (pss_one (ps_expr (pe_bm PySem.F.plainAttrs_list PySem.F.slot_list_append PySem.F.type_list_append mt_append (pe_ix (k_ixL (K := K) rfl) (pv 7) (pv 12) (fun _ _ => rfl)) (pa_cons (pv 14) pa_nil))))))))
    (pss_one (ps_set (i := 8) nd rfl (by first | exact .inl rfl | exact .inr rfl) (pe_op op_add (pv 8) pe_int)))))
    (pss_cons (ps_set (i := 9) nd rfl (by first | exact .inl rfl | exact .inr rfl) (pe_callB (k_len (K := K) rfl) rfl h.b_len (by decide +kernel) (pa_cons (pv 6) pa_nil)))
    (pss_cons (ps_set (i := 10) nd rfl (by first | exact .inl rfl | exact .inr rfl) (pe_callTy (k_tuple (K := K) rfl) rfl h.b_tuple (by decide +kernel) (pa_cons (pe_lc rfl nd (k_piL (K := K) rfl (pv 7)) (blkOk_by (own := [("some", 15)]) (by kernel_rfl)) (fun _ _ _ _ _ => (by exact (pg_name (i := 15) nd rfl (by first | exact .inl rfl | exact .inr rfl)))) (fun _ _ _ _ _ => pts_nil) (fun _ _ _ _ _ => (pe_callTy (k_tuple (K := K) rfl) rfl h.b_tuple (by decide +kernel) (pa_cons (pe_lc rfl nd (k_piL (K := K) rfl (pv 15)) (blkOk_by (own := [("mix", 14)]) (by kernel_rfl)) (fun _ _ _ _ _ => (by exact (pg_name (i := 14) nd rfl (by first | exact .inl rfl | exact .inr rfl)))) (fun _ _ _ _ _ => pts_nil) (fun _ _ _ _ _ => (pe_op (k_catA (K := K) rfl) (pv 14) (pe_op (k_repS (K := K) rfl) (pe_tup (pa_cons pe_int pa_nil)) (pe_op op_sub (pv 9) (pe_callB (k_len (K := K) rfl) rfl h.b_len (by decide +kernel) (pa_cons (pv 14) pa_nil))))))) pa_nil)))) pa_nil)))
    (pss_cons (ps_set (i := 11) nd rfl (by first | exact .inl rfl | exact .inr rfl) (pe_callTy (k_tuple (K := K) rfl) rfl h.b_tuple (by decide +kernel) (pa_cons (pe_lc rfl nd (pi_range1 rfl h.b_range (pa_cons (pv 9) pa_nil)) (blkOk_by (own := [("k", 16)]) (by kernel_rfl)) (fun _ _ _ _ _ => (by exact (pg_name (i := 16) nd rfl (by first | exact .inl rfl | exact .inr rfl)))) (fun _ _ _ _ _ => pts_nil) (fun _ _ _ _ _ => (pe_callTy call_int1 rfl h.b_int (by decide +kernel) (pa_cons (pe_cmpR op_eq (pv 16) pe_int (nomark _)) pa_nil)))) pa_nil)))
    (pss_one (ps_ret (pe_tup (pa_cons (pv 0) (pa_cons (pv 11) (pa_cons (pv 10) (pa_cons (pe_callTy (k_tuple (K := K) rfl) rfl h.b_tuple (by decide +kernel) (pa_cons (pe_lc rfl nd (k_piL (K := K) rfl (pv 6)) (blkOk_by (own := [("vector", 13)]) (by kernel_rfl)) (fun _ _ _ _ _ => (by exact (pg_name (i := 13) nd rfl (by first | exact .inl rfl | exact .inr rfl)))) (fun _ _ _ _ _ => pts_nil) (fun _ _ _ _ _ => (pe_clo (i := 3) (mk := mkFst cl2) B2 (fun _ => rfl) (fun f c => ok_first h) hr (by decide) rfl (by first | exact Or.inl rfl | exact Or.inr (Or.inl rfl) | exact Or.inr (Or.inr rfl)) (pa_cons (pv 13) pa_nil)))) pa_nil)) pa_nil)))))))))))))))), ?_⟩)
  · obtain ⟨i, G, _, ⟨_, _, rfl, _, ⟨_, _, rfl, _, ⟨_, _, rfl, _, ⟨_, _, rfl, _, ⟨_, _, rfl, _, rfl⟩⟩⟩⟩⟩, _⟩ := h
    rfl
  obtain ⟨⟨p, start, steps, firsts, columns⟩, G, d, ⟨_, _, rfl, h0, _, _, rfl, h1, _, _, rfl, h2, _, _, rfl, h3, _, _, rfl, h4, rfl⟩, ⟨T, cf⟩, q⟩ := hsp
  dsimp only at T cf q h0 h1 h2 h3 h4
  have hp := T.pm
  have p0 := hp.pos
  have p2 := hp.two
  have p5 := hp.le
  have nm := T.nm
  have np := T.np
  have nb := T.nb
  have lcw : ∀ v, (sg p columns v).length = columns.length := fun v => sg_len _ _ _
  have ncw : ∀ v, Nm p (sg p columns v) := fun v => sg_nm p0 _ _
  have ok1 : ∀ v : List Int, v.length = firsts.length ∧ Nm p v → Pm p ∧ v.length ≤ 1000 ∧ Nm p v ∧ columns.length ≤ 1000 := fun v hv => ⟨hp, by omega, hv.2, by omega⟩
  refine (?_ : Nx ⟨[], G, H, G⟩ _ ⟨[eR rI p, eR (rT rI) start, eR (rClo (mkLed cl1) rTT w1) (p, steps), eR (rClo (mkFst cl2) (rT rI) w2) (p, firsts), eR (rClo (mkSgn cl3) (rL (rT rI)) w3) (p, columns), eAny, eAny, eAny, eAny, eAny, eAny, eAny, eAny, eAny, eAny, eAny, eAny], []⟩) _ G H (en_start d ⟨⟨_, rfl, Go.go h0⟩, ⟨_, rfl, Go.go h1⟩, ⟨_, rfl, Go.go h2⟩, ⟨_, rfl, Go.go h3⟩, ⟨_, rfl, Go.go h4⟩, trivial, trivial, trivial, trivial, trivial, trivial, trivial, trivial, trivial, trivial, trivial, trivial, trivial⟩ rfl)
  refine s_make (p := p) (fun e => lk e 0 rfl) fun sp b => ?_
  refine s_own (r := rT rI) (fun e => (en_lst el_n (by simp))) fun t => ?_
  refine s_join (δ := List SLine × List (List Int)) (fun s => ⟨[eR rI p, eR (rT rI) start, eR (rClo (mkLed cl1) rTT w1) (p, steps), eR (rClo (mkFst cl2) (rT rI) w2) (p, firsts), eR (rClo (mkSgn cl3) (rL (rT rI)) w3) (p, columns), eR rA sp, eR rA t, eAny, eAny, eAny, eAny, eAny, eAny, eAny, eAny, eAny, eAny], [oL t (rT rI) s.2, oL b rSL s.1, oI sp h.C (fsOf p (s.1 : List SLine).length b)]⟩) (fun s => KI p start steps firsts.length columns s.1 s.2 (List.replicate p.toNat []) 0 0) (fun s hs => ?_) (fun rest => ?_)
  · obtain ⟨lines0, tk0⟩ := s
    have hs : KI p start steps firsts.length columns lines0 tk0 (List.replicate p.toNat []) 0 0 := hs
    refine s_empties (r := rT rI) (n := p) (by simp) (fun e => lk e 0 rfl) (by omega) (by omega) fun g0 lg0 eg0 => ?_
    generalize hAs : g0.map (·.1) = As
    have eg : g0.map (·.2) = List.replicate p.toNat ([] : List (List Int)) := List.eq_replicate_iff.mpr ⟨by rw [List.length_map]; exact lg0, fun x hx => by
      obtain ⟨q, hq, rfl⟩ := List.mem_map.mp hx
      exact eg0 q hq⟩
    have hAl : As.length = p.toNat := by rw [← hAs, List.length_map]; exact lg0
    refine s_asg (r := rN) (x := 0) (fun e => ev_nI' (i := 0) ev_i rfl) ?_
    refine s_whileE (δ := List SLine × List (List Int) × Gp (List Int) × Nat) (fun s => ⟨[eR rI p, eR (rT rI) start, eR (rClo (mkLed cl1) rTT w1) (p, steps), eR (rClo (mkFst cl2) (rT rI) w2) (p, firsts), eR (rClo (mkSgn cl3) (rL (rT rI)) w3) (p, columns), eR rA sp, eR rA t, eR (rL rA) As, eR rN s.2.2.2, eAny, eAny, eAny, eAny, eAny, eAny, eAny, eAny], oL t (rT rI) s.2.1 :: oL b rSL s.1 :: oI sp h.C (fsOf p (s.1 : List SLine).length b) :: owns (rT rI) s.2.2.1⟩) (fun s => s.2.2.1.map (·.1) = As ∧ KI p start steps firsts.length columns s.1 s.2.1 (s.2.2.1.map (·.2)) s.2.2.2 0) (fun s => firsts.length + 1 - s.2.2.2) (fun s => decide (s.2.2.2 < s.2.1.length)) (lines0, tk0, g0, 0) ⟨by repeat' (first | exact SubE.nil | apply SubE.any | apply SubE.same), List.Sublist.refl _⟩ ⟨hAs, by rw [eg]; exact hs⟩ (fun s hi {σ G H} e => (et_t (ev_ltN (lk e 8 rfl) (ev_lenN (lkO e 6 0 rfl rfl))))) ?_ ?_
    · intro W' f1 f2 f3 s hi hb
      obtain ⟨lines1, tk1, g1, at_⟩ := s
      obtain ⟨ga1, hi⟩ := hi
      have ga1 : g1.map (·.1) = As := ga1
      have hi : KI p start steps firsts.length columns lines1 tk1 (g1.map (·.2)) at_ 0 := hi
      have hb : at_ < tk1.length := of_decide_eq_true hb
      refine s_forE (δ := List SLine × List (List Int) × Gp (List Int)) (r := rN) (l := List.range p.toNat) (fun e => (ei_r1 (lk e 0 rfl) ?_ ?_)) (fun s => ⟨[eR rI p, eR (rT rI) start, eR (rClo (mkLed cl1) rTT w1) (p, steps), eR (rClo (mkFst cl2) (rT rI) w2) (p, firsts), eR (rClo (mkSgn cl3) (rL (rT rI)) w3) (p, columns), eR rA sp, eR rA t, eR (rL rA) As, eR rN at_, eAny, eAny, eAny, eAny, eAny, eAny, eAny, eAny], oL t (rT rI) s.2.1 :: oL b rSL s.1 :: oI sp h.C (fsOf p (s.1 : List SLine).length b) :: owns (rT rI) s.2.2⟩) (fun k s => s.2.2.map (·.1) = As ∧ KI p start steps firsts.length columns s.1 s.2.1 (s.2.2.map (·.2)) at_ k ∧ at_ < s.2.1.length) (lines1, tk1, g1) (fun x => [(12, eR rN x)]) ⟨by repeat' (first | exact SubE.nil | apply SubE.any | apply SubE.same), List.Sublist.refl _⟩ ⟨ga1, hi, hb⟩ (fun x hx => tg_n 12) ?_ ?_
      · omega
      · omega
      · intro W2 f4 f5 f6 k s io hx ⟨ga, hi, hb⟩
        obtain ⟨lines, tk, g⟩ := s
        have ga : g.map (·.1) = As := ga
        have hi : KI p start steps firsts.length columns lines tk (g.map (·.2)) at_ k := hi
        have hb : at_ < tk.length := hb
        have hk : io = k ∧ k < p.toNat := by
          have hl := (List.getElem?_eq_some_iff.mp hx).1
          rw [List.length_range] at hl
          rw [List.getElem?_range hl] at hx
          exact ⟨(Option.some.inj hx).symm, hl⟩
        obtain ⟨rfl, hk⟩ := hk
        obtain ⟨n1, n2, slv⟩ := hi.few hp
        have hv0 := hi.tok _ (getD_mem (d := []) hb)
        have hs0 : steps.getD io [] ∈ steps := getD_mem (by omega)
        obtain ⟨R0, _, ⟨h00⟩⟩ := hom_of hp
        have ledl := (led_f h00 hv0.1 (T.st _ hs0) fun row hr => (T.rw _ hs0 row hr).1).1
        have ledn : Nm p (led p (tk.getD at_ []) (steps.getD io [])) := led_nm p0 _ _
        refine s_asg (r := rT rI) (x := led p (tk.getD at_ []) (steps.getD io [])) (fun e => (ev_led_by e 2 rfl (ea_c (ev_gLn (d := []) (lkO e 6 0 rfl rfl) (lk e 8 rfl) ?_) (ea_c (lk e 12 rfl) ea_n)) ?_)) ?_
        · exact hb
        · exact ⟨hp, by omega, by omega, hv0.2, fun row hr => by rw [(T.rw _ hs0 row hr).1]; omega⟩
        generalize hv : led p (tk.getD at_ []) (steps.getD io []) = v at ledl ledn
        refine s_asg (r := rO (rT rI)) (x := mixM p lines.length lines (sg p columns v)) (fun e => ev_mix e 2 1 (lk e 5 rfl) (ev_sign e 4 rfl (ea_c (lk e 13 rfl) ea_n) ?_) rfl rfl hp slv (by omega) (lcw _) (by omega) (ncw _)) ?_
        · exact ok1 v ⟨ledl, ledn⟩
        have gl : g.length = p.toNat := by rw [← List.length_map (f := fun q : Addr × List (List Int) => q.1), ga, hAl]
        refine s_join (δ := List SLine × List (List Int) × List Int) (fun s => ⟨[eR rI p, eR (rT rI) start, eR (rClo (mkLed cl1) rTT w1) (p, steps), eR (rClo (mkFst cl2) (rT rI) w2) (p, firsts), eR (rClo (mkSgn cl3) (rL (rT rI)) w3) (p, columns), eR rA sp, eR rA t, eR (rL rA) As, eR rN at_, eAny, eAny, eAny, eR rN io, eAny, eR (rT rI) s.2.2, eAny, eAny], oL t (rT rI) s.2.1 :: oL b rSL s.1 :: oI sp h.C (fsOf p (s.1 : List SLine).length b) :: owns (rT rI) g⟩) (fun s => KI p start steps firsts.length columns s.1 s.2.1 (g.map (·.2)) at_ io ∧ MixOk p columns.length (s.2.1.map (sg p columns)) s.2.2 (sg p columns (led p (s.2.1.getD at_ []) (steps.getD io []))) ∧ at_ < s.2.1.length) (fun s hs => ?_) (fun rest2 => ?_)
        · obtain ⟨lines2, tk2, mx⟩ := s
          obtain ⟨k1, k2, k3⟩ := hs
          have k1 : KI p start steps firsts.length columns lines2 tk2 (g.map (·.2)) at_ io := k1
          have k2 : MixOk p columns.length (tk2.map (sg p columns)) mx (sg p columns (led p (tk2.getD at_ []) (steps.getD io []))) := k2
          have k3 : at_ < tk2.length := k3
          have hig : io < g.length := by omega
          have l0 := k1.len io hk
          have few2 := (k1.few hp).2.1
          have adr : As.getD io 0 = (g.getD io (0, [])).1 := by rw [← ga, getD_map (d := ((0 : Addr), ([] : List (List Int)))) hig]
          have row : (g.map (·.2)).getD io [] = (g.getD io (0, [])).2 := getD_map (d := ((0 : Addr), ([] : List (List Int)))) hig
          rw [row, if_neg (Nat.lt_irrefl _)] at l0
          refine nx_app (io + 3) (x := mx) (fun e => (EvR.is (ev_gLn (d := (0 : Addr)) (lk e 7 rfl) (lk e 12 rfl) ?_) adr)) (fun e => (lk e 14 rfl)) (kd := .new) (by exact ownr_at (r := rT rI) hig) ?_ (fun z => nomatch z) ?_
          · omega
          · omega
          intro σ3 G3 H3 e3
          have e4 := e3.perm (ow' := oL t (rT rI) tk2 :: oL b rSL lines2 :: oI sp h.C (fsOf p (lines2 : List SLine).length b) :: owns (rT rI) (g.set io ((g.getD io (0, [])).1, (g.getD io (0, [])).2 ++ [mx]))) (.of_eq (by
            show oL t (rT rI) tk2 :: oL b rSL lines2 :: oI sp h.C (fsOf p lines2.length b) :: putO (owns (rT rI) g) io (oL (g.getD io (0, [])).1 (rT rI) ((g.getD io (0, [])).2 ++ [mx])) = _
            rw [putOr_at hig]))
          refine ⟨(lines2, tk2, g.set io ((g.getD io (0, [])).1, (g.getD io (0, [])).2 ++ [mx])), ⟨?_, ?_, k3⟩, G3, e4.to ⟨by repeat' (first | exact SubE.nil | apply SubE.any | apply SubE.same), List.Sublist.refl _⟩⟩
          · show (g.set io ((g.getD io (0, [])).1, (g.getD io (0, [])).2 ++ [mx])).map (·.1) = As
            rw [List.map_set, ← ga]
            apply List.ext_getElem?
            intro j
            by_cases hj : io = j
            · subst hj
              rw [List.getElem?_set_self (by rw [List.length_map]; exact hig), List.getElem?_map, getD_some (d := ((0 : Addr), ([] : List (List Int)))) hig]
              rfl
            · rw [List.getElem?_set_ne hj]
          · show KI p start steps firsts.length columns lines2 tk2 ((g.set io ((g.getD io (0, [])).1, (g.getD io (0, [])).2 ++ [mx])).map (·.2)) at_ (io + 1)
            rw [List.map_set]
            have q := k1.put hk k2
            rw [row] at q
            exact q
        refine s_if1 (fun e => (et_t (ev_isN (lk e 14 rfl)))) (fun hc => ?_) (fun hc => ?_)
        · have hn : mixM p lines.length lines (sg p columns v) = none := Option.isNone_iff_eq_none.mp hc
          have hany : (bdM p lines.length lines (sg p columns v)).1.any (fun n => n != 0) = true := by
            unfold mixM at hn
            by_cases h : (bdM p lines.length lines (sg p columns v)).1.any (fun n => n != 0) = true
            · exact h
            · rw [if_neg h] at hn
              cases hn
          have gr := hi.grow hp hb ⟨ledl, ledn⟩ hn
          refine s_take (lines := lines) (v := sg p columns v) 2 1 (by decide) (fun e => lk e 5 rfl) (fun e => (ev_sign e 4 rfl (ea_c (lk e 13 rfl) ea_n) ?_)) rfl rfl hp slv (by omega) (lcw _) (by omega) (ncw _) hany ?_
          · exact ok1 v ⟨ledl, ledn⟩
          refine s_asg (r := rT rI) (x := List.replicate tk.length 0 ++ [1]) (fun e => (ev_catT (ev_repT _ (ev_tup (el_c ev_i el_n) (by simp)) (ev_nI (ev_lenN (lkO e 6 0 rfl rfl))) ?_ ?_) (ev_tup (el_c ev_i el_n) (by simp)) ?_)) ?_
          · rfl
          · omega
          · rw [List.length_replicate, List.length_singleton]; omega
          have ev : led p ((tk ++ [v]).getD at_ []) (steps.getD io []) = v := by rw [getD_app, if_pos hb, hv]
          refine nx_app 0 (x := v) (fun e => lk e 6 rfl) (fun e => (lk e 13 rfl)) rfl ?_ (fun z => nomatch z) (nx_to (rest2 (lines ++ [takeM p lines.length lines (sg p columns v)], tk ++ [v], List.replicate tk.length 0 ++ [1]) ⟨gr, ?_, ?_⟩) ⟨by repeat' (first | exact SubE.nil | apply SubE.any | apply SubE.same), List.Sublist.refl _⟩)
          · show tk.length < 200000
            omega
          · show MixOk p columns.length ((tk ++ [v]).map (sg p columns)) (List.replicate tk.length 0 ++ [1]) (sg p columns (led p ((tk ++ [v]).getD at_ []) (steps.getD io [])))
            rw [ev, List.map_append]
            have q := MixOk.self (p := p) (by omega) (V := columns.length) (tks := tk.map (sg p columns)) (s := sg p columns v)
            rw [List.length_map] at q
            exact q
          · show at_ < (tk ++ [v]).length
            rw [List.length_append]
            omega
        · obtain ⟨mx, hm⟩ : ∃ mx, mixM p lines.length lines (sg p columns v) = some mx := by
            cases hq : mixM p lines.length lines (sg p columns v) with
            | none => rw [hq] at hc; cases hc
            | some m => exact ⟨m, rfl⟩
          rw [hm]
          refine nx_ent (i := 14) (r := rO (rT rI)) (r' := rT rI) (x := some mx) (y := mx) rfl (fun G v hv => hv.2) (nx_to (rest2 (lines, tk, mx) ⟨hi, ?_, hb⟩) ⟨by repeat' (first | exact SubE.nil | apply SubE.any | apply SubE.same), List.Sublist.refl _⟩)
          show MixOk p columns.length (tk.map (sg p columns)) mx (sg p columns (led p (tk.getD at_ []) (steps.getD io [])))
          rw [hv]
          exact .of hp hi.sia ⟨lcw _, ncw _⟩ hm
      · intro s ⟨ga, hi, hb⟩
        obtain ⟨lines, tk, g⟩ := s
        have ga : g.map (·.1) = As := ga
        have hi : KI p start steps firsts.length columns lines tk (g.map (·.2)) at_ (List.range p.toNat).length := hi
        have hb : at_ < tk.length := hb
        rw [List.length_range] at hi
        obtain ⟨_, few, _⟩ := hi.few hp
        refine nx_asg (r := rN) (x := at_ + 1) (fun e => (ev_addN (lk e 8 rfl) (ev_litN 1))) ?_
        intro σ3 G3 H3 e3
        refine ⟨(lines, tk, g, at_ + 1), ⟨ga, hi.turn hb⟩, ?_, G3, e3.to ⟨by repeat' (first | exact SubE.nil | apply SubE.any | apply SubE.same), List.Sublist.refl _⟩⟩
        show firsts.length + 1 - (at_ + 1) < firsts.length + 1 - at_
        omega
    · intro s hi hb
      obtain ⟨lines, tk, g, at_⟩ := s
      obtain ⟨ga, hi⟩ := hi
      have ga : g.map (·.1) = As := ga
      have hi : KI p start steps firsts.length columns lines tk (g.map (·.2)) at_ 0 := hi
      have hb : tk.length ≤ at_ := by
        have := of_decide_eq_false hb
        exact Nat.le_of_not_lt this
      have K1 := hi.fin hp rfl nm cf hb
      obtain ⟨_, few, _⟩ := hi.few hp
      have rl := hi.rl
      rw [List.length_map] at rl
      refine s_asg (r := rN) (x := tk.length) (fun e => (ev_lenN (lkO e 6 0 rfl rfl))) ?_
      refine nx_keepR (r := rT rI) (i := 7) (g := g) (pre := [oL t (rT rI) tk, oL b rSL lines, oI sp h.C (fsOf p (lines : List SLine).length b)]) (by rw [ga]; rfl) ?_
      have mixes : ∀ some ∈ g.map (·.2), some.length = tk.length ∧ ∀ mx ∈ some, mx.length ≤ tk.length := fun some hs => by
        have ht := K1.tb
        have e1 := ht.st _ (List.mem_map.mpr ⟨some, hs, rfl⟩)
        rw [List.length_map, List.length_map] at e1
        refine ⟨e1, fun mx hm => ?_⟩
        have e2 := (ht.rw _ (List.mem_map.mpr ⟨some, hs, rfl⟩) _ (List.mem_map.mpr ⟨mx, hm, rfl⟩)).1
        rw [List.length_append, List.length_map] at e2
        omega
      refine s_asg (r := rTT) (x := (g.map (·.2)).map fun some => some.map fun mix => mix ++ List.replicate (tk.length - mix.length) 0) (fun e => (ev_tupleL (en_lc1 e (ei_l (lk e 7 rfl)) ?_ (fun x => [(15, eR (rL (rT rI)) x)]) (fun x hx => (tg_n 15)) (by simp) (fun x hx σ2 G2 H2 e2 => (ev_tupleL (en_lc1 e2 (ei_l (lk e2 15 rfl)) ?_ (fun x => [(14, eR (rT rI) x)]) (fun x hx => (tg_n 14)) (by simp) (fun x hx σ2 G2 H2 e2 => (ev_catT (lk e2 14 rfl) (ev_repT _ (ev_tup (el_c ev_i el_n) (by simp)) (ev_sub (ev_nI (lk e2 9 rfl)) (ev_nI (ev_lenN (lk e2 14 rfl)))) ?_ ?_) ?_))).ev))).ev)) ?_
      · rw [List.length_map]; omega
      · rw [(mixes x hx).1]; omega
      · have := (mixes _ ‹_›).2 x ‹_›
        omega
      · omega
      · rw [List.length_replicate]
        have := (mixes _ ‹_›).2 x ‹_›
        omega
      refine s_asg (r := rT rI) (x := (List.range tk.length).map fun k => if decide (k = 0) then 1 else 0) (fun e => (ev_tupleL (en_lc1 e (ei_r1 (ev_nI (lk e 9 rfl)) ?_ ?_) ?_ (fun x => [(16, eR rN x)]) (fun x hx => (tg_n 16)) (by simp) (fun x hx σ2 G2 H2 e2 => (ev_intB (ev_eqN (lk e2 16 rfl) (ev_litN 0))))).ev)) ?_
      · omega
      · omega
      · rw [List.length_range, Int.toNat_natCast]; omega
      refine nx_ret (r := rQd rI (rT rI) rTT (rT rI)) (x := (p, (List.range tk.length).map (fun k => if decide (k = 0) then 1 else 0), (g.map (·.2)).map (fun some => some.map fun mix => mix ++ List.replicate (tk.length - mix.length) 0), tk.map fun v => summed p v firsts)) (fun e => (ev_qd (lk e 0 rfl) (lk e 11 rfl) (lk e 10 rfl) (ev_tupleL (en_lc1 e (ei_o e 6 0 rfl rfl) ?_ (fun x => [(13, eR (rT rI) x)]) (fun x hx => (tg_n 13)) (by simp) (fun x hx σ2 G2 H2 e2 => (ev_first e2 3 rfl (ea_c (lk e2 13 rfl) ea_n) ?_))).ev))) (fun σ v G' H' e hv => ?_)
      · omega
      · have := hi.tok x hx
        exact ⟨hp, by omega, this.2⟩
      · have f := e.fz
        exact q v G' H' f ⟨_, _, _, tk, hv, K1⟩
  refine s_if1 (fun e => (et_b (ev_anyI (ev_sign e 4 rfl (ea_c (lk e 1 rfl) ea_n) ?_)))) (fun hc => ?_) (fun hc => ?_)
  · exact ok1 start ⟨nb, T.nB⟩
  · refine s_take (lines := []) (v := sg p columns start) 2 1 (by decide) (fun e => lk e 5 rfl) (fun e => (ev_sign e 4 rfl (ea_c (lk e 1 rfl) ea_n) ?_)) rfl rfl hp ⟨fun q hq => absurd hq (by simp)⟩ (Nat.zero_le _) (lcw _) (by omega) (ncw _) hc ?_
    · exact ok1 start ⟨nb, T.nB⟩
    refine nx_app 0 (x := start) (fun e => lk e 6 rfl) (fun e => (lk e 1 rfl)) rfl (Nat.succ_pos _) (fun z => nomatch z) (nx_to (rest (_, _) (ki_one hp ⟨nb, T.nB⟩ hc)) ⟨by repeat' (first | exact SubE.nil | apply SubE.any | apply SubE.same), List.Sublist.refl _⟩)
  · exact nx_to (rest ([], []) (ki_none hp hc)) ⟨by repeat' (first | exact SubE.nil | apply SubE.any | apply SubE.same), List.Sublist.refl _⟩

end
end Dg
end
section
set_option Elab.async false
set_option linter.all false
set_option maxRecDepth 100000
set_option maxHeartbeats 4000000
/-! columns_of. -/
namespace Dg
open PySem PySem.Spec PyProof.Rows L2

abbrev sp_columns_of : Sp := spW (ι := Int × List Int × List (List (List Int)) × List Int) (fun t => aC (rQd rI (rT rI) (rT (rT (rT rI))) (rT rI)) t aN) (fun t _ _ => Tb t.1 t.2.1 t.2.2.1 t.2.2.2) (fun _ => [])
  (fun t _ G' H' v => ∃ found, rL (rT rI) G' H' v found ∧ Cols t.1 t.2.2.2.length t.2.2.1 t.2.2.2 found)
section
variable {P : Program} {w : World} {K : PySem.W.Frag} {mg : Str → Option Value} {base : Heap}


theorem sc_columns_of : FnScope ["table", "p", "begin", "steps", "firsts", "space", "found", "waiting", "at", "step"] ["table"] (defScope (top 17)) := ⟨rfl, rfl, rfl, by decide +kernel, rfl, by decide +kernel, by decide +kernel⟩
theorem b_columns_of (h : Hd K mg) : Binds K h.fd_columns_of ["table"] [] := h.F_columns_of.bindsN fun _ _ _ _ _ _ us hl => match us, hl with | [_], _ => rfl
theorem ok_columns_of (h : Hd K mg) : FnOk P w K mg base CX0 3 h.f_columns_of h.fd_columns_of ["table"] sp_columns_of := by
  have nd := sc_columns_of.nd
  refine h.F_columns_of.ok sc_columns_of (fun vs H Q E h => ?_) (fun cdv A outer s H vs Q E hr hsp => ⟨_, PSs.nox
    (pss_cons (ps_asg (pv 0) (k_tup (K := K) (n := 4) rfl rfl (pgs_cons (pg_name (i := 1) nd rfl (by first | exact .inl rfl | exact .inr rfl)) (pgs_cons (pg_name (i := 2) nd rfl (by first | exact .inl rfl | exact .inr rfl)) (pgs_cons (pg_name (i := 3) nd rfl (by first | exact .inl rfl | exact .inr rfl)) (pgs_cons (pg_name (i := 4) nd rfl (by first | exact .inl rfl | exact .inr rfl)) pgs_nil))))))
    (pss_cons (ps_set (i := 5) nd rfl (by first | exact .inl rfl | exact .inr rfl) (pe_make h.mkC (ok_s_init h) (hr.mono (by decide)) rfl h.g_Space (b_s_init h) .nil pass0 (pa_cons (pv 1) pa_nil)))
    (pss_cons (ps_set (i := 6) nd rfl (by first | exact .inl rfl | exact .inr rfl) (pe_lst pa_nil))
    (pss_cons (ps_set (i := 7) nd rfl (by first | exact .inl rfl | exact .inr rfl) (pe_lst (pa_cons (pv 4) pa_nil)))
    (pss_cons (ps_set (i := 8) nd rfl (by first | exact .inl rfl | exact .inr rfl) pe_int)
    (pss_cons (ps_while PassesOwn.never (pt_cmpR op_lt (pv 8) (pe_callB (k_len (K := K) rfl) rfl h.b_len (by decide +kernel) (pa_cons (pv 7) pa_nil)) (nomark _)) (pss_cons (ps_if (pt_cmpR op_isN (pe_meth (pv 5) h.cC h.mt_mix_of (ok_s_mix_of h) (hr.mono (by decide)) (b_s_mix_of h) .nil pass0 (pa_cons (pe_ix (k_ixL (K := K) rfl) (pv 7) (pv 8) (fun _ _ => rfl)) pa_nil)) pe_non (nomark _)) (pss_cons (ps_expr (pe_meth (pv 5) h.cC h.mt_take (ok_s_take h) (hr.mono (by decide)) (b_s_take h) .nil pass0 (pa_cons (pe_ix (k_ixL (K := K) rfl) (pv 7) (pv 8) (fun _ _ => rfl)) pa_nil)))
    (pss_cons (ps_expr (pe_bm PySem.F.plainAttrs_list PySem.F.slot_list_append PySem.F.type_list_append mt_append (pv 6) (pa_cons (pe_ix (k_ixL (K := K) rfl) (pv 7) (pv 8) (fun _ _ => rfl)) pa_nil)))
    (pss_one (ps_expr (pe_bm PySem.F.plainAttrs_list PySem.F.slot_list_extend PySem.F.type_list_extend mt_extend (pv 7) (pa_cons (pe_lc rfl nd (k_piT (K := K) rfl (pv 3)) (blkOk_by (own := [("step", 9)]) (by kernel_rfl)) (fun _ _ _ _ _ => (by exact (pg_name (i := 9) nd rfl (by first | exact .inl rfl | exact .inr rfl)))) (fun _ _ _ _ _ => pts_nil) (fun _ _ _ _ _ => (pe_call (ok_column_led h) (hr.mono (by decide)) rfl h.g_column_led h.F_column_led.kp (b_column_led h) .nil pass0 (pa_cons (pv 1) (pa_cons (pv 9) (pa_cons (pe_ix (k_ixL (K := K) rfl) (pv 7) (pv 8) (fun _ _ => rfl)) pa_nil)))))) pa_nil)))))) pss_nil)
    (pss_one (ps_set (i := 8) nd rfl (by first | exact .inl rfl | exact .inr rfl) (pe_op op_add (pv 8) pe_int)))))
    (pss_one (ps_ret (pv 6))))))))), ?_⟩)
  · obtain ⟨i, G, _, ⟨_, _, rfl, _, rfl⟩, _⟩ := h
    rfl
  obtain ⟨⟨p, begin, steps, firsts⟩, G, d, ⟨_, _, rfl, h0, rfl⟩, T, q⟩ := hsp
  dsimp only at T q h0
  have hpm := T.pm
  have p0 := hpm.pos
  have p5 := hpm.le
  have nm := T.nm
  have np := T.np
  refine (?_ : Nx ⟨[], G, H, G⟩ _ ⟨[eR (rQd rI (rT rI) (rT (rT (rT rI))) (rT rI)) (p, begin, steps, firsts), eAny, eAny, eAny, eAny, eAny, eAny, eAny, eAny, eAny], []⟩) _ G H (en_start d ⟨⟨_, rfl, Go.go h0⟩, trivial, trivial, trivial, trivial, trivial, trivial, trivial, trivial, trivial, trivial⟩ rfl)
  refine s_tup (fun e => (lk e 0 rfl)) (tg_u (tga_c (tga_c (tga_c (tga_c tga_n)))) (by rfl)) ?_
  refine s_make (p := p) (fun e => lk e 1 rfl) fun sp b => ?_
  refine s_own (r := rT rI) (fun e => (en_lst el_n (by simp))) fun f => ?_
  refine s_own (r := rT rI) (fun e => (en_lst (el_c (lk e 4 rfl) el_n) (by simp))) fun wt => ?_
  refine s_asg (r := rN) (x := 0) (fun e => ev_nI' (i := 0) ev_i rfl) ?_
  refine s_whileE (δ := List SLine × List (List Int) × List (List Int) × Nat) (fun s => ⟨[eR (rQd rI (rT rI) (rT (rT (rT rI))) (rT rI)) (p, begin, steps, firsts), eR rI p, eR (rT rI) begin, eR (rT (rT (rT rI))) steps, eR (rT rI) firsts, eR rA sp, eR rA f, eR rA wt, eR rN s.2.2.2, eAny], [oL wt (rT rI) s.2.2.1, oL f (rT rI) s.2.1, oL b rSL s.1, oI sp h.C (fsOf p s.1.length b)]⟩) (fun s => CI p firsts.length steps firsts s.1 s.2.1 s.2.2.1 s.2.2.2) (fun s => 1 + 5 * firsts.length - s.2.2.2) (fun s => decide (s.2.2.2 < s.2.2.1.length)) ([], [], [firsts], 0) ⟨by repeat' (first | exact SubE.nil | apply SubE.any | apply SubE.same), List.Sublist.refl _⟩ ?_ (fun s hi {σ G H} e => (et_t (ev_ltN (lk e 8 rfl) (ev_lenN (lkO e 7 0 rfl rfl))))) ?_ ?_
  · exact ⟨fun R _ h => SI.nil h, Nat.zero_le _, fun w hw => by rw [List.mem_singleton.mp hw]; exact ⟨rfl, T.nF⟩, fun w hw => absurd hw (by simp), fun i hi => absurd hi (Nat.not_lt_zero _), fun c hc => absurd hc (by simp), List.mem_singleton.mpr rfl, rfl⟩
  · intro W' f1 f2 f3 s hi hb
    obtain ⟨lines, found, waiting, at_⟩ := s
    have hi : CI p firsts.length steps firsts lines found waiting at_ := hi
    have hb : at_ < waiting.length := of_decide_eq_true hb
    obtain ⟨few0, fn, slv⟩ := hi.sia.any hpm
    have few1 : lines.length ≤ 1000 := by omega
    have nm1 : firsts.length ≤ 1000 := by omega
    have wok := hi.ok _ (getD_mem (d := []) hb)
    have wl := hi.len
    have s5 : steps.length * found.length ≤ 5 * firsts.length := Nat.mul_le_mul (by omega) (by omega)
    refine s_join (δ := List SLine × List (List Int) × List (List Int) × Nat) (fun s => ⟨[eR (rQd rI (rT rI) (rT (rT (rT rI))) (rT rI)) (p, begin, steps, firsts), eR rI p, eR (rT rI) begin, eR (rT (rT (rT rI))) steps, eR (rT rI) firsts, eR rA sp, eR rA f, eR rA wt, eR rN s.2.2.2, eAny], [oL wt (rT rI) s.2.2.1, oL f (rT rI) s.2.1, oL b rSL s.1, oI sp h.C (fsOf p s.1.length b)]⟩) (fun s => CI p firsts.length steps firsts s.1 s.2.1 s.2.2.1 (at_ + 1) ∧ s.2.2.2 = at_) (fun s hs => ?_) (fun rest => ?_)
    · obtain ⟨hc, es⟩ := hs
      obtain ⟨l2, f2, w2, a2⟩ := s
      dsimp only at hc es
      subst es
      refine nx_asg (r := rN) (x := a2 + 1) (fun e => (ev_addN (lk e 8 rfl) (ev_litN 1))) (nx_endW (l2, f2, w2, a2 + 1) ⟨by repeat' (first | exact SubE.nil | apply SubE.any | apply SubE.same), List.Sublist.refl _⟩ hc ?_)
      show 1 + 5 * firsts.length - (a2 + 1) < 1 + 5 * firsts.length - a2
      omega
    refine s_if1 (fun e => et_t (ev_isN (ev_mix e 3 2 (lk e 5 rfl) (ev_gLn (d := []) (lkO e 7 0 rfl rfl) (lk e 8 rfl) ?_) rfl rfl hpm slv few1 wok.1 nm1 wok.2))) (fun hc => ?_) (fun hc => ?_)
    · exact hb
    · have hn : mixM p lines.length lines (waiting.getD at_ []) = none := Option.isNone_iff_eq_none.mp hc
      have hany : (bdM p lines.length lines (waiting.getD at_ [])).1.any (fun n => n != 0) = true := by
        unfold mixM at hn
        by_cases h : (bdM p lines.length lines (waiting.getD at_ [])).1.any (fun n => n != 0) = true
        · exact h
        · rw [if_neg h] at hn
          cases hn
      have ct := hi.take hpm hb (fun s hs => T.st s hs) hn
      refine s_take (v := waiting.getD at_ []) 3 2 (by decide) (fun e => lk e 5 rfl) (fun e => (ev_gLn (d := []) (lkO e 7 0 rfl rfl) (lk e 8 rfl) ?_)) rfl rfl hpm slv few1 wok.1 nm1 wok.2 hany ?_
      · exact hb
      refine s_app 1 (x := waiting.getD at_ []) (fun e => lk e 6 rfl) (fun e => (ev_gLn (d := []) (lkO e 7 0 rfl rfl) (lk e 8 rfl) ?_)) rfl ?_ (fun z => nomatch z) ?_
      · exact hb
      · show found.length < 200000; omega
      have rest2 := rest (lines ++ [takeM p lines.length lines (waiting.getD at_ [])], found ++ [waiting.getD at_ []], waiting ++ steps.map (fun s => columnLed p s (waiting.getD at_ [])), at_) ⟨ct, rfl⟩
      refine nx_ext 0 (ys := steps.map fun s => columnLed p s (waiting.getD at_ [])) (fun e => lk e 7 rfl) (fun e => (en_lc1 e (ei_t (lk e 3 rfl)) ?_ (fun x => [(9, eR (rT (rT rI)) x)]) (fun x hx => (tg_n 9)) (by simp) (fun x hx σ2 G2 H2 e2 => (ev_column_led (ea_c (lk e2 1 rfl) (ea_c (lk e2 9 rfl) (ea_c (ev_gLn (d := []) (lkO e2 7 0 rfl rfl) (lk e2 8 rfl) ?_) ea_n))) ?_))).ev) rfl ?_ (fun z => nomatch z) (nx_le ⟨by repeat' (first | exact SubE.nil | apply SubE.any | apply SubE.same), List.Sublist.refl _⟩ rest2)
      · omega
      · exact hb
      · exact ⟨hpm, by rw [T.st x hx]; omega, fun row hr => ⟨by rw [(T.rw x hx row hr).1]; omega, (T.rw x hx row hr).2⟩⟩
      · show waiting.length + (steps.map _).length ≤ 200000; rw [List.length_map]; omega
    · obtain ⟨mix, hm⟩ : ∃ mix, mixM p lines.length lines (waiting.getD at_ []) = some mix := by
        cases hq : mixM p lines.length lines (waiting.getD at_ []) with
        | none => rw [hq] at hc; cases hc
        | some m => exact ⟨m, rfl⟩
      exact nx_le ⟨by repeat' (first | exact SubE.nil | apply SubE.any | apply SubE.same), List.Sublist.refl _⟩ (rest (lines, found, waiting, at_) ⟨hi.skip hpm hb hm, rfl⟩)
  · intro s hi hb
    obtain ⟨lines, found, waiting, at_⟩ := s
    have hi : CI p firsts.length steps firsts lines found waiting at_ := hi
    have hb : waiting.length ≤ at_ := by
      have := of_decide_eq_false hb
      exact Nat.le_of_not_lt this
    refine nx_keep 6 1 rfl rfl ?_
    exact nx_ret (r := rL (rT rI)) (x := found) (fun e => lk e 6 rfl) (fun σ v G' H' e hv => q v G' H' e.fz ⟨found, hv, hi.cols hpm hb⟩)

end
end Dg
end
section
set_option Elab.async false
set_option linter.all false
set_option maxRecDepth 100000
set_option maxHeartbeats 4000000
/-! For least_table's walk. -/
namespace Dg
open PySem PySem.Spec PyProof.Rows L2 LamX NdefX
/-- a def's body, its code object told -/
theorem FunD.okc {P : Program} {w : World} {K : PySem.W.Frag} {mg : Str → Option Value} {base : Heap} {x qual : Str} {params : Arguments} {body : List Stmt} {scope : Scope} {dvs : List V} {kws : List (Str × V)} {f c : Addr} {fd : FuncData} {CX : CXT} {N ps : List Str} {k : Nat} {sp : Sp}
    (F : FunD K x qual params body scope dvs kws f fd) (S : FnScope N ps scope) (hc : fd.code = .ref c) (len : ∀ vs H Q E, sp vs H Q E → vs.length = ps.length)
    (run : ∀ (A : Around) (outer : List Env) (s : Shared) (H : Hp) (vs : List V) (Q : VK) (E : XK), Room k (A.deeper (envOfC qual scope s.heap.objs.size f (.ref c))) → sp vs H Q E → ∃ t, PSs (cxOf CX P w K mg base N qual scope f (.ref c) A outer s H E) body t ∧ t { nx := fun _ H' => Q .non H', rt := Q } (start N vs) H) :
    FnOk P w K mg base CX (k + 1) f fd ps sp := by
  obtain ⟨_, _, _, _, _, _, _, z, _, _, ef, at_, ok, _, _⟩ := F.ex
  subst ef
  have ez : z = .ref c := hc
  subst ez
  exact fn_of at_ ok S len run
abbrev qLed : Str := "least_table.<locals>.led_by"
abbrev qFst : Str := "least_table.<locals>.first"
abbrev qSgn : Str := "least_table.<locals>.sign"
def nmL : Nat → Nat → Str := fun l _ => if l = 115 then qLed else if l = 118 then qFst else qSgn
/-- the table of code objects -/
def TabG (T : Addr) (G H : Hp) : Prop := G T = none ∧ ∃ h, H T = some h ∧ (oT T nmL).P G h
theorem en_startT {G H : Hp} {σ : L2.St} {Γ : Ct} {T : Addr} (d : Gd G H) (h : Sl G σ Γ.sl) (ho : Γ.ow = [oT T nmL]) (t : TabG T G H) : En ⟨[T], G, H, G⟩ G H σ Γ := by
  obtain ⟨hg, u, hu, hp⟩ := t
  have one : ∀ o ∈ Γ.ow, o = oT T nmL := fun o hm => by
    rw [ho] at hm
    exact List.mem_singleton.mp hm
  refine ⟨⟨d, h, fun o hm => ?_⟩, (Fz.refl d).toS, fun _ _ z => z, fun o hm => ?_, ?_⟩
  · rw [one o hm]
    exact ⟨u, hu, fun _ => hg, hp⟩
  · rw [one o hm]
    exact List.mem_singleton.mpr rfl
  · rw [ho]
    exact List.nodup_cons.mpr ⟨by simp, List.nodup_nil⟩
theorem En.tab {W : Wd} {G H : Hp} {σ : L2.St} {Γ : Ct} {T : Addr} {j : Nat} (e : En W G H σ Γ) (hj : Γ.ow[j]? = some (oT T nmL)) : TabG T G H := by
  obtain ⟨h, h1, h2, h3⟩ := e.ow _ (List.mem_of_getElem? hj)
  exact ⟨h2 (fun z => nomatch z), h, h1, h3⟩
theorem slot_of {α : Type} {r : Rl α} [Go r] {x : α} {G H : Hp} {σ : L2.St} {Γ : Ct} (e : Eo G H σ Γ) (i : Nat) (h : gt Γ.sl i = eR r x) : ∃ v, slotAt σ i = some v ∧ r G G v x := by
  obtain ⟨v, hv, w, ew, hw⟩ := e.sl.get i h fun o => eR_some
  cases ew
  exact ⟨v, slotAt_of hv, hw⟩
end Dg
end
section
set_option Elab.async false
set_option linter.all false
set_option maxRecDepth 100000
set_option maxHeartbeats 4000000
/-! least_table. -/
namespace Dg
open PySem PySem.Spec PyProof.Rows L2 LamX NdefX
abbrev sp_least_table (T : Addr) : Sp := spW (ι := Int × List Int × List (List (List Int)) × List Int) (fun t => aC (rQd rI (rT rI) rTT (rT rI)) t aN) (fun t G H => Tb t.1 t.2.1 t.2.2.1 t.2.2.2 ∧ TabG T G H) (fun _ => [T])
  (fun t _ G' H' v => (∃ (begin' firsts' : List Int) (steps' : List (List (List Int))) (tk columns : List (List Int)), rQd rI (rT rI) rTT (rT rI) G' H' v (t.1, begin', steps', firsts') ∧ Kept t.1 t.2.1 t.2.2.1 t.2.2.2 columns begin' steps' firsts' tk ∧ Cols t.1 t.2.2.2.length t.2.2.1 t.2.2.2 columns) ∧ TabG T G' H')
section
variable {P : Program} {w : World} {K : PySem.W.Frag} {mg : Str → Option Value} {base : Heap}
theorem sc_least_table : FnScope ["table", "p", "begin", "steps", "firsts", "columns", "led_by", "first", "sign", "column"] ["table"] (defScope (top 18)) := ⟨rfl, rfl, rfl, by decide +kernel, rfl, by decide +kernel, by decide +kernel⟩
theorem b_least_table (h : Hd K mg) : Binds K h.fd_least_table ["table"] [] := h.F_least_table.bindsN fun _ _ _ _ _ _ us hl => match us, hl with | [_], _ => rfl
theorem b_keeper_table' (h : Hd K mg) : Binds K h.fd_keeper_table ["p", "start", "step", "first", "sign"] [] := h.F_keeper_table.bindsN fun _ _ _ _ _ _ us hl => match us, hl with | [_, _, _, _, _], _ => rfl
theorem ok_least_table {c T : Addr} (h : Hd K mg) (hcode : h.fd_least_table.code = .ref c) (TB : TabB base mg c T) : FnOk P w K mg base CX0 5 h.f_least_table h.fd_least_table ["table"] (sp_least_table T) := by
  have nd := sc_least_table.nd
  refine FunD.okc h.F_least_table sc_least_table hcode (fun vs H Q E h => ?_) (fun A outer s H vs Q E hr hsp => ?_)
  · obtain ⟨i, G, _, ⟨_, _, rfl, _, rfl⟩, _⟩ := h
    rfl
  generalize hcl : (envOfC "least_table" (defScope (top 18)) s.heap.objs.size h.f_least_table (.ref c)).cells = cells
  refine ⟨_, PSs.nox
    (pss_cons (ps_asg (pv 0) (k_tup (K := K) (n := 4) rfl rfl (pgs_cons (pg_name (i := 1) nd rfl (by first | exact .inl rfl | exact .inr rfl)) (pgs_cons (pg_name (i := 2) nd rfl (by first | exact .inl rfl | exact .inr rfl)) (pgs_cons (pg_name (i := 3) nd rfl (by first | exact .inl rfl | exact .inr rfl)) (pgs_cons (pg_name (i := 4) nd rfl (by first | exact .inl rfl | exact .inr rfl)) pgs_nil))))))
    (pss_cons (ps_set (i := 5) nd rfl (by first | exact .inl rfl | exact .inr rfl) (pe_call (ok_columns_of h) (hr.mono (by decide)) rfl h.g_columns_of h.F_columns_of.kp (b_columns_of h) .nil pass0 (pa_cons (pv 0) pa_nil)))
    (pss_cons (st := nst 2) (ps_new (q := qLed) (at_ := ⟨115, 4, 116, 39⟩) (i := 6) rfl TB rfl (show ∀ y ∈ (C8.fnScope (nst 2)).names, y.2 = .free → (defScope (top 18)).names.lookup y.1 = some .cell ∨ (defScope (top 18)).names.lookup y.1 = some .free from by decide +kernel) rfl rfl rfl nd rfl (.inl rfl) (.inl rfl) rfl)
    (pss_cons (st := nst 3) (ps_new (q := qFst) (at_ := ⟨118, 4, 119, 40⟩) (i := 7) rfl TB rfl (show ∀ y ∈ (C8.fnScope (nst 3)).names, y.2 = .free → (defScope (top 18)).names.lookup y.1 = some .cell ∨ (defScope (top 18)).names.lookup y.1 = some .free from by decide +kernel) rfl rfl rfl nd rfl (.inl rfl) (.inl rfl) rfl)
    (pss_cons (st := nst 4) (ps_new (q := qSgn) (at_ := ⟨121, 4, 122, 71⟩) (i := 8) rfl TB rfl (show ∀ y ∈ (C8.fnScope (nst 4)).names, y.2 = .free → (defScope (top 18)).names.lookup y.1 = some .cell ∨ (defScope (top 18)).names.lookup y.1 = some .free from by decide +kernel) rfl rfl rfl nd rfl (.inl rfl) (.inl rfl) rfl)
    (pss_one (ps_ret (pe_callW (sp := fun σ => sp_keeper_table (cloFrom cells (C8.fnScope (nst 2)).names []) (cloFrom cells (C8.fnScope (nst 3)).names []) (cloFrom cells (C8.fnScope (nst 4)).names []) ([1, 3].map (slotAt σ)) ([1, 4].map (slotAt σ)) ([1, 5].map (slotAt σ)))
      (caps := [(cloFrom cells (C8.fnScope (nst 2)).names [], ["p", "steps"], [1, 3]), (cloFrom cells (C8.fnScope (nst 3)).names [], ["p", "firsts"], [1, 4]), (cloFrom cells (C8.fnScope (nst 4)).names [], ["p", "columns"], [1, 5])])
      (fun base' σ _ _ hB => ok_keeper_table h (hB _ (List.mem_cons_self)) (hB _ (List.mem_cons_of_mem _ List.mem_cons_self)) (hB _ (List.mem_cons_of_mem _ (List.mem_cons_of_mem _ List.mem_cons_self))))
      (fun _ => rfl) (fun q hq ok => ?cp) (hr.mono (by decide)) rfl h.g_keeper_table h.F_keeper_table.kp (b_keeper_table' h) (pa_cons (pv 1) (pa_cons (pv 2) (pa_cons (pv 6) (pa_cons (pv 7) (pa_cons (pv 8) pa_nil))))))))))))), ?rd⟩
  case cp =>
    subst hcl
    rcases List.mem_cons.mp hq with rfl | hq
    · exact Caps.made ok (show ∀ y ∈ (C8.fnScope (nst 2)).names, y.2 = .free → (defScope (top 18)).names.lookup y.1 = some .cell ∨ (defScope (top 18)).names.lookup y.1 = some .free from by decide +kernel) (show ∀ y ∈ (["p", "steps"] : List Str), (y, NameKind.free) ∈ (C8.fnScope (nst 2)).names from by decide +kernel) rfl
    rcases List.mem_cons.mp hq with rfl | hq
    · exact Caps.made ok (show ∀ y ∈ (C8.fnScope (nst 3)).names, y.2 = .free → (defScope (top 18)).names.lookup y.1 = some .cell ∨ (defScope (top 18)).names.lookup y.1 = some .free from by decide +kernel) (show ∀ y ∈ (["p", "firsts"] : List Str), (y, NameKind.free) ∈ (C8.fnScope (nst 3)).names from by decide +kernel) rfl
    · rw [List.mem_singleton.mp hq]
      exact Caps.made ok (show ∀ y ∈ (C8.fnScope (nst 4)).names, y.2 = .free → (defScope (top 18)).names.lookup y.1 = some .cell ∨ (defScope (top 18)).names.lookup y.1 = some .free from by decide +kernel) (show ∀ y ∈ (["p", "columns"] : List Str), (y, NameKind.free) ∈ (C8.fnScope (nst 4)).names from by decide +kernel) rfl
  case rd =>
    obtain ⟨⟨p, begin, steps, firsts⟩, G, d, ⟨_, _, rfl, h0, rfl⟩, ⟨Tp, ht⟩, q⟩ := hsp
    dsimp only at Tp ht q h0
    subst hcl
    refine (?_ : Nx ⟨[T], G, H, G⟩ _ ⟨[eR (rQd rI (rT rI) rTT (rT rI)) (p, begin, steps, firsts), eAny, eAny, eAny, eAny, eAny, eAny, eAny, eAny, eAny], [oT T nmL]⟩) _ G H (en_startT d ⟨⟨_, rfl, Go.go h0⟩, trivial, trivial, trivial, trivial, trivial, trivial, trivial, trivial, trivial, trivial⟩ rfl ht)
    refine s_tup (fun e => lk e 0 rfl) (tg_u (tga_c (tga_c (tga_c (tga_c tga_n)))) (by rfl)) ?_
    refine s_callW ((p, begin, steps, firsts) : Int × List Int × List (List (List Int)) × List Int) (fun e => ea_c (lk e 0 rfl) ea_n) (fun σ G H e => Tp) (fun σ v G1 H1 G' H' e f post => ?_)
    obtain ⟨columns, hcol, C⟩ := post
    have e1 := e.step f.to
    refine (?_ : Nx ⟨[T], G, H, G⟩ _ ⟨[eR (rQd rI (rT rI) rTT (rT rI)) (p, begin, steps, firsts), eR rI p, eR (rT rI) begin, eR rTT steps, eR (rT rI) firsts, eR (rL (rT rI)) columns, eAny, eAny, eAny, eAny], [oT T nmL]⟩) _ G' H' (e1.slots (e1.sl.put 5 (eR (rL (rT rI)) columns) ⟨v, rfl, Go.go hcol⟩))
    refine s_new 0 rfl rfl (fun k => rfl) (fun k => rfl) ?_
    refine s_new 0 rfl rfl (fun k => rfl) (fun k => rfl) ?_
    refine s_new 0 rfl rfl (fun k => rfl) (fun k => rfl) ?_
    intro σ2 G2 H2 e2
    obtain ⟨v1, s1, a1⟩ := slot_of (r := rI) (x := p) e2.toEo 1 rfl
    obtain ⟨v3, s3, a3⟩ := slot_of (r := rTT) (x := steps) e2.toEo 3 rfl
    obtain ⟨v4, s4, a4⟩ := slot_of (r := rT rI) (x := firsts) e2.toEo 4 rfl
    obtain ⟨v5, s5, a5⟩ := slot_of (r := rL (rT rI)) (x := columns) e2.toEo 5 rfl
    refine ret_of ?_
    refine (ea_c (r := rI) (x := p) (lk e2.toEo 1 rfl) (ea_c (r := rT rI) (x := begin) (lk e2.toEo 2 rfl) (ea_c (r := rFn _) (x := ()) (lk e2.toEo 6 rfl) (ea_c (r := rFn _) (x := ()) (lk e2.toEo 7 rfl) (ea_c (r := rFn _) (x := ()) (lk e2.toEo 8 rfl) ea_n))))) G2 H2 (Fz.refl e2.gd) _ fun vs G3 H3 f3 args => ?_
    have e3 := e2.step f3
    obtain ⟨_, _, rfl, b1, _, _, rfl, b2, _, _, rfl, b3, _, _, rfl, b4, _, _, rfl, b5, rfl⟩ := args
    refine ⟨(p, begin, steps, firsts, columns), G3, f3.gd, ?_, ⟨Tp, C.few⟩, fun v' G4 H4 f4 post => ?_⟩
    · refine ⟨_, _, rfl, b1, _, _, rfl, b2, _, _, rfl, ⟨b3, v1, v3, ?_, a1, Go.to a3 f3.gg⟩, _, _, rfl, ⟨b4, v1, v4, ?_, a1, Go.to a4 f3.gg⟩, _, _, rfl, ⟨b5, v1, v5, ?_, a1, Go.to a5 f3.gg⟩, rfl⟩
      · rw [List.map_cons, List.map_cons, List.map_nil, s1, s3]
      · rw [List.map_cons, List.map_cons, List.map_nil, s1, s4]
      · rw [List.map_cons, List.map_cons, List.map_nil, s1, s5]
    · obtain ⟨begin', firsts', steps', tk, r1, r2⟩ := post
      have e4 := e3.step f4.to
      exact q v' G4 H4 e4.fz ⟨⟨begin', firsts', steps', tk, columns, r1, r2, C⟩, e4.tab (j := 0) rfl⟩
end
end Dg
end
section
set_option linter.all false
set_option maxRecDepth 100000
/-! The least table's equation by powers is the table's. -/
namespace Dg
open Lean.Grind
section
variable {p : Int}
theorem rows_ok {begin firsts : List Int} {steps : List (List (List Int))} (T : Tb p begin steps firsts) {often i : Nat} : ∀ t, i + t ≤ often →
    ((((sqs p (stepPolys steps firsts.length) often).drop i).take t).foldl (rowBySq p) (ones begin)).length = firsts.length ∧ Po p (2 * p.toNat ^ (i + t)) ((((sqs p (stepPolys steps firsts.length) often).drop i).take t).foldl (rowBySq p) (ones begin)) ∧ ∀ g ∈ (((sqs p (stepPolys steps firsts.length) often).drop i).take t).foldl (rowBySq p) (ones begin), Tp p g
  | 0, _ => by
    have p2 := T.pm.two
    rw [List.take_zero, List.foldl_nil]
    refine ⟨by unfold ones; rw [List.length_map]; exact T.nb, fun g hg => ?_, fun g hg => ?_⟩
    · obtain ⟨a, b⟩ := Po.ones T.nB g hg
      have := Nat.pow_pos (n := i + 0) (show 0 < p.toNat by omega)
      exact ⟨by omega, b⟩
    · obtain ⟨n, hn, rfl⟩ := List.mem_map.mp hg
      exact .trim fun x hx => by rw [List.mem_singleton.mp hx]; exact T.nB n hn
  | t + 1, ht => by
    have p2 := T.pm.two
    obtain ⟨l, po, tp⟩ := rows_ok T (often := often) (i := i) t (by omega)
    have get : ((sqs p (stepPolys steps firsts.length) often).drop i)[t]? = some (sprIt p (i + t) (stepPolys steps firsts.length)) := by
      unfold sqs
      rw [List.getElem?_drop, List.getElem?_map, List.getElem?_range (by omega)]
      rfl
    rw [foldl_take1 _ _ _ get]
    obtain ⟨s1, s2⟩ := sprIt_po T (i + t)
    generalize (((sqs p (stepPolys steps firsts.length) often).drop i).take t).foldl (rowBySq p) (ones begin) = row at l po tp ⊢
    refine ⟨?_, ?_, ?_⟩
    · rw [rowBySq_len fun r hr => by rw [(s2 r hr).1, l]]
      exact l
    · refine (rowBySq_po T.pm.pos po fun r hr => (s2 r hr).2).mono ?_
      rw [show i + (t + 1) = (i + t) + 1 by omega, Nat.pow_succ, ← Nat.mul_assoc, Nat.mul_comm (2 * p.toNat ^ (i + t)) p.toNat, ← Nat.mul_assoc, Nat.mul_comm (p.toNat ^ (i + t)) p.toNat, ← Nat.add_mul]
      refine Nat.mul_le_mul_right _ ?_
      omega
    · unfold rowBySq
      have key : (∀ g ∈ (row.zip (sprIt p (i + t) (stepPolys steps firsts.length))).foldl (rbs p) (row.map fun _ => []), Tp p g) := by
        refine foldl_inv (fun acc => ∀ g ∈ acc, Tp p g) (rbs p) _ _ (fun g hg => ?_) fun acc q hq ha => ?_
        · obtain ⟨_, _, rfl⟩ := List.mem_map.mp hg
          exact Tp.nil
        · unfold rbs
          split
          · intro g hg
            obtain ⟨w, hw, rfl⟩ := List.mem_map.mp hg
            exact Tp.add T.pm.pos _ _ (ha _ (List.of_mem_zip hw).1).1
          · exact ha
      exact key
theorem rows_all {begin firsts : List Int} {steps : List (List (List Int))} (T : Tb p begin steps firsts) {often : Nat} (hq : p.toNat ^ often ≤ 32) : Rw p (often + 1) firsts.length (rowsByPowers p begin steps firsts.length often) ∧ Al2 64 (rowsByPowers p begin steps firsts.length often) := by
  have each : ∀ row ∈ rowsByPowers p begin steps firsts.length often, row.length = firsts.length ∧ Po p 64 row ∧ ∀ g ∈ row, Tp p g := fun row hrow => by
    obtain ⟨i, hi, rfl⟩ := List.mem_map.mp hrow
    rw [List.mem_range] at hi
    obtain ⟨a, b, c⟩ := rows_ok T (often := often) (i := i) (often - i) (by omega)
    have tk : ((sqs p (stepPolys steps firsts.length) often).drop i).take (often - i) = (sqs p (stepPolys steps firsts.length) often).drop i := List.take_of_length_le (by
      unfold sqs
      rw [List.length_drop, List.length_map, List.length_range]
      exact Nat.le_refl _)
    rw [tk] at a b c
    rw [show i + (often - i) = often by omega] at b
    exact ⟨a, b.mono (by omega), c⟩
  exact ⟨⟨by unfold rowsByPowers; rw [List.length_map, List.length_range], fun row h => (each row h).1, fun row h => (each row h).2.2⟩, fun row h g hg => ((each row h).2.1 g hg).1⟩
theorem beg_len {a b : List (List Int)} {B : Nat} (H : Beg p a b) (ha : ∀ g ∈ a, g.length ≤ B) : ∀ g ∈ b, g.length ≤ B := by
  induction H with
  | refl => exact ha
  | step _ _ _ ih =>
    intro g hg
    obtain ⟨u, hu, rfl⟩ := List.mem_map.mp hg
    exact Nat.le_trans (part_len _ _ _) (ih u (List.mem_of_mem_drop hu))
theorem pow_le {k n : Nat} (h2 : 2 ≤ p.toNat) (hk : k ≤ n) (h : p.toNat ^ n ≤ 32) : p.toNat ^ k ≤ 32 := Nat.le_trans (Nat.pow_le_pow_right (by omega) hk) h
end
section
variable {R : Type} [CommRing R] {p : Int} (h : Hom R p)
/-- the least table's system and series -/
theorem kept_sys {begin firsts begin' firsts' : List Int} {steps steps' : List (List (List Int))} {tk columns : List (List Int)} (T : Tb p begin steps firsts) (C : Cons p steps firsts) (K : Kept p begin steps firsts columns begin' steps' firsts' tk) (Co : Cols p firsts.length steps firsts columns) :
    Sys h steps' firsts' (fun k => Row h firsts.length (Fs h p.toNat steps firsts) (tk.getD k [])) ∧ tot h begin' firsts'.length (fun k => Row h firsts.length (Fs h p.toNat steps firsts) (tk.getD k [])) = tot h begin firsts.length (Fs h p.toNat steps firsts) := by
  have S := sys_of h T C
  have sgx : ∀ v x, x < columns.length → (sg p columns v).getD x 0 = summed p v (columns.getD x []) := fun v x hx => getD_map hx
  refine ⟨keep_sys h T S K.tb K.n (fun t ht => (K.ok t ht).1) (fun k hk r hr => ?_) K.ini, ?_⟩
  · have hs : steps.getD r [] ∈ steps := getD_mem (by rw [T.np]; exact hr)
    have hv := (K.ok _ (getD_mem (d := []) (show k < tk.length by rw [K.n]; exact hk))).1
    have ll := (led_f h hv (T.st _ hs) fun row hrow => (T.rw _ hs row hrow).1).1
    rw [← K.n]
    refine row_mix h T C Co ll (fun t ht => (K.ok t ht).1) fun x hx => ?_
    have q := K.rec_ R h k hk r hr x hx
    rw [sgx _ x hx] at q
    rw [q]
    exact sumTo_congr fun l _ => by rw [sgx _ x hx]
  · have q := row_mix h T C Co (v := begin) (tk := tk) (c := fun l => h.f (begin'.getD l 0)) T.nb (fun t ht => (K.ok t ht).1) fun x hx => by
      have q := K.bg R h x hx
      rw [sgx _ x hx] at q
      rw [q]
      exact sumTo_congr fun l _ => by rw [sgx _ x hx]
    rw [K.n] at q
    exact q.symm
end
/-- the answer of powers_of is right -/
theorem fulf_of {p : Int} {begin firsts begin' firsts' : List Int} {steps steps' : List (List (List Int))} {tk columns : List (List Int)} (T : Tb p begin steps firsts) (C : Cons p steps firsts) (m5 : firsts.length ≤ 5) (hq : p.toNat ^ firsts.length ≤ 32) (K : Kept p begin steps firsts columns begin' steps' firsts' tk) (Co : Cols p firsts.length steps firsts columns)
    {fin : Rows} {xs ys : List (List Int)} (H : Elim p firsts'.length (startRows (rowsByPowers p begin' steps' firsts'.length firsts'.length)) fin) (h0 : 0 < fin.length) (rf : Rw p fin.length (firsts'.length + (firsts'.length + 1)) fin) (al : Al2 2048 fin)
    (B : Beg p ((fin.getD 0 []).drop firsts'.length) ys) (xne : xs ≠ []) (xl : xs.length ≤ ((fin.getD 0 []).drop firsts'.length).length) (xt : ∀ g ∈ xs, Tp p g ∧ g.length ≤ 10000) (xy : xs = ys.take xs.length) (xz : ∀ k, xs.length ≤ k → ys.getD k [] = []) : Fulf p begin steps firsts xs := by
  have p2 := T.pm.two
  have few : firsts'.length ≤ firsts.length := Nat.le_trans K.le Co.few
  have hq' := pow_le (p := p) (by omega) few hq
  have xyl : xs.length ≤ ys.length := by
    have e := congrArg List.length xy
    rw [List.length_take] at e
    omega
  have r0 := rf.w _ (rf.row h0)
  have dl : ((fin.getD 0 []).drop firsts'.length).length = firsts'.length + 1 := by rw [List.length_drop, r0]; omega
  refine ⟨T, m5, List.length_pos_iff.mpr xne, by omega, pow_le (p := p) (by omega) (show xs.length - 1 ≤ firsts.length by omega) hq, fun g hg => ⟨?_, (xt g hg).1.1⟩, ?_⟩
  · rw [xy] at hg
    exact beg_len B (fun g hg => al _ (rf.row h0) g (List.mem_of_mem_drop hg)) g (List.mem_of_mem_take hg)
  · obtain ⟨R, _, ⟨h⟩⟩ := hom_of T.pm
    obtain ⟨S', e⟩ := kept_sys h T C K Co
    obtain ⟨kl, _, _⟩ := rel_series h K.tb S' rfl (rows_all K.tb hq').1 H h0 rf
    have k2 := kill_take h xyl xz (beg_kill h T.pm.pos B kl)
    rw [← xy, e] at k2
    exact ⟨R, _, h, Fs h p.toNat steps firsts, sys_of h T C, k2⟩
/-- .. of nought -/
theorem fulf_nil {p : Int} {begin firsts begin' firsts' : List Int} {steps steps' : List (List (List Int))} {tk columns : List (List Int)} (T : Tb p begin steps firsts) (C : Cons p steps firsts) (m5 : firsts.length ≤ 5) (K : Kept p begin steps firsts columns begin' steps' firsts' tk) (Co : Cols p firsts.length steps firsts columns)
    (hz : firsts'.length = 0) : Fulf p begin steps firsts [[1]] := by
  have p2 := T.pm.two
  refine ⟨T, m5, Nat.succ_pos _, by show 1 ≤ 6; decide, by show p.toNat ^ 0 ≤ 32; rw [Nat.pow_zero]; decide, fun g hg => ?_, ?_⟩
  · rw [List.mem_singleton.mp hg]
    exact ⟨by show 1 ≤ 2048; decide, fun x hx => by rw [List.mem_singleton.mp hx]; omega⟩
  · obtain ⟨R, _, ⟨h⟩⟩ := hom_of T.pm
    obtain ⟨_, e⟩ := kept_sys h T C K Co
    refine ⟨R, _, h, Fs h p.toNat steps firsts, sys_of h T C, ?_⟩
    rw [← e]
    unfold tot
    rw [hz]
    refine sumTo_none fun t ht => ?_
    have t0 : t = 0 := by
      have : t < 1 := ht
      omega
    subst t0
    show ser h [1] * sumTo 0 _ = 0
    rw [sumTo_zero]
    grind
end Dg
end
section
set_option Elab.async false
set_option linter.all false
set_option maxRecDepth 100000
set_option maxHeartbeats 4000000
/-! powers_of. -/
namespace Dg
open PySem PySem.Spec PyProof.Rows L2 LamX NdefX

abbrev sp_powers_of (T : Addr) : Sp := spW (ι := Int × List Int × List (List (List Int)) × List Int) (fun t => aC (rQd rI (rT rI) rTT (rT rI)) t aN) (fun t G H => Tb t.1 t.2.1 t.2.2.1 t.2.2.2 ∧ Cons t.1 t.2.2.1 t.2.2.2 ∧ t.2.2.2.length ≤ 5 ∧ t.1.toNat ^ t.2.2.2.length ≤ 32 ∧ TabG T G H) (fun _ => [T])
  (fun t _ G' H' v => (∃ powers, rT (rT rI) G' H' v powers ∧ Fulf t.1 t.2.1 t.2.2.1 t.2.2.2 powers) ∧ TabG T G' H')
theorem pow_nat {p : Int} (h : 0 ≤ p) (n : Nat) : p ^ n = ((p.toNat ^ n : Nat) : Int) := by
  rw [Int.natCast_pow, Int.toNat_of_nonneg h]
theorem call2_of {sp : Sp} {E : XK} {ta tb : TE} {σ : L2.St} {H : Hp} {Q : VK} (h : ta σ H fun x H1 => tb σ H1 fun y H2 => sp [x, y] H2 Q E) : tCall sp [] E (tCons ta (tCons tb tNil)) σ H Q := h
section
variable {P : Program} {w : World} {K : PySem.W.Frag} {mg : Str → Option Value} {base : Heap}


theorem sc_powers_of : FnScope ["table", "known", "p", "many"] ["table"] (defScope (top 31)) := ⟨rfl, rfl, rfl, by decide +kernel, rfl, by decide +kernel, by decide +kernel⟩
theorem b_powers_of (h : Hd K mg) : Binds K h.fd_powers_of ["table"] [] := h.F_powers_of.bindsN fun _ _ _ _ _ _ us hl => match us, hl with | [_], _ => rfl
theorem ok_powers_of {c T : Addr} (h : Hd K mg) (hcode : h.fd_least_table.code = .ref c) (TB : TabB base mg c T) : FnOk P w K mg base CX0 6 h.f_powers_of h.fd_powers_of ["table"] (sp_powers_of T) := by
  have nd := sc_powers_of.nd
  obtain ⟨tm, hmf⟩ := h.c_MOST_FAR
  refine h.F_powers_of.ok sc_powers_of (fun vs H Q E h => ?_) (fun cdv A outer s H vs Q E hr hsp => ⟨_, PSs.nox
    (pss_cons (ps_set (i := 1) nd rfl (by first | exact .inl rfl | exact .inr rfl) (pe_call (ok_least_table h hcode TB) (hr.mono (by decide)) rfl h.g_least_table h.F_least_table.kp (b_least_table h) .nil pass0 (pa_cons (pv 0) pa_nil)))
    (pss_cons (ps_par (i := 2) (j := 3) rfl nd rfl rfl (by decide) rfl rfl (pa_cons (pe_ix (k_ixT (K := K) rfl) (pv 1) pe_int (fun _ _ => rfl)) (pa_cons (pe_callB (k_len (K := K) rfl) rfl h.b_len (by decide +kernel) (pa_cons (pe_ix (k_ixT (K := K) rfl) (pv 1) pe_int (fun _ _ => rfl)) pa_nil)) pa_nil)) rfl)
    (pss_cons (ps_if (pt_cmpR op_gt (pe_call (ok_power_of h) (hr.mono (by decide)) rfl h.g_power_of h.F_power_of.kp (b_power_of h) .nil pass0 (pa_cons (pv 2) (pa_cons (pv 3) pa_nil))) (pe_glob (v := .int 32) rfl hmf ⟨_, rfl⟩) (nomark _)) (pss_one ps_never) pss_nil)
    (pss_cons (ps_if (pt_cmpR op_eq (pv 3) pe_int (nomark _)) (pss_one (ps_ret (pe_tup (pa_cons (pe_tup (pa_cons pe_int pa_nil)) pa_nil)))) pss_nil)
    (pss_one (ps_ret (pe_call (ok_begun_by_some h) (hr.mono (by decide)) rfl h.g_begun_by_some h.F_begun_by_some.kp (b_begun_by_some h) .nil pass0 (pa_cons (pv 2) (pa_cons (pe_call (ok_relation_of h) (hr.mono (by decide)) rfl h.g_relation_of h.F_relation_of.kp (b_relation_of h) .nil pass0 (pa_cons (pv 2) (pa_cons (pe_call (ok_rows_by_powers h) (hr.mono (by decide)) rfl h.g_rows_by_powers h.F_rows_by_powers.kp (b_rows_by_powers h) .nil pass0 (pa_cons (pv 1) (pa_cons (pv 3) pa_nil))) pa_nil))) pa_nil))))))))), ?_⟩)
  · obtain ⟨i, G, _, ⟨_, _, rfl, _, rfl⟩, _⟩ := h
    rfl
  obtain ⟨⟨p, begin, steps, firsts⟩, G, d, ⟨_, _, rfl, h0, rfl⟩, ⟨Tp, C, m5, hq, ht⟩, q⟩ := hsp
  dsimp only at Tp C m5 hq ht q h0
  have hp := Tp.pm
  have p0 := hp.pos
  have p2 := hp.two
  have p5 := hp.le
  refine (?_ : Nx ⟨[T], G, H, G⟩ _ ⟨[eR (rQd rI (rT rI) rTT (rT rI)) (p, begin, steps, firsts), eAny, eAny, eAny], [oT T nmL]⟩) _ G H (en_startT d ⟨⟨_, rfl, Go.go h0⟩, trivial, trivial, trivial, trivial⟩ rfl ht)
  intro σ0 G0 H0 e0
  refine sasg_of (callW_run e0 ((p, begin, steps, firsts) : Int × List Int × List (List (List Int)) × List Int) (ea_c (lk e0.toEo 0 rfl) ea_n) (fun G H e => ⟨Tp, e.tab (j := 0) rfl⟩) fun v G1 H1 G' H' e f post => ?_)
  obtain ⟨⟨begin', firsts', steps', tk, columns, hv, Ke, Co⟩, tb⟩ := post
  obtain ⟨tg, u, tu, tp⟩ := tb
  have e1 := e.callK (j := 0) (o' := oT T nmL) rfl (fun z => nomatch z) f rfl rfl tu tp
  refine (?_ : Nx ⟨[T], G, H, G⟩ _ ⟨[eR (rQd rI (rT rI) rTT (rT rI)) (p, begin, steps, firsts), eR (rQd rI (rT rI) rTT (rT rI)) (p, begin', steps', firsts'), eAny, eAny], [oT T nmL]⟩) _ G' H' (e1.slots (e1.sl.put 1 (eR (rQd rI (rT rI) rTT (rT rI)) (p, begin', steps', firsts')) ⟨v, rfl, Go.go hv⟩))
  have few : firsts'.length ≤ firsts.length := Nat.le_trans Ke.le Co.few
  have hq' := pow_le (p := p) (by omega) few hq
  refine s_par (r := rI) (r' := rN) (x := p) (y := firsts'.length) (fun e => (ev_fst4_0 (lk e 1 rfl))) (fun e => (ev_lenN (ev_fst4_3 (lk e 1 rfl)))) ?_
  refine s_if1 (fun e => (et_t (ev_gt (ev_power_of (ea_c (lk e 2 rfl) (ea_c (lk e 3 rfl) ea_n)) ?_) ev_i))) (fun hc => ?_) (fun hc => ?_)
  · exact ⟨hp, by omega⟩
  · have hc := of_decide_eq_true hc
    rw [pow_nat (by omega)] at hc
    exact absurd hc (by omega)
  refine s_if1 (fun e => (et_t (ev_eqN (lk e 3 rfl) (ev_litN 0)))) (fun hc => ?_) (fun hc => ?_)
  · have hz := of_decide_eq_true hc
    refine nx_ret (r := rT (rT rI)) (x := [[1]]) (fun e => (ev_tup (el_c (ev_tup (el_c ev_i el_n) (by simp)) el_n) (by simp))) (fun σ v G' H' e hv => q v G' H' e.fz ⟨⟨[[1]], hv, fulf_nil Tp C m5 Ke Co hz⟩, e.tab (j := 0) rfl⟩)
  intro σ2 G2 H2 e2
  obtain ⟨rw0, al0⟩ := rows_all Ke.tb hq'
  refine ret_of ?_
  refine call2_of ((lk (r := rI) (x := p) e2.toEo 2 rfl) G2 H2 (Fz.refl e2.gd) _ fun u2 G3 H3 f3 eu => ?_)
  have e3 := e2.step f3
  refine callW_run (Q := fun y H4 => sp_begun_by_some [u2, y] H4 Q E0) e3.lo' ((p, rowsByPowers p begin' steps' firsts'.length firsts'.length, firsts'.length) : Int × Rows × Nat) (ea_c (lk e3.toEo 2 rfl) (ea_c (ev_rows_by_powers (table := (p, begin', steps', firsts')) (ea_c (lk e3.toEo 1 rfl) (ea_c (lk e3.toEo 3 rfl) ea_n)) ⟨Ke.tb, (show firsts'.length ≤ 5 by omega), hq'⟩) ea_n)) (fun G H e => ⟨hp, (show firsts'.length ≤ 5 by omega), rw0, al0⟩) fun y G4 H4 G5 H5 e4 f4 post => ?_
  obtain ⟨fin, hy, el, f0, rf, al⟩ := post
  have e5 := e4.step f4.to
  obtain ⟨S', e6⟩ : ∃ R, ∃ _ : Lean.Grind.CommRing R, ∃ h : Hom R p, Sys h steps' firsts' (fun k => Row h firsts.length (Fs h p.toNat steps firsts) (tk.getD k [])) := by
    obtain ⟨R, i, ⟨h⟩⟩ := hom_of hp
    exact ⟨R, i, h, (kept_sys h Tp C Ke Co).1⟩
  obtain ⟨_, h2, S2⟩ := e6
  obtain ⟨_, dl, dne⟩ := rel_series h2 Ke.tb S2 rfl rw0 el f0 rf
  refine ⟨(p, (fin.getD 0 []).drop firsts'.length), G5, e5.gd, ⟨u2, _, rfl, eu, y, [], rfl, hy, rfl⟩, ⟨hp, ?_, fun g hg => ⟨?_, ?_⟩, dne⟩, fun v6 G6 H6 f6 post6 => ?_⟩
  · show ((fin.getD 0 []).drop firsts'.length).length ≤ 100
    rw [dl]; omega
  · exact rf.tp _ (rf.row f0) g (List.mem_of_mem_drop hg)
  · have := al _ (rf.row f0) g (List.mem_of_mem_drop hg)
    omega
  · obtain ⟨xs, ys, hxs, B, xne, xl, xt, xy, xz⟩ := post6
    have e7 := e5.step f6.to
    have F := fulf_of Tp C m5 hq Ke Co el f0 rf al B xne xl xt xy xz
    exact q v6 G6 H6 e7.fz ⟨⟨xs, hxs, F⟩, e7.tab (j := 0) rfl⟩

end
end Dg
end
section
set_option Elab.async false
set_option linter.all false
set_option maxRecDepth 100000
set_option maxHeartbeats 4000000
/-! _law_drawn_table. -/
namespace Dg
open PySem PySem.Spec PyProof.Rows L2

abbrev sp__law_drawn_table : Sp := spW (ι := Addr × List Int × Nat × Nat) (fun t => aC rA t.1 (aC rN t.2.2.1 (aC rN t.2.2.2 aN)))
  (fun t G H => (∃ vs, H t.1 = some (.lst vs) ∧ G t.1 = none ∧ Al (rI G H) vs t.2.1) ∧ Bg t.2.1 ∧ Pm (t.2.2.1 : Int) ∧ t.2.2.2 ≤ 5) (fun t => [t.1])
  (fun t _ G' H' v => ∃ (begin firsts : List Int) (steps : List (List (List Int))) (vs : List V) (ms : List Int), rQd rI (rT rI) (rT (rT (rT rI))) (rT rI) G' H' v ((t.2.2.1 : Int), begin, steps, firsts) ∧ Tb (t.2.2.1 : Int) begin steps firsts ∧ Cons (t.2.2.1 : Int) steps firsts ∧ firsts.length = t.2.2.2 ∧
    H' t.1 = some (.lst vs) ∧ Al (rI G' H') vs ms ∧ Bg ms)
structure Dn (p many : Nat) (L : List Grp) : Prop where
  l : ∀ g ∈ L, g.length = many
  w : ∀ g ∈ L, ∀ q ∈ g, q.2.length = many ∧ Nm (p : Int) q.2
section
variable {P : Program} {w : World} {K : PySem.W.Frag} {mg : Str → Option Value} {base : Heap}


theorem sc__law_drawn_table : FnScope ["_law_bag_here", "_law_p", "_law_many", "_law_begin", "_law_firsts", "_law_steps", "_law_r", "_law_some", "_law_at", "_law_i", "_law_k", "_law_rest", "_law_step", "_law_row"] ["_law_bag_here", "_law_p", "_law_many"] (defScope (top 37)) := ⟨rfl, rfl, rfl, by decide +kernel, rfl, by decide +kernel, by decide +kernel⟩
theorem b__law_drawn_table (h : Hd K mg) : Binds K h.fd__law_drawn_table ["_law_bag_here", "_law_p", "_law_many"] [] := h.F__law_drawn_table.bindsN fun _ _ _ _ _ _ us hl => match us, hl with | [_, _, _], _ => rfl
theorem ok__law_drawn_table (h : Hd K mg) : FnOk P w K mg base CX0 3 h.f__law_drawn_table h.fd__law_drawn_table ["_law_bag_here", "_law_p", "_law_many"] sp__law_drawn_table := by
  have nd := sc__law_drawn_table.nd
  refine h.F__law_drawn_table.ok sc__law_drawn_table (fun vs H Q E h => ?_) (fun cdv A outer s H vs Q E hr hsp => ⟨_, PSs.nox
    (pss_cons (ps_asg (pe_tup (pa_cons (pe_call (ok__law_numbers h) (hr.mono (by decide)) rfl h.g__law_numbers h.F__law_numbers.kp (b__law_numbers h) .nil pass0 (pa_cons (pv 0) (pa_cons (pv 1) (pa_cons (pv 2) pa_nil)))) (pa_cons (pe_call (ok__law_numbers h) (hr.mono (by decide)) rfl h.g__law_numbers h.F__law_numbers.kp (b__law_numbers h) .nil pass0 (pa_cons (pv 0) (pa_cons (pv 1) (pa_cons (pv 2) pa_nil)))) pa_nil))) (k_tup (K := K) (n := 2) rfl rfl (pgs_cons (pg_name (i := 3) nd rfl (by first | exact .inl rfl | exact .inr rfl)) (pgs_cons (pg_name (i := 4) nd rfl (by first | exact .inl rfl | exact .inr rfl)) pgs_nil))))
    (pss_cons (ps_set (i := 5) nd rfl (by first | exact .inl rfl | exact .inr rfl) (pe_lst pa_nil))
    (pss_cons (ps_for PassesOwn.never rfl (pi_range1 rfl h.b_range (pa_cons (pv 1) pa_nil)) (pg_name (i := 6) nd rfl (by first | exact .inl rfl | exact .inr rfl)) (pss_one (ps_expr (pe_bm PySem.F.plainAttrs_list PySem.F.slot_list_append PySem.F.type_list_append mt_append (pv 5) (pa_cons (pe_lc rfl nd (pi_range1 rfl h.b_range (pa_cons (pv 2) pa_nil)) (blkOk_by (own := [("_law_k", 10)]) (by kernel_rfl)) (fun _ _ _ _ _ => (by exact (pg_name (i := 10) nd rfl (by first | exact .inl rfl | exact .inr rfl)))) (fun _ _ _ _ _ => pts_nil) (fun _ _ _ _ _ => (pe_callTy (k_list (K := K) rfl) rfl h.b_list (by decide +kernel) (pa_cons (pe_call (ok__law_numbers h) (hr.mono (by decide)) rfl h.g__law_numbers h.F__law_numbers.kp (b__law_numbers h) .nil pass0 (pa_cons (pv 0) (pa_cons (pv 1) (pa_cons (pv 2) pa_nil)))) pa_nil)))) pa_nil)))))
    (pss_cons (ps_setLc (i := 7) rfl nd rfl rfl (sw_true rfl rfl rfl (by decide +kernel)) (pi_range1 rfl h.b_range (pa_cons (pv 2) pa_nil)) (blkOk_by (own := [("_law_k", 10)]) (by kernel_rfl)) (fun _ _ _ _ _ => (by exact (pg_name (i := 10) nd rfl (by first | exact .inl rfl | exact .inr rfl)))) (fun _ _ _ _ _ => pts_one (pt_cmpR op_ne (pe_ix (k_ixT (K := K) rfl) (pv 4) (pv 10) (fun _ _ => rfl)) pe_int (nomark _))) (fun _ _ _ _ _ => (pv 10)))
    (pss_cons (ps_if (pt_cmpR (k_neD (K := K) rfl (hu64 hr)) (pv 7) (pe_lst pa_nil) (nomark _)) (pss_cons (ps_set (i := 8) nd rfl (by first | exact .inl rfl | exact .inr rfl) (pe_ix (k_ixL (K := K) rfl) (pv 7) pe_int (fun _ _ => rfl)))
    (pss_one (ps_for PassesOwn.never rfl (pi_range1 rfl h.b_range (pa_cons (pv 2) pa_nil)) (pg_name (i := 9) nd rfl (by first | exact .inl rfl | exact .inr rfl)) (pss_cons (ps_set (i := 11) nd rfl (by first | exact .inl rfl | exact .inr rfl) (pe_callB (k_sum (K := K) rfl rfl) rfl h.b_sum (by decide +kernel) (pa_cons (pe_lc rfl nd (pi_range1 rfl h.b_range (pa_cons (pv 2) pa_nil)) (blkOk_by (own := [("_law_k", 10)]) (by kernel_rfl)) (fun _ _ _ _ _ => (by exact (pg_name (i := 10) nd rfl (by first | exact .inl rfl | exact .inr rfl)))) (fun _ _ _ _ _ => pts_one (pt_cmpR op_ne (pv 10) (pv 8) (nomark _))) (fun _ _ _ _ _ => (pe_op op_mul (pe_ix (k_ixL (K := K) rfl) (pe_ix (k_ixL (K := K) rfl) (pe_ix (k_ixL (K := K) rfl) (pv 5) pe_int (fun _ _ => rfl)) (pv 9) (fun _ _ => rfl)) (pv 10) (fun _ _ => rfl)) (pe_ix (k_ixT (K := K) rfl) (pv 4) (pv 10) (fun _ _ => rfl))))) pa_nil)))
    (pss_one (ps_asg (pe_op op_mod (pe_op op_mul (pe_op op_sub (pe_ix (k_ixT (K := K) rfl) (pv 4) (pv 9) (fun _ _ => rfl)) (pv 11)) (pe_call (ok__law_back h) (hr.mono (by decide)) rfl h.g__law_back h.F__law_back.kp (b__law_back h) .nil pass0 (pa_cons (pv 1) (pa_cons (pe_ix (k_ixT (K := K) rfl) (pv 4) (pv 8) (fun _ _ => rfl)) pa_nil)))) (pv 1)) (pg_sub (pe_ix (k_ixL (K := K) rfl) (pe_ix (k_ixL (K := K) rfl) (pv 5) pe_int (fun _ _ => rfl)) (pv 9) (fun _ _ => rfl)) (pv 8) set_list))))))) pss_nil)
    (pss_one (ps_ret (pe_tup (pa_cons (pv 1) (pa_cons (pv 3) (pa_cons (pe_callTy (k_tuple (K := K) rfl) rfl h.b_tuple (by decide +kernel) (pa_cons (pe_lc rfl nd (k_piL (K := K) rfl (pv 5)) (blkOk_by (own := [("_law_step", 12)]) (by kernel_rfl)) (fun _ _ _ _ _ => (by exact (pg_name (i := 12) nd rfl (by first | exact .inl rfl | exact .inr rfl)))) (fun _ _ _ _ _ => pts_nil) (fun _ _ _ _ _ => (pe_callTy (k_tuple (K := K) rfl) rfl h.b_tuple (by decide +kernel) (pa_cons (pe_lc rfl nd (k_piL (K := K) rfl (pv 12)) (blkOk_by (own := [("_law_row", 13)]) (by kernel_rfl)) (fun _ _ _ _ _ => (by exact (pg_name (i := 13) nd rfl (by first | exact .inl rfl | exact .inr rfl)))) (fun _ _ _ _ _ => pts_nil) (fun _ _ _ _ _ => (pe_callTy (k_tuple (K := K) rfl) rfl h.b_tuple (by decide +kernel) (pa_cons (pv 13) pa_nil)))) pa_nil)))) pa_nil)) (pa_cons (pv 4) pa_nil)))))))))))), ?_⟩)
  · obtain ⟨i, G, _, ⟨_, _, rfl, _, ⟨_, _, rfl, _, ⟨_, _, rfl, _, rfl⟩⟩⟩, _⟩ := h
    rfl
  obtain ⟨⟨a, ns, p, many⟩, G, d, ⟨_, _, rfl, h0, _, _, rfl, h1, _, _, rfl, h2, rfl⟩, ⟨⟨us, ha, hg, ta⟩, hb, hp, hm⟩, q⟩ := hsp
  dsimp only at ha hg ta hb hp hm q h0 h1 h2
  have p0 := hp.pos
  have p5 := hp.le
  have p2 := hp.two
  refine (?_ : Nx ⟨[a], G, H, G⟩ _ ⟨[eR rA a, eR rN p, eR rN many, eAny, eAny, eAny, eAny, eAny, eAny, eAny, eAny, eAny, eAny, eAny], [oL a rI ns .par]⟩) _ G H (en_startW d ⟨⟨_, rfl, h0⟩, ⟨_, rfl, Go.go h1⟩, ⟨_, rfl, Go.go h2⟩, trivial, trivial, trivial, trivial, trivial, trivial, trivial, trivial, trivial, trivial, trivial, trivial⟩ rfl ha hg ta)
  refine s_numbers2 (p := p) (many := many) hb (by omega) (by omega) (by omega) (fun e => ea_c (lk e 0 rfl) (ea_c (lk e 1 rfl) (ea_c (lk e 2 rfl) ea_n))) fun begin firsts ms lb nB lf nF bm => ?_
  refine s_own (r := rL rA) (fun e => (en_lst el_n (by simp))) fun b => ?_
  refine s_forE (δ := List Int × List Grp) (r := rN) (l := List.range ((p : Nat) : Int).toNat) (fun e => (ei_r1 (ev_nI (lk e 1 rfl)) ?_ ?_)) (fun s => ⟨[eR rA a, eR rN p, eR rN many, eR (rT rI) begin, eR (rT rI) firsts, eR rA b, eAny, eAny, eAny, eAny, eAny, eAny, eAny, eAny], oL b (rL rA) (s.2.map fun g => g.map (·.1)) :: oL a rI s.1 .par :: owns rI s.2.flatten⟩) (fun k s => Bg s.1 ∧ s.2.length = k ∧ Dn p many s.2) (ms, []) (fun x => [(6, eR rN x)]) ⟨by repeat' (first | exact SubE.nil | apply SubE.any | apply SubE.same), List.Sublist.refl _⟩ ⟨bm, rfl, fun g hg => absurd hg (by simp), fun g hg => absurd hg (by simp)⟩ (fun x hx => tg_n 6) ?_ ?_
  · omega
  · omega
  · intro W' f1 f2 f3 k s x hx ⟨bs, ls, dn⟩
    obtain ⟨ns1, L⟩ := s
    dsimp only at bs ls dn
    have hk : k < p := by
      have := (List.getElem?_eq_some_iff.mp hx).1
      rwa [List.length_range, Int.toNat_natCast] at this
    intro σ G1 H1 e
    refine drop_app (K := K) (lk (r := rA) (x := b) e.toEo 5 rfl G1 H1 (Fz.refl e.gd) _ fun u G2 H2 z eu => ?_)
    have e1 : En W' G2 H2 σ ⟨[eR rA a, eR rN p, eR rN many, eR (rT rI) begin, eR (rT rI) firsts, eR rA b, eR rN x, eAny, eAny, eAny, eAny, eAny, eAny, eAny], oL b (rL rA) (L.map fun g => g.map (·.1)) :: oL a rI ns1 .par :: (owns rI [] ++ owns rI L.flatten)⟩ := e.step z
    obtain ⟨h9, h1, _, vs0, eh, _⟩ := e1.ow _ (List.mem_of_getElem? (i := 0) rfl)
    rw [eh] at h1
    have eu : u = .ref b := eu
    refine ⟨by rw [eu]; exact .inl ⟨rfl, vs0, sqL_of h1⟩, ?_⟩
    refine lc_write (r := rN) (r' := rA) (l := List.range ((many : Nat) : Int).toNat) (δ := List Int × Grp) (sl := [eR rA a, eR rN p, eR rN many, eR (rT rI) begin, eR (rT rI) firsts, eR rA b, eR rN x, eAny, eAny, eAny, eAny, eAny, eAny, eAny]) (ow := fun s => oL b (rL rA) (L.map fun g => g.map (·.1)) :: oL a rI s.1 .par :: (owns rI s.2 ++ owns rI L.flatten)) (ns1, []) (fun k s ys => Bg s.1 ∧ s.2.length = k ∧ ys = (s.2.map (·.1)).reverse ∧ ∀ q ∈ s.2, q.2.length = many ∧ Nm (p : Int) q.2) e1 ⟨bs, rfl, rfl, fun q hq => absurd hq (by simp)⟩ (fun e => ei_r1 (ev_nI (lk e 2 rfl)) ?_ ?_) ?_ (fun k s ys h => ?_) (fun x => [(10, eR rN x)]) (fun x hx => tg_n 10) (by simp) ?_ _ ?_
    · omega
    · omega
    · rw [List.length_range]; omega
    · rw [h.2.2.1, List.length_reverse, List.length_map]
      exact Nat.le_of_eq h.2.1
    · intro W2 g1 g2 g3 o0 k2 s2 ys x2 hx2 ⟨bs2, ls2, ey, all⟩ σ2 G3 H3 e3 Q2 hQ2
      refine cb1_of (callW_run e3 ((a, s2.1, p, many) : Addr × List Int × Nat × Nat) (ea_c (lk e3.toEo 0 rfl) (ea_c (lk e3.toEo 1 rfl) (ea_c (lk e3.toEo 2 rfl) ea_n))) (fun G H e => ⟨e.lst (j := 2) rfl (fun z => nomatch z), bs2, (show 0 < p by omega), (show p < 1000 by omega), (show many < 1000 by omega)⟩) fun v G4 H4 G5 H5 e4 f post => ?_)
      obtain ⟨xs, vs, ms2, hxs, lxs, nxs, h4, t4, b4⟩ := post
      have e5 := e4.callK (j := 2) (o' := oL a rI ms2 .par) rfl (fun z => nomatch z) f rfl rfl h4 ⟨vs, rfl, t4.imp fun _ _ q => q⟩
      obtain ⟨c, ws, rfl, hc, tc⟩ := hxs
      refine ⟨c, ws, rfl, .inr (sqT_of (e5.gd.sub _ _ hc)), fun l hl => ?_⟩
      have n := own_lst (r := rI) e5.gd hl tc
      have e6 := e5.cons n.1 (o := oL l rI xs) rfl hl n.2.1 n.2.2.1 ⟨ws, rfl, n.2.2.2.imp fun _ _ q => Go.go q⟩ rfl
      have e7 := e6.perm (ow' := o0 :: oL b (rL rA) (L.map fun g => g.map (·.1)) :: oL a rI ms2 .par :: (owns rI ((l, xs) :: s2.2) ++ owns rI L.flatten)) (List.perm_middle (a := oL l rI xs) (l₁ := [o0, oL b (rL rA) (L.map fun g => g.map (·.1)), oL a rI ms2 .par]) (l₂ := owns rI s2.2 ++ owns rI L.flatten)).symm
      refine hQ2 _ _ _ (ms2, (l, xs) :: s2.2) l e7 rfl ⟨b4, ?_, ?_, fun q hq => ?_⟩
      · show s2.2.length + 1 = k2 + 1
        omega
      · rw [ey, List.map_cons, List.reverse_cons]
      · rcases List.mem_cons.mp hq with rfl | hq
        · exact ⟨lxs, nxs⟩
        · exact all q hq
    · intro D2 s2 ys G3 H3 e3 ⟨bs2, ls2, ey, all⟩
      obtain ⟨G4, h4, e4, g4, vs4, rfl, t4⟩ := e3.keep (j := 0) rfl rfl fun ps ⟨vs, z, _⟩ => nomatch z
      obtain ⟨h5, g5, g6, vs5, rfl, t5⟩ := e4.ow _ (List.mem_of_getElem? (i := 0) rfl)
      have lv := t5.length
      rw [List.length_map, ls] at lv
      refine ⟨b, vs5, .ref D2, eu, rfl, g5, ?_, ?_⟩
      · have := sizeLine_eq
        omega
      have e5 := e4.write (j := 0) (o' := oL b (rL rA) ((L ++ [s2.2.reverse]).map fun g => g.map (·.1))) (h := .lst (vs5 ++ [.ref D2])) rfl rfl rfl (fun z => nomatch z) ⟨_, rfl, by
        rw [List.map_append]
        refine t5.append (.cons ⟨D2, vs4, rfl, g4, ?_⟩ .nil)
        show Al (rA G4 G4) vs4 (s2.2.reverse.map (·.1))
        rw [List.map_reverse, ← ey]
        exact t4⟩
      have e6 := e5.perm (ow' := oL b (rL rA) ((L ++ [s2.2.reverse]).map fun g => g.map (·.1)) :: oL a rI s2.1 .par :: owns rI (L ++ [s2.2.reverse]).flatten) (((List.Perm.cons _ (List.Perm.cons _ (by
        show (owns rI s2.2 ++ owns rI L.flatten).Perm _
        rw [List.flatten_append, owns_app]
        refine List.perm_append_comm.trans (List.Perm.append_left _ ?_)
        show (owns rI s2.2).Perm (owns rI (s2.2.reverse ++ []))
        rw [List.append_nil]
        unfold owns
        exact ((List.reverse_perm s2.2).map _).symm)))))
      have lg : s2.2.reverse.length = many := by
        rw [List.length_reverse, ls2, List.length_range, Int.toNat_natCast]
      refine ⟨((s2.1, L ++ [s2.2.reverse]) : List Int × List Grp), ⟨bs2, ?_, fun g hg => ?_, fun g hg q hq => ?_⟩, G4, e6.to ⟨by repeat' (first | exact SubE.nil | apply SubE.any | apply SubE.same), List.Sublist.refl _⟩⟩
      · show (L ++ [s2.2.reverse]).length = k + 1
        rw [List.length_append, ls]
        rfl
      · rcases List.mem_append.mp hg with hg | hg
        · exact dn.l g hg
        · rw [List.mem_singleton.mp hg]
          exact lg
      · rcases List.mem_append.mp hg with hg | hg
        · exact dn.w g hg q hq
        · rw [List.mem_singleton.mp hg] at hq
          exact all q (List.mem_reverse.mp hq)
  · intro s ⟨bs, ls, dn⟩
    obtain ⟨ns1, L⟩ := s
    dsimp only at bs ls dn
    rw [List.length_range, Int.toNat_natCast] at ls
    obtain ⟨g0, L', rfl⟩ : ∃ g0 L', L = g0 :: L' := by
      cases L with
      | nil =>
        rw [List.length_nil] at ls
        omega
      | cons g0 L' => exact ⟨g0, L', rfl⟩
    have l0 := dn.l g0 List.mem_cons_self
    refine nx_perm (ow' := oL b (rL rA) ((g0 :: L').map fun g => g.map (·.1)) :: oL a rI ns1 .par :: (owns rI g0 ++ owns rI L'.flatten)) (.of_eq (by rw [List.flatten_cons, owns_app])) ?_
    refine s_asg (r := rL rN) (x := (List.range ((many : Nat) : Int).toNat).filter fun k => !decide (firsts.getD k 0 = 0)) (fun e => (EvR.is (en_lc e (ei_r1 (ev_nI (lk e 2 rfl)) ?_ ?_) ?_ (fun x => [(10, eR rN x)]) (fun x hx => (tg_n 10)) (by simp) (fun x hx σ2 G2 H2 e2 => (et_t (ev_neI (ev_gTn (d := 0) (lk e2 4 rfl) (lk e2 10 rfl) ?_) ev_i))) (fun x hx hk σ2 G2 H2 e2 => (lk e2 10 rfl))).ev (List.map_id _))) ?_
    · omega
    · omega
    · rw [List.length_range]; omega
    · rw [List.mem_range, Int.toNat_natCast] at hx
      omega
    generalize hsome : ((List.range ((many : Nat) : Int).toNat).filter fun k => !decide (firsts.getD k 0 = 0)) = some_
    have hin : ∀ k, k ∈ some_ ↔ k < many ∧ firsts.getD k 0 ≠ 0 := fun k => by
      rw [← hsome, List.mem_filter, List.mem_range, Int.toNat_natCast]
      simp
    refine s_join (δ := Grp) (fun g => ⟨[eR rA a, eR rN p, eR rN many, eR (rT rI) begin, eR (rT rI) firsts, eR rA b, eAny, eAny, eAny, eAny, eAny, eAny, eAny, eAny], oL b (rL rA) ((g0 :: L').map fun g => g.map (·.1)) :: oL a rI ns1 .par :: (owns rI g ++ owns rI L'.flatten)⟩) (fun g => g.map (·.1) = g0.map (·.1) ∧ Dn p many (g :: L') ∧ Cons (p : Int) ((g :: L').map fun g => g.map (·.2)) firsts) (fun g hg => ?_) (fun rest => ?_)
    · obtain ⟨ga, gd, gc⟩ := hg
      have gl := gd.l g List.mem_cons_self
      refine nx_perm (ow' := oL b (rL rA) ((g :: L').map fun g => g.map (·.1)) :: oL a rI ns1 .par :: owns rI (g :: L').flatten) (.of_eq (by rw [List.flatten_cons, owns_app, List.map_cons, List.map_cons, ga])) ?_
      refine nx_keepG (i := 5) rfl ?_
      have T : Tb (p : Int) begin ((g :: L').map fun g => g.map (·.2)) firsts := by
        refine ⟨hp, by rw [List.length_map, List.length_cons, Int.toNat_natCast]; simpa using ls, by omega, by omega, fun s hs => ?_, fun s hs row hrow => ?_, nB, nF⟩
        · obtain ⟨g', hg', rfl⟩ := List.mem_map.mp hs
          rw [List.length_map, gd.l g' hg', lf]
        · obtain ⟨g', hg', rfl⟩ := List.mem_map.mp hs
          obtain ⟨q', hq', rfl⟩ := List.mem_map.mp hrow
          have := gd.w g' hg' q' hq'
          exact ⟨by rw [this.1, lf], this.2⟩
      refine nx_ret (r := rQd rI (rT rI) (rT (rT (rT rI))) (rT rI)) (x := ((p : Int), begin, (g :: L').map (fun g => g.map (·.2)), firsts)) (fun e => EvR.is (ev_qd (ev_nI (lk e 1 rfl)) (lk e 3 rfl) (ev_tupleL (en_lc1 e (ei_l (lk e 5 rfl)) ?_ (fun x => [(12, eR (rL (rL rI)) x)]) (fun x hx => (tg_n 12)) (by simp) (fun x hx σ2 G2 H2 e2 => (ev_tupleL (en_lc1 e2 (ei_l (lk e2 12 rfl)) ?_ (fun x => [(13, eR (rL rI) x)]) (fun x hx => (tg_n 13)) (by simp) (fun x hx σ2 G2 H2 e2 => (ev_tupleL (lk e2 13 rfl)))).ev))).ev) (lk e 4 rfl)) ?_) (fun σ v G' H' e hv => ?_)
      · rw [List.length_map, List.length_cons]
        simp at ls
        omega
      · obtain ⟨g', hg', rfl⟩ := List.mem_map.mp hx
        rw [List.length_map, gd.l g' hg']
        omega
      · simp
      · obtain ⟨vs, hva, _, tva⟩ := e.lst (j := 0) rfl (fun z => nomatch z)
        exact q v G' H' e.fz ⟨begin, firsts, _, vs, ns1, hv, T, gc, lf, hva, tva, bs⟩
    refine s_if1 (fun e => (et_t (ev_neUL (ev_LN (lk e 7 rfl))))) (fun hc => ?_) (fun hc => ?_)
    · have hne : 0 < some_.length := by
        cases some_ with
        | nil => cases hc
        | cons _ _ => exact Nat.succ_pos _
      refine s_asg (r := rN) (x := some_.getD 0 0) (fun e => (ev_gLn (d := 0) (lk e 7 rfl) (ev_litN 0) ?_)) ?_
      · exact hne
      have hat := (hin _).mp (getD_mem (d := 0) hne)
      generalize some_.getD 0 0 = t at hat ⊢
      obtain ⟨t1, t2⟩ := hat
      refine nx_forE (δ := Grp) (r := rN) (l := List.range ((many : Nat) : Int).toNat) (fun e => (ei_r1 (ev_nI (lk e 2 rfl)) ?_ ?_)) (fun g => ⟨[eR rA a, eR rN p, eR rN many, eR (rT rI) begin, eR (rT rI) firsts, eR rA b, eAny, eR (rL rN) some_, eR rN t, eAny, eAny, eAny, eAny, eAny], oL b (rL rA) ((g0 :: L').map fun g => g.map (·.1)) :: oL a rI ns1 .par :: (owns rI g ++ owns rI L'.flatten)⟩) (fun k g => g.map (·.1) = g0.map (·.1) ∧ Dn p many (g :: L') ∧ ∀ (R : Type) [Lean.Grind.CommRing R] (h : Hom R (p : Int)), ∀ i, i < k → sumTo many (fun j => h.f ((g.getD i (0, [])).2.getD j 0) * h.f (firsts.getD j 0)) = h.f (firsts.getD i 0)) g0 (fun x => [(9, eR rN x)]) ⟨by repeat' (first | exact SubE.nil | apply SubE.any | apply SubE.same), List.Sublist.refl _⟩ ⟨rfl, dn, fun R _ h i hi => absurd hi (Nat.not_lt_zero _)⟩ (fun x hx => tg_n 9) ?_ ?_
      · omega
      · omega
      · intro W' f1 f2 f3 k g io hx ⟨ga, gd, gc⟩
        have hxk : io = k ∧ k < many := by
          have hl := (List.getElem?_eq_some_iff.mp hx).1
          rw [List.length_range, Int.toNat_natCast] at hl
          rw [List.getElem?_range (by omega)] at hx
          exact ⟨(Option.some.inj hx).symm, hl⟩
        obtain ⟨rfl, hk⟩ := hxk
        have gl := gd.l g List.mem_cons_self
        have hxg : io < g.length := by omega
        have gw := gd.w g List.mem_cons_self _ (getD_mem (d := ((0 : Addr), ([] : List Int))) hxg)
        have adr : (g0.map (·.1)).getD io 0 = (g.getD io (0, [])).1 := by
          rw [← ga, getDm (d := ((0 : Addr), ([] : List Int))) hxg]
        have own : ∀ {Z : List Own} {o1 o2 : Own}, (o1 :: o2 :: (owns rI g ++ Z))[io + 2]? = some (oL (g.getD io (0, [])).1 rI (g.getD io (0, [])).2) := fun {Z o1 o2} => own_at (Z := Z) hxg
        refine s_asg (r := rI) (x := (((List.range many).filter fun k => !decide (k = t)).map fun k => (g.getD io (0, [])).2.getD k 0 * firsts.getD k 0).sum) (fun e => EvR.is (ev_sum (en_lc e (ei_r1 (ev_nI (lk e 2 rfl)) ?_ ?_) ?_ (fun x => [(10, eR rN x)]) (fun x hx => (tg_n 10)) (by simp) (fun x hx σ2 G2 H2 e2 => (et_t (ev_neN (lk e2 10 rfl) (lk e2 8 rfl)))) (fun x hx hk σ2 G2 H2 e2 => (ev_mul (ev_gO (kd := .new) e2 (io + 2) (EvR.is (ev_gLn (d := (0 : Addr)) (ev_gLn (d := []) (lkO e2 5 0 rfl rfl) (ev_litN 0) ?_) (lk e2 9 rfl) ?_) adr) (lk e2 10 rfl) (by exact own) ?_) (ev_gTn (d := 0) (lk e2 4 rfl) (lk e2 10 rfl) ?_) ?_))).ev) (by rw [Int.toNat_natCast])) ?_
        · omega
        · omega
        · rw [List.length_range]; omega
        · show 0 < ((g0 :: L').map _).length
          exact Nat.succ_pos _
        · show io < (g0.map _).length
          rw [List.length_map, l0]
          omega
        · rw [List.mem_range, Int.toNat_natCast] at hx
          rw [gw.1]
          exact hx
        · rw [List.mem_range, Int.toNat_natCast] at hx
          omega
        · have := nF.getD p0 x
          exact .inr ⟨by omega, by omega⟩
        refine nx_put (io + 2) t (x := (firsts.getD io 0 - (((List.range many).filter fun k => !decide (k = t)).map fun k => (g.getD io (0, [])).2.getD k 0 * firsts.getD k 0).sum) * (back (p : Int) (firsts.getD t 0) : Int) % (p : Int)) (fun e => (ev_mod (ev_mul (ev_sub (ev_gTn (d := 0) (lk e 4 rfl) (lk e 9 rfl) ?_) (lk e 11 rfl)) (ev_nI (ev__law_back (ea_c (ev_nI (lk e 1 rfl)) (ea_c (ev_gTn (d := 0) (lk e 4 rfl) (lk e 8 rfl) ?_) ea_n)) ?_)) ?_) (ev_nI (lk e 1 rfl)) ?_)) (fun e => EvR.is (ev_gLn (d := (0 : Addr)) (ev_gLn (d := []) (lkO e 5 0 rfl rfl) (ev_litN 0) ?_) (lk e 9 rfl) ?_) adr) (fun e => (ev_nI (lk e 8 rfl))) own rfl (by rw [gw.1]; exact t1) (fun z => nomatch z) ?_
        · omega
        · omega
        · have := nF.getD p0 t
          exact ⟨hp, this.1, this.2, t2⟩
        · have := nF.getD p0 t
          have := back_lt (back_ne' hp this.1 this.2 t2)
          exact .inr ⟨by omega, by omega⟩
        · exact p0
        · show 0 < ((g0 :: L').map _).length
          exact Nat.succ_pos _
        · show io < (g0.map _).length
          rw [List.length_map, l0]
          exact hk
        generalize hv : (firsts.getD io 0 - (((List.range many).filter fun k => !decide (k = t)).map fun k => (g.getD io (0, [])).2.getD k 0 * firsts.getD k 0).sum) * (back (p : Int) (firsts.getD t 0) : Int) % (p : Int) = vv
        have vb : 0 ≤ vv ∧ vv < (p : Int) := by
          rw [← hv]
          exact md p0 _
        refine nx_perm (ow' := oL b (rL rA) ((g0 :: L').map fun g => g.map (·.1)) :: oL a rI ns1 .par :: (owns rI (g.set io ((g.getD io (0, [])).1, (g.getD io (0, [])).2.set t vv)) ++ owns rI L'.flatten)) (.of_eq (by
          show oL b (rL rA) ((g0 :: L').map fun g => g.map (·.1)) :: oL a rI ns1 .par :: putO (owns rI g ++ owns rI L'.flatten) io (oL (g.getD io (0, [])).1 rI ((g.getD io (0, [])).2.set t vv)) = _
          rw [putO_at (g := []) hxg])) ?_
        intro σ3 G3 H3 e3
        refine ⟨g.set io ((g.getD io (0, [])).1, (g.getD io (0, [])).2.set t vv), ⟨?_, ⟨fun u hu => ?_, fun u hu q hq => ?_⟩, fun R _ h i hi => ?_⟩, G3, e3.to ⟨by repeat' (first | exact SubE.nil | apply SubE.any | apply SubE.same), List.Sublist.refl _⟩⟩
        · rw [List.map_set, ← ga]
          apply List.ext_getElem?
          intro j
          by_cases hj : io = j
          · subst hj
            rw [List.getElem?_set_self (by rw [List.length_map]; exact hxg), List.getElem?_map, getD_some (d := ((0 : Addr), ([] : List Int))) hxg]
            rfl
          · rw [List.getElem?_set_ne hj]
        · rcases List.mem_cons.mp hu with rfl | hu
          · rw [List.length_set]
            exact gl
          · exact gd.l u (List.mem_cons_of_mem _ hu)
        · rcases List.mem_cons.mp hu with rfl | hu
          · rcases List.mem_or_eq_of_mem_set hq with hq | rfl
            · exact gd.w g List.mem_cons_self q hq
            · refine ⟨by rw [List.length_set]; exact gw.1, gw.2.set vb⟩
          · exact gd.w u (List.mem_cons_of_mem _ hu) q hq
        · by_cases hix : i = io
          · subst hix
            have ds := dot_set h hp t1 gw.1 nF t2 (fi := firsts.getD i 0)
            rw [hv] at ds
            have es : (g.set i ((g.getD i (0, [])).1, (g.getD i (0, [])).2.set t vv)).getD i (0, []) = ((g.getD i (0, [])).1, (g.getD i (0, [])).2.set t vv) := by
              rw [List.getD_eq_getElem?_getD (l := g.set _ _), List.getElem?_set_self hxg]
              rfl
            rw [es]
            exact ds
          · have es : (g.set io ((g.getD io (0, [])).1, (g.getD io (0, [])).2.set t vv)).getD i (0, []) = g.getD i (0, []) := by
              rw [List.getD_eq_getElem?_getD, List.getElem?_set_ne (fun z => hix z.symm), List.getD_eq_getElem?_getD]
            rw [es]
            exact gc R h i (by omega)
      · intro g ⟨ga, gd, gc⟩
        have gl := gd.l g List.mem_cons_self
        refine nx_to (rest g ⟨ga, gd, fun R _ h i hi => ?_⟩) ⟨by repeat' (first | exact SubE.nil | apply SubE.any | apply SubE.same), List.Sublist.refl _⟩
        rw [List.length_range, Int.toNat_natCast] at gc
        have q := gc R h i (by omega)
        rw [lf]
        have e0 : ((((g :: L').map fun g => g.map (·.2)).getD 0 []).getD i []) = (g.getD i (0, [])).2 := by
          show ((g.map (·.2)).getD i []) = _
          rw [getDm (d := ((0 : Addr), ([] : List Int))) (by omega)]
        rw [e0]
        exact q
    · refine nx_to (rest g0 ⟨rfl, dn, fun R _ h i hi => ?_⟩) ⟨by repeat' (first | exact SubE.nil | apply SubE.any | apply SubE.same), List.Sublist.refl _⟩
      have hz : ∀ j, j < many → firsts.getD j 0 = 0 := fun j hj => Classical.byContradiction fun z => by
        have := (hin j).mpr ⟨hj, z⟩
        cases some_ with
        | nil => cases this
        | cons _ _ => cases hc
      rw [lf] at hi ⊢
      rw [hz i hi, h.zero]
      exact sumTo_none fun j hj => by
        rw [hz j hj, h.zero]
        grind

end
end Dg
end
section
set_option Elab.async false
set_option linter.all false
set_option maxRecDepth 100000
set_option maxHeartbeats 4000000
/-! For the law's walk. -/
namespace Dg
open PySem PySem.Spec PyProof.Rows L2 LamX NdefX
section
variable {K : PySem.W.Frag} {σ : L2.St} {G H : Hp} {te ta tb : TE} {tt tu : TT} {D : Ends} {U : TS} {R : R2} {sp : Sp} {E : XK} {Q : VK} {V W : TS}
theorem upd_upd {H : Hp} {a : Addr} {x y : HO} : upd (upd H a x) a y = upd H a y := by
  funext b
  by_cases h : b = a
  · subst h
    rw [upd_same, upd_same]
  · rw [upd_ne h, upd_ne h, upd_ne h]
/-- {2: 5, 3: 4, 5: 3}[p] -/
def most (p : Nat) : Nat := if p = 2 then 5 else if p = 3 then 4 else 3
theorem ev_most {p : Nat} (hp : p = 2 ∨ p = 3 ∨ p = 5) (h : EvR te σ G H rN p) : EvR (tDGet (tDisp [(tC (.int 2), tC (.int 5)), (tC (.int 3), tC (.int 4)), (tC (.int 5), tC (.int 3))]) te) σ G H rN (most p) := fun G1 H1 f Q q => by
  intro a ha
  refine ⟨upd_same, [(.inl 2, .int 5), (.inl 3, .int 4), (.inl 5, .int 3)], rfl, by decide, ?_⟩
  rw [upd_upd]
  have z := Fz.own (o := .dK (mergeK [] [((.inl 2 : Key), V.int 5), (.inl 3, .int 4), (.inl 5, .int 3)])) f.gd ha
  refine h _ _ (f.trans z) _ fun v G2 H2 f2 ev => ?_
  have hd : H2 a = some (.dK (mergeK [] [((.inl 2 : Key), V.int 5), (.inl 3, .int 4), (.inl 5, .int 3)])) := f2.hh _ _ upd_same
  have ev : v = .int p := ev
  have g := DGet.k (k := .inl (p : Int)) hd
  have ek : kV (.inl (p : Int)) = v := ev.symm
  rw [ek] at g
  have eg : valV (mergeK [] [((.inl 2 : Key), V.int 5), (.inl 3, .int 4), (.inl 5, .int 3)]) (.inl (p : Int)) = some (.int (most p)) := by
    rcases hp with rfl | rfl | rfl <;> rfl
  rw [eg] at g
  exact ⟨a, .int (most p), rfl, g, q _ G2 H2 (z.trans f2) rfl⟩
theorem op_of (h : ta σ H fun x H1 => tb σ H1 fun y H2 => R x y H2 Q) : tOp R ta tb σ H Q := h
theorem if_of (h : tt σ H fun b H1 => if b = true then V { D with nx := U D } σ H1 else W { D with nx := U D } σ H1) : tSeq (tIfS tt V W) U D σ H := h
theorem if1_of (h : tt σ H fun b H1 => if b = true then V D σ H1 else W D σ H1) : tIfS tt V W D σ H := h
theorem and_of {Q : Bool → Hp → Prop} (h : tt σ H fun c H1 => if c = true then tu σ H1 Q else Q false H1) : tAnd tt tu σ H Q := h
theorem test_of {Q : Bool → Hp → Prop} (h : te σ H fun x H' => ∃ k, x = .bl k ∧ Q k H') : tTest te σ H Q := h
theorem not_of {Q : Bool → Hp → Prop} (h : tt σ H fun c H1 => Q (!c) H1) : tNot tt σ H Q := h
theorem tB_of {Q : Bool → Hp → Prop} (h : te σ H fun x H1 => ∃ c, x = .bl c ∧ Q c H1) : tB te σ H Q := h
theorem dec_bl {b : Bool} : (decide b : Bool) = b := by cases b <;> rfl
theorem pow_few {p many : Nat} (hp : p = 2 ∨ p = 3 ∨ p = 5) (h : many < most p ∨ (p = 2 ∧ many = 5)) : many ≤ 5 ∧ ((p : Int).toNat) ^ many ≤ 32 := by
  rw [Int.toNat_natCast]
  rcases hp with rfl | rfl | rfl
  · have h5 : many ≤ 5 := by
      rcases h with h | h
      · have : many < 5 := h
        omega
      · omega
    exact ⟨h5, Nat.le_trans (Nat.pow_le_pow_right (by decide) h5) (by decide)⟩
  · have h3 : many ≤ 3 := by
      rcases h with h | h
      · have : many < 4 := h
        omega
      · omega
    exact ⟨by omega, Nat.le_trans (Nat.pow_le_pow_right (by decide) h3) (by decide)⟩
  · have h2 : many ≤ 2 := by
      rcases h with h | h
      · have : many < 3 := h
        omega
      · omega
    exact ⟨by omega, Nat.le_trans (Nat.pow_le_pow_right (by decide) h2) (by decide)⟩
/-- the heap without its tables -/
def bareG (H : Hp) : Hp := fun b => match H b with
  | some (.tbl _) => none
  | o => o
theorem bareG_of {b : Addr} {o : HO} (h : H b = some o) (n : ∀ ps, o ≠ .tbl ps) : bareG H b = some o := by
  unfold bareG
  rw [h]
  cases o with
  | tbl ps => exact absurd rfl (n ps)
  | _ => rfl
theorem bareG_gd : Gd (bareG H) H := ⟨fun b o h => by
  unfold bareG at h
  cases q : H b with
  | none =>
    rw [q] at h
    cases h
  | some u =>
    rw [q] at h
    cases u with
    | tbl ps => cases h
    | _ => exact h, fun b ps h => by
  unfold bareG at h
  cases q : H b with
  | none =>
    rw [q] at h
    cases h
  | some u =>
    rw [q] at h
    cases u <;> cases h⟩
theorem bareG_sqL {a : Addr} {xs : List L2.V} (h : SqL K H a xs) : SqL K (bareG H) a xs := by
  rcases h with (h | ⟨o, h⟩) | h
  · exact .inl (.inl (bareG_of h fun _ z => nomatch z))
  · exact .inl (.inr ⟨o, bareG_of h fun _ z => nomatch z⟩)
  · exact .inr h
theorem tab_new {T : Addr} (h : H T = some (.tbl #[])) : TabG T (bareG H) H := by
  refine ⟨?_, _, h, #[], rfl, trivial, fun q z m => ?_⟩
  · unfold bareG
    rw [h]
  · have m : codeAmong q [] = some z := m
    simp [codeAmong] at m
end
end Dg
end
section
set_option Elab.async false
set_option linter.all false
set_option maxRecDepth 100000
set_option maxHeartbeats 4000000
/-! law. -/
namespace Dg
open PySem PySem.Spec PyProof.Rows L2 LamX NdefX

def sp_law (K : PySem.W.Frag) (T : Addr) : Sp := fun vs H Q _ => ∃ (a : Addr) (ns : List Int), vs = [.ref a] ∧ SqL K H a (ns.map L2.V.int) ∧ H T = some (.tbl #[]) ∧ ∀ H', Q (.bl true) H'
theorem En.back {W : Wd} {L G H : Hp} {σ : L2.St} {Γ : Ct} (e : En { W with lo := L } G H σ Γ) (z : In W.lo L) : En W G H σ Γ := ⟨e.toEo, e.fz, fun b o q => e.lo b o (z b o q), e.ok, e.nd⟩
section
variable {P : Program} {w : World} {K : PySem.W.Frag} {mg : Str → Option Value} {base : Heap}


theorem sc_law : FnScope ["_law_script", "_law_k", "_law_bag_here", "_law_p", "_law_many", "_law_table"] ["_law_script"] (defScope (top 48)) := ⟨rfl, rfl, rfl, by decide +kernel, rfl, by decide +kernel, by decide +kernel⟩
theorem b_law (h : Hd K mg) : Binds K h.fd_law ["_law_script"] [] := h.F_law.bindsN fun _ _ _ _ _ _ us hl => match us, hl with | [_], _ => rfl
theorem ok_law {c T : Addr} (h : Hd K mg) (hcode : h.fd_least_table.code = .ref c) (TB : TabB base mg c T) : FnOk P w K mg base CX0 7 h.f_law h.fd_law ["_law_script"] (sp_law K T) := by
  have nd := sc_law.nd
  refine h.F_law.ok sc_law (fun vs H Q E h => ?_) (fun cdv A outer s H vs Q E hr hsp => ⟨_, PSs.nox
    (pss_cons (ps_for PassesOwn.never rfl (pi_range1 rfl h.b_range (pa_cons pe_int pa_nil)) (pg_name (i := 1) nd rfl (by first | exact .inl rfl | exact .inr rfl)) (pss_cons (ps_set (i := 2) nd rfl (by first | exact .inl rfl | exact .inr rfl) (pe_call (ok__law_bag h) (hr.mono (by decide)) rfl h.g__law_bag h.F__law_bag.kp (b__law_bag h) .nil pass0 (pa_cons (pv 0) (pa_cons (pv 1) pa_nil))))
    (pss_cons (ps_set (i := 3) nd rfl (by first | exact .inl rfl | exact .inr rfl) (pe_ix (k_ixL (K := K) rfl) (pe_lst (pa_cons pe_int (pa_cons pe_int (pa_cons pe_int pa_nil)))) (pe_call (ok__law_take h) (hr.mono (by decide)) rfl h.g__law_take h.F__law_take.kp (b__law_take h) .nil pass0 (pa_cons (pv 2) (pa_cons pe_int pa_nil))) (fun _ _ => rfl)))
    (pss_cons (ps_set (i := 4) nd rfl (by first | exact .inl rfl | exact .inr rfl) (pe_call (ok__law_take h) (hr.mono (by decide)) rfl h.g__law_take h.F__law_take.kp (b__law_take h) .nil pass0 (pa_cons (pv 2) (pa_cons (pe_dget (Nat.lt_of_le_of_lt (Nat.add_le_add_left (by decide : 1 ≤ 64) _) (hu64 hr)) (pe_disp (pps_cons pe_int pe_int (pps_cons pe_int pe_int (pps_cons pe_int pe_int pps_nil))) rfl rfl (by simp) (by decide)) (pv 3) (fun _ _ => rfl)) pa_nil))))
    (pss_cons (ps_if (pt_w (pw_and (pt_cmpR op_eq (pe_call (ok__law_take h) (hr.mono (by decide)) rfl h.g__law_take h.F__law_take.kp (b__law_take h) .nil pass0 (pa_cons (pv 2) (pa_cons pe_int pa_nil))) pe_int (nomark _)) (pw_and1 (pt_cmpR op_eq (pv 3) pe_int (nomark _))))) (pss_one (ps_set (i := 4) nd rfl (by first | exact .inl rfl | exact .inr rfl) pe_int)) pss_nil)
    (pss_cons (ps_set (i := 5) nd rfl (by first | exact .inl rfl | exact .inr rfl) (pe_call (ok__law_drawn_table h) (hr.mono (by decide)) rfl h.g__law_drawn_table h.F__law_drawn_table.kp (b__law_drawn_table h) .nil pass0 (pa_cons (pv 2) (pa_cons (pv 3) (pa_cons (pv 4) pa_nil)))))
    (pss_one (ps_if (pt_not (pt_val (pe_call (ok__law_fulfils h) (hr.mono (by decide)) rfl h.g__law_fulfils h.F__law_fulfils.kp (b__law_fulfils h) .nil pass0 (pa_cons (pv 5) (pa_cons (pe_call (ok_powers_of h hcode TB) (hr.mono (by decide)) rfl h.g_powers_of h.F_powers_of.kp (b_powers_of h) .nil pass0 (pa_cons (pv 5) pa_nil)) pa_nil))))) (pss_one (ps_ret pe_bl)) pss_nil))))))))
    (pss_one (ps_ret pe_bl))), ?_⟩)
  · obtain ⟨_, _, rfl, _⟩ := h
    rfl
  obtain ⟨a, ns, rfl, hS, hT, q⟩ := hsp
  refine (?_ : Nx ⟨[T], bareG H, H, bareG H⟩ _ ⟨[eR (rSc K) ns, eAny, eAny, eAny, eAny, eAny], [oT T nmL]⟩) _ (bareG H) H (en_startT bareG_gd ⟨⟨_, rfl, a, rfl, bareG_sqL hS⟩, trivial, trivial, trivial, trivial, trivial, trivial⟩ rfl (tab_new hT))
  refine s_forE (δ := Unit) (r := rN) (l := List.range (2 : Int).toNat) (fun e => (ei_r1 ev_i ?_ ?_)) (fun _ => ⟨[eR (rSc K) ns, eAny, eAny, eAny, eAny, eAny], [oT T nmL]⟩) (fun _ _ => True) () (fun x => [(1, eR rN x)]) ⟨by repeat' (first | exact SubE.nil | apply SubE.any | apply SubE.same), List.Sublist.refl _⟩ trivial (fun x hx => tg_n 1) ?_ ?_
  · decide
  · decide
  · intro W' f1 f2 f3 k s x hx _
    have hx2 : x < 2 := List.mem_range.mp (List.mem_of_getElem? hx)
    refine s_callW ((ns, x) : List Int × Nat) (fun e => ea_c (lk e 0 rfl) (ea_c (lk e 1 rfl) ea_n)) (fun σ G H e => (show x ≤ 1000 by omega)) (fun σ v G1 H1 G' H' e f post => ?_)
    obtain ⟨b, vs, ms, rfl, hb, hb1, hb2, t, bg⟩ := post
    have e1 := e.step f.to
    obtain ⟨w1, w2⟩ := e.fresh hb
    have e2 := e1.new (o := oL b rI ms) rfl w1 hb1 hb2 ⟨vs, rfl, t.imp fun _ _ q => q⟩ w2
    refine (?_ : Nx W' _ ⟨[eR (rSc K) ns, eR rN x, eR rA b, eAny, eAny, eAny], [oL b rI ms, oT T nmL]⟩) _ G' H' (e2.slots (e2.sl.put 2 (eR rA b) ⟨_, rfl, rfl⟩))
    intro σ2 G2 H2 e3
    refine sasg_of (op_of ?_)
    refine (ev_lst (el_c ev_i (el_c ev_i (el_c ev_i el_n))) (by simp) : EvR _ σ2 G2 H2 (rL rI) [2, 3, 5]) G2 H2 (Fz.refl e3.gd) _ fun u G3 H3 f3 hu => ?_
    have e4 := e3.step f3
    refine callW_run e4.lo' ((b, ms, 3) : Addr × List Int × Nat) (ea_c (lk e4.toEo 2 rfl) (ea_c (ev_litN 3) ea_n)) (fun G H e => ⟨e.lst (j := 0) rfl (fun z => nomatch z), bg, (show 0 < 3 by decide), (show 3 < 1000 by decide)⟩) fun y G4 H4 G5 H5 e5 f5 post => ?_
    obtain ⟨dg, vs5, ms5, rfl, dlt, h5, t5, b5⟩ := post
    have dlt : dg < 3 := dlt
    have e6 := e5.callK (j := 0) (o' := oL b rI ms5) rfl (fun z => nomatch z) f5 rfl rfl h5 ⟨vs5, rfl, t5.imp fun _ _ q => q⟩
    obtain ⟨la, lv, rfl, hl, tl⟩ := hu
    have lve := ints_al tl
    obtain ⟨pk, hp3, hpk⟩ : ∃ pk : Nat, (pk = 2 ∨ pk = 3 ∨ pk = 5) ∧ lv[dg]? = some (.int pk) := by
      rw [lve]
      match dg, dlt with
      | 0, _ => exact ⟨2, .inl rfl, rfl⟩
      | 1, _ => exact ⟨3, .inr (.inl rfl), rfl⟩
      | 2, _ => exact ⟨5, .inr (.inr rfl), rfl⟩
    refine ⟨la, lv, dg, .int pk, rfl, rfl, sqL_of (e6.gd.sub _ _ (e6.lo _ _ hl)), atI_nat hpk, ?_⟩
    have e7 := e6.back e4.lo
    show tSeq _ _ _ (σ2.set 3 (some (.int pk))) H5
    refine (?_ : Nx W' _ ⟨[eR (rSc K) ns, eR rN x, eR rA b, eR rN pk, eAny, eAny], [oL b rI ms5, oT T nmL]⟩) _ G5 H5 (e7.slots (e7.sl.put 3 (eR rN pk) ⟨_, rfl, rfl⟩))
    refine s_callW ((b, ms5, most pk) : Addr × List Int × Nat) (fun e => ea_c (lk e 2 rfl) (ea_c (ev_most hp3 (lk e 3 rfl)) ea_n)) (fun σ G H e => ⟨e.lst (j := 0) rfl (fun z => nomatch z), b5, (show 0 < most pk by rcases hp3 with rfl | rfl | rfl <;> decide), (show most pk < 1000 by rcases hp3 with rfl | rfl | rfl <;> decide)⟩) (fun σ v G1 H1 G' H' e f post => ?_)
    obtain ⟨many, vs6, ms6, rfl, mlt, h6, t6, b6⟩ := post
    have mlt : many < most pk := mlt
    have e8 := e.callK (j := 0) (o' := oL b rI ms6) rfl (fun z => nomatch z) f rfl rfl h6 ⟨vs6, rfl, t6.imp fun _ _ q => q⟩
    refine (?_ : Nx W' _ ⟨[eR (rSc K) ns, eR rN x, eR rA b, eR rN pk, eR rN many, eAny], [oL b rI ms6, oT T nmL]⟩) _ G' H' (e8.slots (e8.sl.put 4 (eR rN many) ⟨_, rfl, rfl⟩))
    refine s_join (δ := Nat × List Int) (fun s => ⟨[eR (rSc K) ns, eR rN x, eR rA b, eR rN pk, eR rN s.1, eAny], [oL b rI s.2, oT T nmL]⟩) (fun s => Bg s.2 ∧ (s.1 < most pk ∨ (pk = 2 ∧ s.1 = 5))) (fun s hs => ?_) (fun rest => ?_)
    · obtain ⟨m, ms7⟩ := s
      obtain ⟨b7, hm⟩ := hs
      have b7 : Bg ms7 := b7
      obtain ⟨m5, mq⟩ := pow_few hp3 (show m < most pk ∨ (pk = 2 ∧ m = 5) from hm)
      have hpm : Pm (pk : Int) := by
        rcases hp3 with rfl | rfl | rfl
        · exact .inl rfl
        · exact .inr (.inl rfl)
        · exact .inr (.inr rfl)
      refine s_callW ((b, ms7, pk, m) : Addr × List Int × Nat × Nat) (fun e => ea_c (lk e 2 rfl) (ea_c (lk e 3 rfl) (ea_c (lk e 4 rfl) ea_n))) (fun σ G H e => ⟨e.lst (j := 0) rfl (fun z => nomatch z), b7, hpm, m5⟩) (fun σ v G1 H1 G' H' e f post => ?_)
      obtain ⟨begin, firsts, steps, vs8, ms8, hv, Tp, C, lf, h8, t8, b8⟩ := post
      have lf : firsts.length = m := lf
      have e9 := e.callK (j := 0) (o' := oL b rI ms8) rfl (fun z => nomatch z) f rfl rfl h8 ⟨vs8, rfl, t8.imp fun _ _ q => q⟩
      refine (?_ : Nx W' _ ⟨[eR (rSc K) ns, eR rN x, eR rA b, eR rN pk, eR rN m, eR (rQd rI (rT rI) rTT (rT rI)) ((pk : Int), begin, steps, firsts)], [oL b rI ms8, oT T nmL]⟩) _ G' H' (e9.slots (e9.sl.put 5 (eR (rQd rI (rT rI) rTT (rT rI)) ((pk : Int), begin, steps, firsts)) ⟨v, rfl, Go.go hv⟩))
      intro σ3 G3 H3 e10
      refine if1_of (not_of (tB_of (call2_of ?_)))
      refine (lk (r := rQd rI (rT rI) rTT (rT rI)) (x := ((pk : Int), begin, steps, firsts)) e10.toEo 5 rfl) G3 H3 (Fz.refl e10.gd) _ fun u G4 H4 f4 eu => ?_
      have e11 := e10.step f4
      refine callW_run (Q := fun y H5 => sp__law_fulfils [u, y] H5 (fun x H1 => ∃ c, x = L2.V.bl c ∧ if (!c) = true then tRet (tC (.bl false)) _ σ3 H1 else tNext _ σ3 H1) E0) e11.lo' (((pk : Int), begin, steps, firsts) : Int × List Int × List (List (List Int)) × List Int) (ea_c (lk e11.toEo 5 rfl) ea_n) (fun G H e => ⟨Tp, C, (show firsts.length ≤ 5 by omega), (show ((pk : Int).toNat) ^ firsts.length ≤ 32 by rw [lf]; exact mq), e.tab (j := 1) rfl⟩) fun y G5 H5 G6 H6 e12 f6 post => ?_
      obtain ⟨⟨powers, hy, F⟩, tg, u6, tu, tp⟩ := post
      have e13 := e12.callK (j := 1) (o' := oT T nmL) rfl (fun z => nomatch z) f6 rfl rfl tu tp
      refine ⟨(((pk : Int), begin, steps, firsts), powers), G6, e13.gd, ⟨u, _, rfl, Go.to eu e13.lo, y, [], rfl, hy, rfl⟩, F, fun v7 G7 H7 f7 hv7 => ⟨true, hv7, ?_⟩⟩
      have e14 := (e13.step f7).back e11.lo
      exact (if_neg (by decide)).mpr ⟨(), trivial, G7, e14.to ⟨by repeat' (first | exact SubE.nil | apply SubE.any | apply SubE.same), List.sublist_cons_self _ _⟩⟩
    · intro σ3 G3 H3 e9
      refine if_of (and_of (test_of (op_of ?_)))
      refine callW_run e9 ((b, ms6, 8) : Addr × List Int × Nat) (ea_c (lk e9.toEo 2 rfl) (ea_c (ev_litN 8) ea_n)) (fun G H e => ⟨e.lst (j := 0) rfl (fun z => nomatch z), b6, (show 0 < 8 by decide), (show 8 < 1000 by decide)⟩) fun y G4 H4 G5 H5 e10 f5 post => ?_
      obtain ⟨dg2, vs7, ms7, rfl, dlt2, h7, t7, b7⟩ := post
      have e11 := e10.callK (j := 0) (o' := oL b rI ms7) rfl (fun z => nomatch z) f5 rfl rfl h7 ⟨vs7, rfl, t7.imp fun _ _ q => q⟩
      have no : ∀ G6 H6, En W' G6 H6 σ3 ⟨[eR (rSc K) ns, eR rN x, eR rA b, eR rN pk, eR rN many, eAny], [oL b rI ms7, oT T nmL]⟩ → _ := fun G6 H6 e => rest (many, ms7) ⟨b7, .inl mlt⟩ σ3 G6 H6 e
      refine ⟨rfl, _, rfl, ?_⟩
      by_cases hk : (decide (L2.V.int (dg2 : Int) = L2.V.int 7)) = true
      · refine (if_pos hk).mpr ?_
        refine (et_t (ev_eqN (lk (r := rN) (x := pk) e11.toEo 3 rfl) (ev_litN 2))) G5 H5 (Fz.refl e11.gd) _ fun G6 H6 f6 => ?_
        have e12 := e11.step f6
        by_cases h2 : (decide (pk = 2)) = true
        · refine (if_pos h2).mpr (asg_of ?_)
          exact rest (5, ms7) ⟨b7, .inr ⟨of_decide_eq_true h2, rfl⟩⟩ _ G6 H6 (e12.slots (e12.sl.put 4 (eR rN 5) ⟨_, rfl, rfl⟩))
        · refine (if_neg h2).mpr ?_
          exact no G6 H6 e12
      · refine (if_neg hk).mpr ((if_neg Bool.false_ne_true).mpr ?_)
        exact no G5 H5 e11
  · intro s _
    refine nx_ret (r := rB) (x := true) (fun e => ev_b) (fun σ v G' H' e hv => ?_)
    have hv : v = .bl true := hv
    subst hv
    exact q H'

end
end Dg
end
section
set_option Elab.async false
set_option linter.all false
set_option maxRecDepth 100000
set_option maxHeartbeats 0
/-! The head: what it tells, its run. -/
namespace Dg
open PySem PySem.Spec PyProof.Rows L2
def mkD (i : Nat) (x : Str) : He.DefD := ⟨(x, none), x, x, defArgs (top i), defBody (top i), defScope (top i), [], []⟩
def mkM (j : Nat) (x q : Str) : He.DefD := ⟨("Space", some x), x, q, defArgs (inClass (top 15) j), defBody (inClass (top 15) j), defScope (inClass (top 15) j), [], []⟩
def hfn1 : List He.DefD := [mkM 0 "__init__" "Space.__init__", mkM 1 "brought_down" "Space.brought_down", mkM 2 "mix_of" "Space.mix_of", mkM 3 "take" "Space.take", mkD 4 "back_of", mkD 5 "trimmed", mkD 6 "added", mkD 7 "multiplied", mkD 8 "part_taken", mkD 9 "spread_out", mkD 11 "led", mkD 12 "summed", mkD 13 "column_led", mkD 16 "keeper_table", mkD 17 "columns_of", mkD 18 "least_table", mkD 21 "power_of", mkD 22 "step_polys", mkD 23 "spread_polys", mkD 24 "row_by_square", mkD 25 "rows_by_powers", mkD 26 "how_often", mkD 27 "less_often", mkD 28 "brought_down", mkD 29 "relation_of", mkD 30 "begun_by_some", mkD 31 "powers_of", mkD 33 "_law_bag", mkD 34 "_law_take", mkD 35 "_law_back"]
def hfn2 : List He.DefD := [mkD 36 "_law_numbers", mkD 37 "_law_drawn_table", mkD 38 "_law_trimmed", mkD 39 "_law_part", mkD 40 "_law_times", mkD 41 "_law_plus", mkD 42 "_law_woven", mkD 43 "_law_spread", mkD 44 "_law_sum_row", mkD 45 "_law_left", mkD 46 "_law_is_nought", mkD 47 "_law_fulfils", mkD 48 "law"]
def hfn : List He.DefD := hfn1 ++ hfn2
def hfa1 : List He.Fa := [.free "len", .free "list", .free "tuple", .free "int", .free "sum", .free "any", .free "max", .free "min", .free "abs", .free "range", .free "enumerate", .free "zip", .int "MOST_FAR" 32, .glo "Space", .cls "Space", .noat "Space" "prime", .noat "Space" "many", .noat "Space" "lines", .meth "Space" "brought_down", .meth "Space" "mix_of", .meth "Space" "take", .mkr "Space", .glo "back_of", .glo "trimmed", .glo "added", .glo "multiplied", .glo "part_taken", .glo "spread_out", .glo "led", .glo "summed"]
def hfa2 : List He.Fa := [.glo "column_led", .glo "keeper_table", .glo "columns_of", .glo "least_table", .glo "power_of", .glo "step_polys", .glo "spread_polys", .glo "row_by_square", .glo "rows_by_powers", .glo "how_often", .glo "less_often", .glo "brought_down", .glo "relation_of", .glo "begun_by_some", .glo "powers_of", .glo "_law_bag", .glo "_law_take", .glo "_law_back", .glo "_law_numbers", .glo "_law_drawn_table", .glo "_law_trimmed", .glo "_law_part", .glo "_law_times", .glo "_law_plus", .glo "_law_woven", .glo "_law_spread", .glo "_law_sum_row", .glo "_law_left", .glo "_law_is_nought", .glo "_law_fulfils"]
def hfa3 : List He.Fa := [.glo "law"]
def hfa : List He.Fa := hfa1 ++ hfa2 ++ hfa3
def hnames1 : List PySem.Str := ["DigitError", "TooGreat", "back_of", "trimmed", "added", "multiplied", "part_taken", "spread_out", "led", "summed", "column_led", "Space", "keeper_table", "columns_of", "least_table", "MOST_FAR", "power_of", "step_polys", "spread_polys", "row_by_square", "rows_by_powers", "how_often", "less_often", "brought_down", "relation_of", "begun_by_some", "powers_of", "_law_bag", "_law_take", "_law_back"]
def hnames2 : List PySem.Str := ["_law_numbers", "_law_drawn_table", "_law_trimmed", "_law_part", "_law_times", "_law_plus", "_law_woven", "_law_spread", "_law_sum_row", "_law_left", "_law_is_nought", "_law_fulfils"]
def hnames : List PySem.Str := hnames1 ++ hnames2
def htf : List He.Defn := [("least_table", none)]
abbrev HR : PySem.W.OpenRow := PySem.W.OpenLaw.row PySem.Challenge.rw_digitroots_k38_whole_fulfilled
abbrev hhk : PySem.W.Hook := He.hookX 5 hfa hfn [] htf (fun _ => true)
def hob (s : PySem.W.SharedT) : He.AlX := He.obsX 5 hfa hfn [] htf (fun _ => true) (HandSHeadRun.getT s)
theorem hob_eq (s : PySem.W.SharedT) : hob s = hhk.obs s.abs := He.obsX_eq (HandSHeadRun.getT_eq s)
theorem hrun (w : World) : HandSHeadRun.RunEq HR (PySem.W.view HR.prog [48]) hhk hob 3000 hnames w := by
  intro os
  kernel_rfl
theorem hd_of {K : PySem.W.Frag} {w : World} {h : Heap} {mg : Str → Option Value} (X : K.In h) (G : h.Ns mainGlobals mg) (c : He.SaysX hfa hfn [] htf (fun _ => true) w h K) : ∃ H : Hd K mg, H.f_law = He.ga K "law" ∧ H.fd_least_table.code = .ref (He.cT K ("least_table", none)).1 := by
  have d : He.SaysD hfa hfn K := c.t.d
  obtain ⟨d0, F0⟩ := d.def_ 0 (d := mkM 0 "__init__" "Space.__init__") rfl
  obtain ⟨d1, F1⟩ := d.def_ 1 (d := mkM 1 "brought_down" "Space.brought_down") rfl
  obtain ⟨d2, F2⟩ := d.def_ 2 (d := mkM 2 "mix_of" "Space.mix_of") rfl
  obtain ⟨d3, F3⟩ := d.def_ 3 (d := mkM 3 "take" "Space.take") rfl
  obtain ⟨d4, F4⟩ := d.def_ 4 (d := mkD 4 "back_of") rfl
  obtain ⟨d5, F5⟩ := d.def_ 5 (d := mkD 5 "trimmed") rfl
  obtain ⟨d6, F6⟩ := d.def_ 6 (d := mkD 6 "added") rfl
  obtain ⟨d7, F7⟩ := d.def_ 7 (d := mkD 7 "multiplied") rfl
  obtain ⟨d8, F8⟩ := d.def_ 8 (d := mkD 8 "part_taken") rfl
  obtain ⟨d9, F9⟩ := d.def_ 9 (d := mkD 9 "spread_out") rfl
  obtain ⟨d10, F10⟩ := d.def_ 10 (d := mkD 11 "led") rfl
  obtain ⟨d11, F11⟩ := d.def_ 11 (d := mkD 12 "summed") rfl
  obtain ⟨d12, F12⟩ := d.def_ 12 (d := mkD 13 "column_led") rfl
  obtain ⟨d13, F13⟩ := d.def_ 13 (d := mkD 16 "keeper_table") rfl
  obtain ⟨d14, F14⟩ := d.def_ 14 (d := mkD 17 "columns_of") rfl
  obtain ⟨d15, F15⟩ := d.def_ 15 (d := mkD 18 "least_table") rfl
  obtain ⟨d16, F16⟩ := d.def_ 16 (d := mkD 21 "power_of") rfl
  obtain ⟨d17, F17⟩ := d.def_ 17 (d := mkD 22 "step_polys") rfl
  obtain ⟨d18, F18⟩ := d.def_ 18 (d := mkD 23 "spread_polys") rfl
  obtain ⟨d19, F19⟩ := d.def_ 19 (d := mkD 24 "row_by_square") rfl
  obtain ⟨d20, F20⟩ := d.def_ 20 (d := mkD 25 "rows_by_powers") rfl
  obtain ⟨d21, F21⟩ := d.def_ 21 (d := mkD 26 "how_often") rfl
  obtain ⟨d22, F22⟩ := d.def_ 22 (d := mkD 27 "less_often") rfl
  obtain ⟨d23, F23⟩ := d.def_ 23 (d := mkD 28 "brought_down") rfl
  obtain ⟨d24, F24⟩ := d.def_ 24 (d := mkD 29 "relation_of") rfl
  obtain ⟨d25, F25⟩ := d.def_ 25 (d := mkD 30 "begun_by_some") rfl
  obtain ⟨d26, F26⟩ := d.def_ 26 (d := mkD 31 "powers_of") rfl
  obtain ⟨d27, F27⟩ := d.def_ 27 (d := mkD 33 "_law_bag") rfl
  obtain ⟨d28, F28⟩ := d.def_ 28 (d := mkD 34 "_law_take") rfl
  obtain ⟨d29, F29⟩ := d.def_ 29 (d := mkD 35 "_law_back") rfl
  obtain ⟨d30, F30⟩ := d.def_ 30 (d := mkD 36 "_law_numbers") rfl
  obtain ⟨d31, F31⟩ := d.def_ 31 (d := mkD 37 "_law_drawn_table") rfl
  obtain ⟨d32, F32⟩ := d.def_ 32 (d := mkD 38 "_law_trimmed") rfl
  obtain ⟨d33, F33⟩ := d.def_ 33 (d := mkD 39 "_law_part") rfl
  obtain ⟨d34, F34⟩ := d.def_ 34 (d := mkD 40 "_law_times") rfl
  obtain ⟨d35, F35⟩ := d.def_ 35 (d := mkD 41 "_law_plus") rfl
  obtain ⟨d36, F36⟩ := d.def_ 36 (d := mkD 42 "_law_woven") rfl
  obtain ⟨d37, F37⟩ := d.def_ 37 (d := mkD 43 "_law_spread") rfl
  obtain ⟨d38, F38⟩ := d.def_ 38 (d := mkD 44 "_law_sum_row") rfl
  obtain ⟨d39, F39⟩ := d.def_ 39 (d := mkD 45 "_law_left") rfl
  obtain ⟨d40, F40⟩ := d.def_ 40 (d := mkD 46 "_law_is_nought") rfl
  obtain ⟨d41, F41⟩ := d.def_ 41 (d := mkD 47 "_law_fulfils") rfl
  obtain ⟨d42, F42⟩ := d.def_ 42 (d := mkD 48 "law") rfl
  have hcode : d15.code = .ref (He.cT K ("least_table", none)).1 := by
    obtain ⟨_, _, _, _, _, _, _, z, _, _, ef, lk, ok, _, _⟩ := F15.ex
    obtain ⟨a, ea⟩ := He.codeIn_ref ok
    have ec : d15.code = .ref a := by
      rw [ef]
      exact ea
    rw [ec, show (He.cT K ("least_table", none)).1 = a from He.codeOf_eq lk ec]
  exact ⟨{
    b_len := He.free_ok X G (d.fact 0 (f := .free "len") rfl)
    b_list := He.free_ok X G (d.fact 1 (f := .free "list") rfl)
    b_tuple := He.free_ok X G (d.fact 2 (f := .free "tuple") rfl)
    b_int := He.free_ok X G (d.fact 3 (f := .free "int") rfl)
    b_sum := He.free_ok X G (d.fact 4 (f := .free "sum") rfl)
    b_any := He.free_ok X G (d.fact 5 (f := .free "any") rfl)
    b_max := He.free_ok X G (d.fact 6 (f := .free "max") rfl)
    b_min := He.free_ok X G (d.fact 7 (f := .free "min") rfl)
    b_abs := He.free_ok X G (d.fact 8 (f := .free "abs") rfl)
    b_range := He.free_ok X G (d.fact 9 (f := .free "range") rfl)
    b_enumerate := He.free_ok X G (d.fact 10 (f := .free "enumerate") rfl)
    b_zip := He.free_ok X G (d.fact 11 (f := .free "zip") rfl)
    c_MOST_FAR := He.int_ok X G (d.fact 12 (f := .int "MOST_FAR" 32) rfl)
    C := He.ga K "Space"
    g_Space := He.glo_ok X G (d.fact 13 (f := .glo "Space") rfl)
    cC := He.cls_ok (d.fact 14 (f := .cls "Space") rfl)
    na_prime := He.noat_ok (d.fact 15 (f := .noat "Space" "prime") rfl)
    na_many := He.noat_ok (d.fact 16 (f := .noat "Space" "many") rfl)
    na_lines := He.noat_ok (d.fact 17 (f := .noat "Space" "lines") rfl)
    f_s_init := He.ma K (He.ga K "Space") "__init__"
    fd_s_init := d0
    F_s_init := F0
    f_s_brought_down := He.ma K (He.ga K "Space") "brought_down"
    fd_s_brought_down := d1
    F_s_brought_down := F1
    mt_brought_down := He.meth_ok (d.fact 18 (f := .meth "Space" "brought_down") rfl)
    f_s_mix_of := He.ma K (He.ga K "Space") "mix_of"
    fd_s_mix_of := d2
    F_s_mix_of := F2
    mt_mix_of := He.meth_ok (d.fact 19 (f := .meth "Space" "mix_of") rfl)
    f_s_take := He.ma K (He.ga K "Space") "take"
    fd_s_take := d3
    F_s_take := F3
    mt_take := He.meth_ok (d.fact 20 (f := .meth "Space" "take") rfl)
    mkC := He.mkr_ok (d.fact 21 (f := .mkr "Space") rfl)
    f_back_of := He.ga K "back_of"
    fd_back_of := d4
    g_back_of := He.glo_ok X G (d.fact 22 (f := .glo "back_of") rfl)
    F_back_of := F4
    f_trimmed := He.ga K "trimmed"
    fd_trimmed := d5
    g_trimmed := He.glo_ok X G (d.fact 23 (f := .glo "trimmed") rfl)
    F_trimmed := F5
    f_added := He.ga K "added"
    fd_added := d6
    g_added := He.glo_ok X G (d.fact 24 (f := .glo "added") rfl)
    F_added := F6
    f_multiplied := He.ga K "multiplied"
    fd_multiplied := d7
    g_multiplied := He.glo_ok X G (d.fact 25 (f := .glo "multiplied") rfl)
    F_multiplied := F7
    f_part_taken := He.ga K "part_taken"
    fd_part_taken := d8
    g_part_taken := He.glo_ok X G (d.fact 26 (f := .glo "part_taken") rfl)
    F_part_taken := F8
    f_spread_out := He.ga K "spread_out"
    fd_spread_out := d9
    g_spread_out := He.glo_ok X G (d.fact 27 (f := .glo "spread_out") rfl)
    F_spread_out := F9
    f_led := He.ga K "led"
    fd_led := d10
    g_led := He.glo_ok X G (d.fact 28 (f := .glo "led") rfl)
    F_led := F10
    f_summed := He.ga K "summed"
    fd_summed := d11
    g_summed := He.glo_ok X G (d.fact 29 (f := .glo "summed") rfl)
    F_summed := F11
    f_column_led := He.ga K "column_led"
    fd_column_led := d12
    g_column_led := He.glo_ok X G (d.fact 30 (f := .glo "column_led") rfl)
    F_column_led := F12
    f_keeper_table := He.ga K "keeper_table"
    fd_keeper_table := d13
    g_keeper_table := He.glo_ok X G (d.fact 31 (f := .glo "keeper_table") rfl)
    F_keeper_table := F13
    f_columns_of := He.ga K "columns_of"
    fd_columns_of := d14
    g_columns_of := He.glo_ok X G (d.fact 32 (f := .glo "columns_of") rfl)
    F_columns_of := F14
    f_least_table := He.ga K "least_table"
    fd_least_table := d15
    g_least_table := He.glo_ok X G (d.fact 33 (f := .glo "least_table") rfl)
    F_least_table := F15
    f_power_of := He.ga K "power_of"
    fd_power_of := d16
    g_power_of := He.glo_ok X G (d.fact 34 (f := .glo "power_of") rfl)
    F_power_of := F16
    f_step_polys := He.ga K "step_polys"
    fd_step_polys := d17
    g_step_polys := He.glo_ok X G (d.fact 35 (f := .glo "step_polys") rfl)
    F_step_polys := F17
    f_spread_polys := He.ga K "spread_polys"
    fd_spread_polys := d18
    g_spread_polys := He.glo_ok X G (d.fact 36 (f := .glo "spread_polys") rfl)
    F_spread_polys := F18
    f_row_by_square := He.ga K "row_by_square"
    fd_row_by_square := d19
    g_row_by_square := He.glo_ok X G (d.fact 37 (f := .glo "row_by_square") rfl)
    F_row_by_square := F19
    f_rows_by_powers := He.ga K "rows_by_powers"
    fd_rows_by_powers := d20
    g_rows_by_powers := He.glo_ok X G (d.fact 38 (f := .glo "rows_by_powers") rfl)
    F_rows_by_powers := F20
    f_how_often := He.ga K "how_often"
    fd_how_often := d21
    g_how_often := He.glo_ok X G (d.fact 39 (f := .glo "how_often") rfl)
    F_how_often := F21
    f_less_often := He.ga K "less_often"
    fd_less_often := d22
    g_less_often := He.glo_ok X G (d.fact 40 (f := .glo "less_often") rfl)
    F_less_often := F22
    f_brought_down := He.ga K "brought_down"
    fd_brought_down := d23
    g_brought_down := He.glo_ok X G (d.fact 41 (f := .glo "brought_down") rfl)
    F_brought_down := F23
    f_relation_of := He.ga K "relation_of"
    fd_relation_of := d24
    g_relation_of := He.glo_ok X G (d.fact 42 (f := .glo "relation_of") rfl)
    F_relation_of := F24
    f_begun_by_some := He.ga K "begun_by_some"
    fd_begun_by_some := d25
    g_begun_by_some := He.glo_ok X G (d.fact 43 (f := .glo "begun_by_some") rfl)
    F_begun_by_some := F25
    f_powers_of := He.ga K "powers_of"
    fd_powers_of := d26
    g_powers_of := He.glo_ok X G (d.fact 44 (f := .glo "powers_of") rfl)
    F_powers_of := F26
    f__law_bag := He.ga K "_law_bag"
    fd__law_bag := d27
    g__law_bag := He.glo_ok X G (d.fact 45 (f := .glo "_law_bag") rfl)
    F__law_bag := F27
    f__law_take := He.ga K "_law_take"
    fd__law_take := d28
    g__law_take := He.glo_ok X G (d.fact 46 (f := .glo "_law_take") rfl)
    F__law_take := F28
    f__law_back := He.ga K "_law_back"
    fd__law_back := d29
    g__law_back := He.glo_ok X G (d.fact 47 (f := .glo "_law_back") rfl)
    F__law_back := F29
    f__law_numbers := He.ga K "_law_numbers"
    fd__law_numbers := d30
    g__law_numbers := He.glo_ok X G (d.fact 48 (f := .glo "_law_numbers") rfl)
    F__law_numbers := F30
    f__law_drawn_table := He.ga K "_law_drawn_table"
    fd__law_drawn_table := d31
    g__law_drawn_table := He.glo_ok X G (d.fact 49 (f := .glo "_law_drawn_table") rfl)
    F__law_drawn_table := F31
    f__law_trimmed := He.ga K "_law_trimmed"
    fd__law_trimmed := d32
    g__law_trimmed := He.glo_ok X G (d.fact 50 (f := .glo "_law_trimmed") rfl)
    F__law_trimmed := F32
    f__law_part := He.ga K "_law_part"
    fd__law_part := d33
    g__law_part := He.glo_ok X G (d.fact 51 (f := .glo "_law_part") rfl)
    F__law_part := F33
    f__law_times := He.ga K "_law_times"
    fd__law_times := d34
    g__law_times := He.glo_ok X G (d.fact 52 (f := .glo "_law_times") rfl)
    F__law_times := F34
    f__law_plus := He.ga K "_law_plus"
    fd__law_plus := d35
    g__law_plus := He.glo_ok X G (d.fact 53 (f := .glo "_law_plus") rfl)
    F__law_plus := F35
    f__law_woven := He.ga K "_law_woven"
    fd__law_woven := d36
    g__law_woven := He.glo_ok X G (d.fact 54 (f := .glo "_law_woven") rfl)
    F__law_woven := F36
    f__law_spread := He.ga K "_law_spread"
    fd__law_spread := d37
    g__law_spread := He.glo_ok X G (d.fact 55 (f := .glo "_law_spread") rfl)
    F__law_spread := F37
    f__law_sum_row := He.ga K "_law_sum_row"
    fd__law_sum_row := d38
    g__law_sum_row := He.glo_ok X G (d.fact 56 (f := .glo "_law_sum_row") rfl)
    F__law_sum_row := F38
    f__law_left := He.ga K "_law_left"
    fd__law_left := d39
    g__law_left := He.glo_ok X G (d.fact 57 (f := .glo "_law_left") rfl)
    F__law_left := F39
    f__law_is_nought := He.ga K "_law_is_nought"
    fd__law_is_nought := d40
    g__law_is_nought := He.glo_ok X G (d.fact 58 (f := .glo "_law_is_nought") rfl)
    F__law_is_nought := F40
    f__law_fulfils := He.ga K "_law_fulfils"
    fd__law_fulfils := d41
    g__law_fulfils := He.glo_ok X G (d.fact 59 (f := .glo "_law_fulfils") rfl)
    F__law_fulfils := F41
    f_law := He.ga K "law"
    fd_law := d42
    g_law := He.glo_ok X G (d.fact 60 (f := .glo "law") rfl)
    F_law := F42 }, rfl, hcode⟩
end Dg
end
set_option Elab.async false
set_option linter.all false
set_option maxRecDepth 100000
set_option maxHeartbeats 0
/-! The end. -/
namespace Dg
open PySem PySem.Spec PyProof.Rows L2 LamX
theorem law_at {w : World} {K : PySem.W.Frag} {h : Heap} {mg : Str → Option Value} {fa : Addr} (X : K.In h) (G : h.Ns mainGlobals mg) (hgl : mg ("law" : Str) = some (.ref fa)) (c : He.SaysX hfa hfn [] htf (fun _ => true) w h K) :
    LawAtS PySem.Challenge.rw_digitroots_k38_whole_fulfilled w K CX0 7 63 "_law_script" mg fa h := by
  obtain ⟨H, hl, hcode⟩ := hd_of X G c
  have hm : (("least_table", none) : He.Defn) ∈ htf := List.mem_singleton.mpr rfl
  have e := hgl.symm.trans H.g_law
  have ef : fa = H.f_law := by
    injection e with e
    injection e
  subst ef
  have one : ∀ p ∈ [He.cT K (("least_table", none) : He.Defn)], p = He.cT K (("least_table", none) : He.Defn) := fun p hp => List.mem_singleton.mp hp
  refine ⟨H.fd_law, [He.cT K ("least_table", none)], sp_law K (He.cT K ("least_table", none)).2, fun p hp => ?_, fun p hp => ?_, fun p hp => ?_, fun s u => ?_, fun Hp a ns hn hb hT hS => ?_, fun base hK hN hTB => ?_⟩
  · rw [one p hp]
    exact c.empty _ hm
  · rw [one p hp]
    exact c.out _ hm
  · rw [one p hp]
    exact PySem.W.codeHd_of_K X (c.hd _ hm)
  · have b := FunD.bindsA (ps := ["_law_script"]) H.F_law fun _ _ _ _ _ _ us hl => match us, hl with | [_], _ => rfl
    exact b s [u] rfl
  · exact ⟨a, ns, rfl, hS, hT _ (List.mem_singleton.mpr rfl), fun _ => rfl⟩
  · exact ok_law H hcode (hTB _ (List.mem_singleton.mpr rfl))
end Dg
open PySem PySem.W PySem.Calls PyProof.Rows
theorem PySem.Challenge.cw_digitroots_k38_whole_fulfilled_holds : PySem.Challenge.rw_digitroots_k38_whole_fulfilled.Holds := by
  w_on; o_law
  refine HandSHeadRun.head_any (r := OpenLaw.row PySem.Challenge.rw_digitroots_k38_whole_fulfilled) (q := view (OpenLaw.row PySem.Challenge.rw_digitroots_k38_whole_fulfilled).prog [48]) (H := Dg.hhk) (ob := Dg.hob) (M := 3000) (loose := Dg.hnames) (d := HandSHeadRun.topDef (OpenLaw.row PySem.Challenge.rw_digitroots_k38_whole_fulfilled).prog 48) (kwd := []) Dg.hob_eq
    (by kernel_rfl) (fun s => by kernel_rfl) Dg.hrun (by kernel_rfl) (by kernel_rfl) (by kernel_rfl) (by rfl) (by first | assumption | decide +kernel) (by decide +kernel) ⟨rfl, rfl, rfl, rfl, rfl, by decide +kernel⟩ ?hw ?hc
  case hw => w_witness2
  case hc =>
    refine LamX.walk_ofTsE (l := PySem.Challenge.rw_digitroots_k38_whole_fulfilled) (n := 63) (k := 7) (x := "_law_script") (CX := fun _ => L2.CX0) rfl (by decide) (by kernel_rfl) ⟨rfl, by decide, by decide⟩ ?F (fun _ _ _ _ _ z => z)
    intro w mg fa h Y G hmg0
    obtain ⟨K, KX, c⟩ := Y
    have hmg : mg ("law" : PySem.Str) = some (.ref fa) := by
      have e : (HandSHeadRun.topDef (OpenLaw.row PySem.Challenge.rw_digitroots_k38_whole_fulfilled).prog 48).name = ("law" : PySem.Str) := by kernel_rfl
      rw [← e]
      exact hmg0
    exact ⟨K, KX, Dg.law_at KX G hmg c⟩
